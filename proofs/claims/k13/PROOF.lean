import PyProof.Rows.All
import Wide.All
import OpenK.AllK
import Wide.FinOn
import HandS.ForMost
import HandS.ForExc
import HandS.ExcInit
import HandS.TryMany
import HandS.IsInst
import HandS.Deep
import HandS.Walk
import HandS.Style
import HandS.CallSlots
import HandS.TupAny
import HandS.TupMul
import HandS.Defaults
import HandS.OwnEq
import HandS.ExcIs
import HandS.ExcField
import HandS.Small
import HandS.SetFor
import HandS.Head0
import HandS.Head1
import HandS.Head2
import HandS.HeadEnd
import HandS.HeadHook1
import HandS.HeadHook2
import KE.GoesEnum
import HandS.Zip
import HandS.Conv
import HandS.HeadWalk
import HandS.Strs
import PyProof.AutoSeq1
import PySem.Challenge.RW_onepicture_k13_whole_new_names
import KE.GoesZip
set_option Elab.async false
set_option linter.all false
set_option maxRecDepth 100000
set_option maxHeartbeats 4000000
/-! A small machine of my own over values that are trees: terms X, S over slots, what they give (ev, ex). -/
namespace Ev
open PySem

/-! ### values -/
inductive D where
  | non | bl (b : Bool) | int (i : Int) | str (s : Str)
  | tup (xs : List D) | lst (xs : List D) | dic (kvs : List (D × D))
  | ins (c : Nat) (fs : List (Str × D)) | cel (n : Nat) | fn (f : Nat) | scr (ns : List Int)
  deriving Inhabited
abbrev Wd := List D
inductive Rs (α : Type) where
  | ok (a : α) (w : Wd) | exc (c : Nat) (x : Option D) (w : Wd) | stk
def M (α : Type) := Wd → Rs α
namespace M
def pur {α : Type} (a : α) : M α := fun w => .ok a w
def bnd {α β : Type} (m : M α) (f : α → M β) : M β := fun w => match m w with
  | .ok a w' => f a w'
  | .exc c x w' => .exc c x w'
  | .stk => .stk
end M
instance : Monad M where
  pure := M.pur
  bind := M.bnd
def stk {α : Type} : M α := fun _ => .stk
def rse {α : Type} (c : Nat) (x : Option D) : M α := fun w => .exc c x w
theorem bind_def {α β : Type} (m : M α) (f : α → M β) (w : Wd) : (m >>= f) w = (match m w with | .ok a w' => f a w' | .exc c x w' => .exc c x w' | .stk => .stk) := rfl
@[simp] theorem pure_bnd {α β : Type} (a : α) (f : α → M β) : (pure a : M α) >>= f = f a := rfl
@[simp] theorem stk_bnd {α β : Type} (f : α → M β) : (stk : M α) >>= f = stk := rfl
@[simp] theorem rse_bnd {α β : Type} (c : Nat) (x : Option D) (f : α → M β) : (rse c x : M α) >>= f = rse c x := rfl
@[simp] theorem bnd_assoc {α β γ : Type} (m : M α) (f : α → M β) (g : β → M γ) : (m >>= f) >>= g = m >>= fun a => f a >>= g := by
  funext w
  simp only [bind_def]
  cases m w <;> rfl
@[simp] theorem bnd_pure {α : Type} (m : M α) : (m >>= fun a => pure a) = m := by
  funext w
  simp only [bind_def]
  cases m w <;> rfl
theorem pure_ap {α : Type} (a : α) (w : Wd) : (pure a : M α) w = .ok a w := rfl

/-- a slot: nothing known, a value that stays, a container that nobody else holds, a caught exception -/
inductive Slot where
  | un | val (d : D) | own (d : D) | exc (c : Nat) (x : Option D)
  deriving Inhabited
abbrev Env := List Slot

/-! ### terms -/
inductive Bo where | add | sub | mul | fdv | mod | pow
  deriving DecidableEq
inductive Co where | eq | ne | lt | le | gt | ge | is | nis | isin | nin
  deriving DecidableEq
/-- builtins of one argument -/
inductive B1 where | len | tuple | list | int | str | abs | all | any | sum | max | min | sorted | set | dict | repr | bool
  deriving DecidableEq
/-- a type that isinstance asks -/
inductive Ty where | int | bool | str | tuple | list | dict | cls (c : Nat)
  deriving DecidableEq
/-- targets -/
inductive Tg where
  | n (i : Nat) | t (ts : List Tg)
mutual
inductive X where
  | k (d : D)
  | v (i : Nat)
  | g (j : Nat)
  | tup (es : Xs) | lst (es : Xs)
  | bin (o : Bo) (a b : X) | neg (a : X) | not (a : X)
  | cmp (o : Co) (a b : X) | cmp2 (o o' : Co) (a b c : X)
  | and (es : Xs) | or (es : Xs) | ite (c a b : X)
  | idx (a b : X) | sli (a : X) (lo hi : Xo) | rev (a : X)
  | fld (a : X) (f : Str)
  | call (j : Nat) (es : Xs) | cav (i : Nat) (es : Xs) | mk (c : Nat) (es : Xs)
  | b1 (b : B1) (a : X) | max2 (a b : X) | min2 (a b : X)
  | isa (a : X) (ts : List Ty)
  | lc (e : X) (tg : Tg) (it : It) (c : Xo) (vs : List Nat)
  | lenset (a : X)
  | srtset (a : X)
  | lidx (a b : X)
  | dict0
  | dic1 (a b : X)
  | get (d a b : X)
  | lrng (a : X)
  | bad
inductive Xs where
  | nil | cons (x : X) (r : Xs)
inductive Xo where
  | no | so (x : X)
/-- what a loop goes over -/
inductive It where
  | x (a : X) | rng (es : Xs) | enum (es : Xs) | zip (es : Xs)
end
mutual
inductive S where
  | set (i : Nat) (e : X) (own : Bool)
  | setG (t : Tg) (e : X)
  | par (ts : List (Nat × Bool)) (es : Xs)
  | stx (i : Nat) (k e : X)
  | stf (i : Nat) (f : Str) (e : X)
  | augx (i : Nat) (k : X) (o : Bo) (e : X)
  | app (i : Nat) (es : Xs) | ext (i : Nat) (es : Xs)
  | pop (j i : Nat) | popat (j i : Nat) (es : Xs) | popx (i : Nat) (es : Xs) | apppop (l i : Nat) (es : Xs)
  | ex (e : X)
  | ret (e : X) | retc (e : X)
  | iff (c : X) (a b : Ss)
  | whl (c : X) (b : Ss)
  | for (tg : Tg) (it : It) (b : Ss)
  | brk | cnt | pas
  | rse (c : Nat) (e : Xo)
  | tri (b : Ss) (hs : Hs)
  | frz (is : List Nat) (s : S)
  | bad
inductive Ss where
  | nil | cons (s : S) (r : Ss)
/-- except clauses: the class, the slot of the name, the suite -/
inductive Hs where
  | nil | cons (c : Nat) (i : Option Nat) (b : Ss) (r : Hs)
end

/-! ### data -/
mutual
def D.shp : D → Bool
  | .non => true | .bl _ => true | .int _ => true | .str x => PyData.strOk x
  | .tup xs => D.shpAll xs | .lst xs => D.shpAll xs
  | _ => false
def D.shpAll : List D → Bool
  | [] => true
  | x :: r => x.shp && D.shpAll r
end
mutual
def D.dep : D → Nat
  | .tup xs => D.depAll xs + 1 | .lst xs => D.depAll xs + 1
  | _ => 0
def D.depAll : List D → Nat
  | [] => 0
  | x :: r => max x.dep (D.depAll r)
end
mutual
def D.py : D → PyData
  | .non => .none | .bl b => .bool b | .int i => .int i | .str x => .str x
  | .tup xs => .tuple (D.pyAll xs) | .lst xs => .list (D.pyAll xs)
  | _ => .none
def D.pyAll : List D → List PyData
  | [] => []
  | x :: r => x.py :: D.pyAll r
end
/-- Python's == of data -/
def D.eqv (a b : D) : Bool := PyData.eqv a.py b.py
def shape2 (a b : D) : Bool := a.shp && b.shp && decide (a.dep ≤ 60) && decide (b.dep ≤ 60)
abbrev SZ : Nat := 16777216
end Ev

set_option maxRecDepth 100000
set_option maxHeartbeats 4000000
/-! What the head tells of a program. -/
namespace Ev
open PySem
structure Fn where
  np : Nat
  ns : Nat
  body : Ss
/-- a class of the program's own: its __init__, whether its instances stay as they are -/
structure Cl where
  ini : Nat
  keep : Bool
  eqf : Option Nat
structure Prog where
  fns : List Fn
  nc : Nat
  cls : Nat → Option Cl
  gs : List D
  sub : Nat → Nat → Bool
  xf : Nat → Option Str
  wf : Nat
open PySem.Spec PyProof.Rows L2
structure GG where
  K : PySem.W.Frag
  cl : Nat → Addr
  fa : Nat → Addr
structure Tabs where
  fnT : List (Str × Nat)
  clT : List (Str × Nat)
  glT : List (Str × Nat)
  bl : List Str
  fds : List Str
/-- a program's tables: where the defs stand, the classes' names, the constants -/
structure Dt where
  at_ : List (Str × Option Str)
  cls : List Str
  T : Tabs
  /-- functions and classes by name, constants by name -/
def Dt.G (d : Dt) (K : PySem.W.Frag) : GG := ⟨K, fun c => He.ga K (d.cls.getD c Str.empty), fun j => He.fAd K (d.at_.getD j (Str.empty, none))⟩
mutual
def relD (d : Dt) (K : PySem.W.Frag) : D → Value → Bool
  | .non, u => (match u with | .none => true | _ => false)
  | .bl b, u => (match u with | .bool c => b == c | _ => false)
  | .int i, u => (match u with | .int j _ => decide (i = j) | _ => false)
  | .str x, u => (match u with | .str y _ => decide (x = y) | _ => false)
  | .tup ds, u => (match u with
    | .ref a => (match K.lookup a with
      | some o => decide (o.cls = .type "tuple") && (match o.data with | .seq its _ => decide (its.size ≤ SZ) && relDs d K ds its.toList | _ => false)
      | none => false)
    | _ => false)
  | .fn j, u => (match u with | .ref a => decide (a = (d.G K).fa j) | _ => false)
  | _, _ => false
def relDs (d : Dt) (K : PySem.W.Frag) : List D → List Value → Bool
  | [], us => us.isEmpty
  | x :: xs, us => (match us with | u :: us => relD d K x u && relDs d K xs us | _ => false)
end
def tyNs : List String := ["NoneType", "bool", "int", "str", "tuple", "list", "dict"]
def tyNs2 : List String := ["bool", "int", "str", "tuple", "list", "dict"]
/-- one class -/
def clsB1 (d : Dt) (P : Prog) (K : PySem.W.Frag) (c : Nat) (x : Str) (k : Cl) : Bool :=
    (He.Fa.cls x).ok K && (He.Fa.mkr x).ok K && decide (k.ini < P.fns.length) && decide (d.at_[k.ini]? = some (x, some ("__init__" : Str))) &&
    (d.T.fds.all fun f => (He.Fa.noat x f).ok K) &&
    (match k.eqf with
     | none => true
     | some j => decide (j < P.fns.length) && decide (d.at_[j]? = some (x, some ("__eq__" : Str))) && decide (PySem.W.findIn K (.ref (He.ga K x)) "__eq__" = some (some (.ref (He.ma K (He.ga K x) "__eq__")))) && PySem.W.isFn K (.ref (He.ma K (He.ga K x) "__eq__")) && PySem.W.notFirst K (He.ga K x) (.type "tuple")) &&
    decide (PySem.W.findIn K (.ref (He.ga K x)) "__class__" = some (some (.builtin "object.__class__"))) && decide (PySem.W.specialIn K (.builtin "object.__class__") "__get__" = some (some (.builtin "getset_descriptor.__get__"))) &&
    decide (PySem.W.takesIn K (.builtin "object.__class__") = some true) && decide (PySem.W.mroIn K (He.ga K x) (.type "object") = some true) &&
    (tyNs.all fun n => decide (PySem.W.kitOne K (.type n) (.ref (He.ga K x)) = some false)) && (tyNs2.all fun n => decide (PySem.W.kitOne K (.ref (He.ga K x)) (.type n) = some false)) &&
    ((List.range P.nc).all fun c' => decide (PySem.W.kitOne K (.ref (He.ga K x)) (.ref ((d.G K).cl c')) = some (c == c')))
def clsB (d : Dt) (P : Prog) (K : PySem.W.Frag) (c : Nat) : Bool := match d.cls[c]?, P.cls c with
  | some x, some k => clsB1 d P K c x k
  | _, _ => false
def glB (d : Dt) (P : Prog) (K : PySem.W.Frag) (p : Str × Nat) : Bool := match PySem.W.nsIn K mainGlobals p.1, P.gs[p.2]? with
  | some (some u), some x => relD d K x u
  | _, _ => false
def factsB (d : Dt) (P : Prog) (K : PySem.W.Frag) : Bool :=
  decide (d.at_.length = P.fns.length) &&
  (d.T.fnT.all fun p => (He.Fa.glo p.1).ok K && decide (d.at_[p.2]? = some (p.1, none))) &&
  (d.T.clT.all fun p => (He.Fa.glo p.1).ok K && decide (d.cls[p.2]? = some p.1) && decide (p.2 < P.nc)) &&
  ((List.range P.nc).all fun c => clsB d P K c) &&
  (d.T.glT.all fun p => glB d P K p) &&
  (d.T.bl.all fun x => (He.Fa.free x).ok K)
/-- a def of the program's text -/
def defOf (at_ : Str × Option Str) (qual : Str) (st : Stmt) : He.DefD := ⟨at_, (match st with | .FunctionDef n _ _ _ _ _ _ _ _ _ => n | _ => Str.empty), qual, defArgs st, defBody st, defScope st, [], []⟩
abbrev AlM : Type := Bool × List He.FnW
def obsM (d : Dt) (P : Prog) (fn : List He.DefD) (K : PySem.W.Frag) : AlM := (factsB d P K && fn.all fun d => d.ok K, fn.map fun d => He.fnW K d.at_)
def valM (fn : List He.DefD) : AlM := (true, fn.map He.DefD.val)
/-- what some objects name -/
def kidsX (g : Addr → Option Obj) (p : Obj → Bool) (as : List Addr) : List Addr := as.flatMap fun a => match g a with
  | some o => if p o then He.refsD o else []
  | none => []
def isCT (o : Obj) : Bool := match o.data with
  | .cls _ => true | .seq _ _ => true | _ => false
def isDO (o : Obj) : Bool := match o.data with
  | .dict _ _ => true | _ => false
def isFO (o : Obj) : Bool := match o.data with
  | .func _ => true | _ => false
def as1 (g : Addr → Option Obj) : List Addr := kidsX g (fun _ => true) [mainGlobals]
def as2 (g : Addr → Option Obj) : List Addr := kidsX g isCT (as1 g)
def as3 (g : Addr → Option Obj) : List Addr := kidsX g isDO (as2 g)
/-- the top's names, what its classes and tuples name, the classes' own, the defs' code -/
def asX (g : Addr → Option Obj) : List Addr := mainGlobals :: (as1 g ++ (as2 g ++ (as3 g ++ (kidsX g isFO (as1 g) ++ kidsX g isFO (as3 g)))))
def obsMG (n : Nat) (d : Dt) (P : Prog) (fn : List He.DefD) (g : Addr → Option Obj) : AlM := obsM d P fn (He.frG g (asX g))
def hookM (n : Nat) (d : Dt) (P : Prog) (fn : List He.DefD) : PySem.W.Hook where
  α := AlM
  obs := fun s => obsMG n d P fn s.heap.get?
  val := fun _ => valM fn
  says := fun _ h => ∃ K : PySem.W.Frag, K.In h ∧ obsM d P fn K = valM fn
  of := fun _ _ e => ⟨_, He.frG_in, e⟩
  keeps := fun _ _ _ ⟨K, hK, c⟩ k => ⟨K, PySem.W.Frag.In.keeps hK k, c⟩
theorem obsMG_eq {n : Nat} {d : Dt} {P : Prog} {fn : List He.DefD} {g : Addr → Option Obj} {s : Shared} (h : ∀ a, g a = s.heap.get? a) : obsMG n d P fn g = (hookM n d P fn).obs s := by
  have e : g = s.heap.get? := funext h
  rw [e] <;> rfl
end Ev

set_option maxRecDepth 100000
set_option maxHeartbeats 6400000
/-! Rules that the hand layer has not: set(xs) of a list, sorted(set(xs)), xs.extend(t) of a tuple. -/
namespace Ev
open PySem PySem.Spec PyProof.Rows L2
section
/-- a set that holds nothing yet -/
abbrev mtS (w : World) : Obj := { cls := .type "set", dict := none, data := .set #[] 0 (.fresh 0 0 (!w.params.followText "set-order")) }
variable {P : Program} {w : World} {A : Around} {E : Value → Shared → Prop} {s : Shared}
theorem set_of_list {l : Addr} {us : Array Value} (ns : List Int) {Q : Value → Shared → Prop} (nh : A.handled = none) (il : s.heap.IsList l us) (iv : IntsAre us.toList ns) (small : ns.length + 1 < scanBound)
    (k : ∀ (hp : Heap) (tk c : Nat), SetR w hp s.heap.objs.size (fun j => decide (j ∈ ns)) c → c ≤ ns.length → (∀ b o, s.heap.get? b = some o → hp.get? b = some o) → Q (.ref s.heap.objs.size) { s with heap := hp, toks := tk }) :
    wpAny (model P w) A (call (.type "set") [.ref l]) Q E s := by
  have sz : us.size = ns.length := by
    have q := IntsAre.length iv
    rwa [Array.length_toList] at q
  obtain ⟨mc, mtl, mm⟩ := F.called_set.mro
  have f1 := F.called_set.made
  have f2 := F.called_set.sub
  have f3 := F.called_set.notType
  have f4 := F.called_set.canCreate
  have f5 := F.typeCall_set_1 (.ref l)
  refine wpAny_call (codeAny_of_tree ?_)
  change wpAny _ _ (callAny (.type "set") _) _ _ _
  refine wpAny_pure ⟨Code.quiet_builtin _ (by decide +kernel), codeAny_builtin F.entry_type_call ?_⟩
  rw [Around.under_plain (weight_type_call_type "set" [.ref l] []) rfl]
  repeat (any_goals (first | assumption | wp_step))
  refine codeAny_mono (code_set_led1 (.ref l) (E := E) (Q₁ := fun ob sa => ob = .ref s.heap.objs.size ∧ sa = { s with heap := s.heap.push (mtS w) }) ⟨rfl, rfl⟩) fun r sa hr => ?_
  rcases r with er | fl
  · exact hr
  cases fl with
  | ret ob =>
    obtain ⟨rfl, rfl⟩ := hr
    have gS : (s.heap.push (mtS w)).get? s.heap.objs.size = some (mtS w) := Heap.get?_push_size _ rfl
    have tS : Shared.TypeIs { s with heap := s.heap.push (mtS w) } (.ref s.heap.objs.size) "set" := ⟨_, gS, rfl⟩
    have f6 := F.called_set.init.lookup
    have f7 := F.called_set.init.bind (.ref s.heap.objs.size)
    repeat (any_goals (first | assumption | wp_step))
    refine codeAny_mono (codeAny_call_builtin (R := wants (fun r sb => r = .none ∧ ∃ hp tk c, sb = { s with heap := hp, toks := tk } ∧ SetR w hp s.heap.objs.size (fun j => decide (j ∈ ns)) c ∧ c ≤ ns.length ∧ ∀ b o, s.heap.get? b = some o → hp.get? b = some o) E)
      F.called_set.init.plain F.entry_set_init (check_set_init_1 tS ?_)) fun r2 sb hr2 => ?_
    · obtain ⟨⟨oc, od, oa, os⟩, gl, e1, nl, e2⟩ := il
      simp only at e1 e2
      subst e1 e2
      have gl2 : (s.heap.push (mtS w)).get? l = some { cls := .type "list", dict := od, data := .seq us nl, slots := os } := Heap.get?_push_of_some _ gl
      have g1 := F.sub_list_set
      have g2 := F.sub_list_frozenset
      have g3 : (Value.type "list" == Value.type "dict") = false := by decide
      have il2 : (s.heap.push (mtS w)).IsList l us := ⟨_, gl2, rfl, nl, rfl⟩
      unfold Builtin.«set.__init__» noKeywords Builtin.Frozenset.updateFrom
      generalize ePI : pyIter = PI
      wp_walk
      subst ePI
      refine wpAny_pyIter_list il2 ?_
      refine wpAny_bind (wpAny_runValue ?_)
      have ls : l < s.heap.objs.size := Heap.lt_size gl
      have nh3 : A.in1.in1.in1.handled = none := by simp [nh]
      have zs : (s.heap.push (mtS w)).objs.size = s.heap.objs.size + 1 := Heap.size_push ..
      have nI : l ≠ (s.heap.push (mtS w)).objs.size := by rw [zs]; exact Nat.ne_of_lt (Nat.lt_succ_of_lt ls)
      have nS : s.heap.objs.size ∉ [(s.heap.push (mtS w)).objs.size, l] := by
        rw [zs]
        simp only [List.mem_cons, List.not_mem_nil, or_false, not_or]
        exact ⟨Nat.ne_of_lt (Nat.lt_succ_self _), (Nat.ne_of_lt ls).symm⟩
      have at1 : ∀ (i : Nat) (v : Value), us[i]? = some v → ∃ z t, ns[i]? = some z ∧ v = .int z t := fun i v hv => by
        have hi : i < ns.length := by rw [← sz]; exact (Array.getElem?_eq_some_iff.mp hv).1
        obtain ⟨t, e⟩ := IntsAre.int_at iv i v (by rw [Array.getElem?_toList]; exact hv)
        refine ⟨ns[i], t, List.getElem?_eq_getElem hi, ?_⟩
        rw [e]
        simp [List.getD, List.getElem?_eq_getElem hi]
      refine set_update_ints ((Walks.list nh3 _ l nI us).toS) s.heap.objs.size nS ns sz small at1 (us.size - 0) 0 _ (by omega) (Nat.zero_le _) ⟨⟨_, Heap.get?_push_size _ rfl, rfl, rfl⟩, (il2.push _)⟩ ?begun ?done
      case begun =>
        have g9 : ((s.heap.push (mtS w)).push { cls := .type "list_iterator", data := .fields #[.ref l, .int 0 0] }).get? s.heap.objs.size = some (mtS w) := Heap.get?_push_of_some _ gS
        exact ⟨0, Nat.le_refl 0, setR_new_at g9⟩
      case done =>
        intro sd c2 mv lc RS
        obtain ⟨hp, gg, dd, tk, oo⟩ := sd
        have q1 : gg = s.gens := mv.gens
        have q2 : dd = s.drawn := mv.drawn
        have q3 : oo = s.os := mv.os
        subst q1 q2 q3
        change wpAny _ _ _ _ _ _
        refine wpAny_pure ?_
        change wpAny _ _ (ret Value.none) _ _ _
        rw [sz] at lc
        refine wpAny_pure ⟨rfl, hp, tk, c2, rfl, RS, lc, fun b o e => ?_⟩
        have lb : b < s.heap.objs.size := Heap.lt_size e
        refine mv.heap b o ?_ (Heap.get?_push_of_some _ (Heap.get?_push_of_some _ e))
        rw [zs]
        simp only [List.mem_cons, List.not_mem_nil, or_false, not_or]
        exact ⟨Nat.ne_of_lt lb, Nat.ne_of_lt (Nat.lt_succ_of_lt lb)⟩
    · rcases r2 with er2 | fl2
      · exact hr2
      cases fl2 with
      | ret r =>
        obtain ⟨rfl, hp, tk, c2, rfl, RS, lc, kp⟩ := hr2
        repeat (any_goals (first | assumption | wp_step))
        exact k _ _ _ RS lc kp
      | _ => exact hr2.elim
  | _ => exact hr.elim
end
/-! ### over the layer -/
section
variable {X : Cx}
/-- set(xs), of ints in a list or a tuple -/
def rSetI (X : Cx) : List V → Hp → VK → Prop := fun xs H Q => ∃ (l : Addr) (ns : List Int), xs = [.ref l] ∧ (SqL X.K H l (ns.map V.int) ∨ SqT X.K H l (ns.map V.int)) ∧ ns.length ≤ 4000 ∧
    ∀ (p : Addr) (ds : List Int), ds.Nodup → (∀ j, j ∈ ds ↔ j ∈ ns) → H p = none → Q (.ref p) (upd H p (SetO X.w p (fun j => decide (j ∈ ns)) ds.length))
theorem cr_setI (nc : X.calm = true) : CallR X (.type "set") (rSetI X) := by
  intro pins s σ H xs us Q I r h
  obtain ⟨l, ns, rfl, hs, small, q⟩ := h
  rw [Vals.ref1 r]
  have hd := I.ok.hd nc
  have fin : ∀ (hp : Heap) (tk c : Nat), SetR X.w hp s.heap.objs.size (fun j => decide (j ∈ ns)) c → c ≤ ns.length → (∀ b o, s.heap.get? b = some o → hp.get? b = some o) → EP X pins σ Q (.ref s.heap.objs.size) { s with heap := hp, toks := tk } := fun hp tk c RS lc kp => by
    obtain ⟨o, es, ep, t, ho, hex, hdt, g, nd, mem, hb, hf, hn, hr, hl2⟩ := id RS
    have ec : c = (es.toList.map keyOf).length := by simp [← hn]
    have q2 := q s.heap.objs.size (es.toList.map keyOf) nd (fun j => by rw [← mem j]; simp) (I.hok.fresh (Nat.le_refl _))
    rw [← ec] at q2
    exact ⟨.ref _, upd H s.heap.objs.size (SetO X.w s.heap.objs.size (fun j => decide (j ∈ ns)) c), I.laid (t' := tk) (fun b u e => kp b u e) (Nat.le_refl _) (setO_new RS), rfl, q2⟩
  rcases hs with hs | hs
  · obtain ⟨its, rv, pl, hz⟩ := I.list hs
    exact set_of_list ns hd pl.isList (ints_of_vals rv) (by unfold scanBound; omega) fin
  · obtain ⟨its, rv, pt, hz⟩ := I.tuple hs
    exact call_set_tupI ns hd (show s.heap.IsTuple l its.toArray from pt) (ints_of_vals rv) (by unfold scanBound; omega) fin
/-! ### xs.extend(t) -/
theorem ext_tuple (l : Addr) (xs : Array Value) (n : Nat) (b : Addr) (ys : Array Value) (n2 : Nat) (dd : Option Addr) (sl : Array (Option Value)) (door : ¬(!xs.isEmpty && Builtin.List.listTooLong (xs.size + ys.size)) = true) (h1 : xs.size ≤ sizeLine) (h2 : xs.size + ys.size ≤ sizeLine + 1) :
    Meets (Builtin.«list.extend» ⟨[.ref l, .ref b], []⟩) (fun _ R s =>
      s.heap.get? l = some { cls := .type "list", dict := none, data := .seq xs n, slots := #[] } ∧ s.heap.get? b = some { cls := .type "tuple", dict := dd, data := .seq ys n2, slots := sl } ∧
      R (.ok (.ret Value.none)) { s with heap := s.heap.update l (Obj.mapSeq fun x => x ++ ys), toks := s.toks }) :=
  .of_wp fun prog w A R s h => by
    obtain ⟨hp, g, d, tk, os⟩ := s
    obtain ⟨gl, gb, k⟩ := h
    have i1 := AutoSeq1.idx_int
    have i2 := AutoSeq1.sub_tuple_tuple
    have i3 := AutoSeq1.sub_list_list
    have i4 := AutoSeq1.sub_tuple_list
    have i5 := AutoSeq1.sub_list_tuple
    have fit : (xs ++ ys).size ≤ sizeLine + 1 := by rw [Array.size_append]; exact h2
    wp_walk using (wpAny_updateSeq gl rfl (hz := h1) (_hz' := fit)), AutoSeq1.wpAny_loadPart' gl, AutoSeq1.wpAny_loadPart' gb
    exact ⟨_, rfl, k⟩
def rExtT (X : Cx) : V → List V → Hp → VK → Prop := fun x vs H Q => ∃ l b xs zs, x = .ref l ∧ vs = [.ref b] ∧ H l = some (.lst xs) ∧ SqT X.K H b zs ∧ xs.length + zs.length ≤ sizeLine ∧ Q .non (upd H l (.lst (xs ++ zs)))
theorem mt_extT : MtM X "list.extend" (rExtT X) := by
  intro pins s σ H x vs v us Q I rx rv h
  obtain ⟨l, b, xs, zs, rfl, rfl, hH, hB, hz, q⟩ := h
  cases rx
  obtain ⟨u, rfl, ru⟩ := rv.one
  cases ru
  obtain ⟨z, its, n, r, hl, e⟩ := I.lstM hH
  obtain ⟨its2, r2, ⟨⟨oc, od, oa, os⟩, e2, c2, n2, d2⟩, z2⟩ := I.tuple hB
  simp only at c2 d2
  subst c2 d2
  have l1 := r.length
  have l2 := r2.length
  have fit : its.toArray.size + its2.toArray.size ≤ sizeLine := by rw [List.size_toArray, List.size_toArray]; omega
  refine call_meets F.slot_list_extend ⟨_, e, rfl⟩ F.entry_list_extend (F.args_list_extend_2 _ _) (ext_tuple l its.toArray n b its2.toArray n2 od os (PyProof.Rows.extend_door fit) (by omega) (by omega)) ⟨e, e2, ?_⟩
  exact ⟨.non, _, I.lset (its' := its ++ its2) hH e (by simp) (r.append r2) (by rw [List.length_append]; omega), rfl, q⟩
def rExt2 (X : Cx) : V → List V → Hp → VK → Prop := fun x vs H Q => rExtend x vs H Q ∨ rExtT X x vs H Q
theorem mt_ext2 : MtM X "list.extend" (rExt2 X) := by
  intro pins s σ H x vs v us Q I rx rv h
  rcases h with h | h
  · exact mt_extend pins s σ H x vs v us Q I rx rv h
  · exact mt_extT pins s σ H x vs v us Q I rx rv h
end
end Ev

set_option maxRecDepth 100000
set_option maxHeartbeats 4000000
namespace K13
open PySem Ev
def s0_rows : Str := (Str.ofString "rows")
def s1_inputs : Str := (Str.ofString "inputs")
def s2_kind : Str := (Str.ofString "kind")
def s3_great : Str := (Str.ofString "great")
def s4_alike : Str := (Str.ofString "alike")
def s5_came : Str := (Str.ofString "came")
def s6_near : Str := (Str.ofString "near")
def s7_levels : Str := (Str.ofString "levels")
def s8_names : Str := (Str.ofString "names")
def s9_see : Str := (Str.ofString "see")
def s10_put : Str := (Str.ofString "put")
def s11_look : Str := (Str.ofString "look")
def s12_sweep : Str := (Str.ofString "sweep")
def s13_twice : Str := (Str.ofString "twice")
def s14_borrow : Str := (Str.ofString "borrow")
def s15_chain : Str := (Str.ofString "chain")
def f_is_integer : Fn := ⟨1, 1, (.cons (.ret (.and (.cons (.isa (.v 0) [.int]) (.cons (.not (.isa (.v 0) [.bool])) .nil)))) .nil)⟩
def f_is_within : Fn := ⟨3, 3, (.cons (.ret (.and (.cons (.call 0 (.cons (.v 0) .nil)) (.cons (.cmp2 .le .le (.v 1) (.v 0) (.v 2)) .nil)))) .nil)⟩
def f_is_below : Fn := ⟨2, 2, (.cons (.ret (.call 1 (.cons (.v 0) (.cons (.k (.int 0)) (.cons (.bin .sub (.v 1) (.k (.int 1))) .nil))))) .nil)⟩
def f_is_sized : Fn := ⟨3, 3, (.cons (.ret (.and (.cons (.isa (.v 0) [.tuple]) (.cons (.cmp2 .le .le (.v 1) (.b1 .len (.v 0)) (.v 2)) .nil)))) .nil)⟩
def f_is_listed : Fn := ⟨1, 1, (.cons (.ret (.isa (.v 0) [.list, .tuple])) .nil)⟩
def f_replaced : Fn := ⟨3, 3, (.cons (.ret (.bin .add (.bin .add (.sli (.v 0) .no (.so (.v 1))) (.tup (.cons (.v 2) .nil))) (.sli (.v 0) (.so (.bin .add (.v 1) (.k (.int 1)))) .no))) .nil)⟩
def f_is_value : Fn := ⟨1, 1, (.cons (.ret (.call 2 (.cons (.v 0) (.cons (.g 0) .nil)))) .nil)⟩
def f_is_row_of : Fn := ⟨2, 3, (.cons (.ret (.and (.cons (.call 3 (.cons (.v 1) (.cons (.k (.int 1)) (.cons (.g 1) .nil)))) (.cons (.b1 .all (.lc (.cav 0 (.cons (.v 2) .nil)) (.n 2) (.x (.v 1)) .no [2])) .nil)))) .nil)⟩
def f_are_inputs : Fn := ⟨2, 2, (.cons (.iff (.cmp .isin (.v 0) (.g 2)) (.cons .bad .nil) .nil) (.cons (.iff (.cmp .eq (.v 0) (.g 3)) (.cons (.ret (.call 7 (.cons (.g 4) (.cons (.v 1) .nil)))) .nil) .nil) (.cons (.iff (.cmp .eq (.v 0) (.g 5)) (.cons (.ret (.and (.cons (.call 7 (.cons (.g 4) (.cons (.v 1) .nil))) (.cons (.cmp .eq (.lenset (.v 1)) (.b1 .len (.v 1))) .nil)))) .nil) .nil) (.cons (.iff (.cmp .eq (.v 0) (.g 6)) (.cons .bad .nil) .nil) (.cons .bad .nil)))))⟩
def f_Play_init : Fn := ⟨3, 3, (.cons (.iff (.or (.cons (.not (.isa (.v 1) [.str])) (.cons (.cmp .nin (.v 1) (.bin .add (.g 2) (.tup (.cons (.g 3) (.cons (.g 5) (.cons (.g 7) (.cons (.g 6) .nil))))))) .nil))) (.cons .bad .nil) .nil) (.cons (.iff (.not (.call 8 (.cons (.v 1) (.cons (.v 2) .nil)))) (.cons .bad .nil) .nil) (.cons (.stf 0 s2_kind (.v 1)) (.cons (.stf 0 s1_inputs (.v 2)) (.cons (.stf 0 s0_rows (.ite (.cmp .eq (.v 1) (.g 7)) (.idx (.v 2) (.k (.int 1))) (.v 2))) .nil)))))⟩
def f_Play_eq : Fn := ⟨2, 2, (.cons (.ret (.and (.cons (.isa (.v 1) [.cls 0]) (.cons (.cmp .eq (.tup (.cons (.fld (.v 0) s2_kind) (.cons (.fld (.v 0) s1_inputs) .nil))) (.tup (.cons (.fld (.v 1) s2_kind) (.cons (.fld (.v 1) s1_inputs) .nil)))) .nil)))) .nil)⟩
def f_is_hand : Fn := ⟨2, 2, (.cons (.ret (.call 2 (.cons (.v 1) (.cons (.b1 .len (.fld (.v 0) s0_rows)) .nil)))) .nil)⟩
def f_check_hand : Fn := ⟨2, 2, (.cons (.iff (.not (.call 11 (.cons (.v 0) (.cons (.v 1) .nil)))) (.cons .bad .nil) .nil) .nil)⟩
def f_level_cell : Fn := ⟨2, 2, (.cons (.ret (.k .non)) .nil)⟩
def f_level_state : Fn := ⟨2, 2, (.cons (.ret (.tup (.cons (.bin .add (.b1 .len (.fld (.v 0) s0_rows)) (.k (.int 1))) (.cons (.k .non) .nil)))) .nil)⟩
def f_level_next : Fn := ⟨3, 3, (.cons (.ret (.ite (.cmp .is (.idx (.v 2) (.k (.int 1))) (.k .non)) (.tup (.cons (.g 8) .nil)) (.tup (.cons (.g 9) (.cons (.b1 .len (.idx (.v 2) (.k (.int 1)))) .nil))))) .nil)⟩
def f_level_after : Fn := ⟨4, 10, (.cons (.setG (.t [(.n 6), (.n 7)]) (.v 3)) (.cons (.iff (.cmp .is (.v 7) (.k .non)) (.cons (.ret (.tup (.cons (.tup (.cons (.bin .sub (.v 6) (.k (.int 1))) (.cons (.idx (.fld (.v 0) s0_rows) (.v 1)) .nil))) (.cons (.tup (.cons (.bin .sub (.v 6) (.k (.int 1))) (.cons (.tup .nil) .nil))) (.cons (.k .non) .nil))))) .nil) .nil) (.cons (.set 4 (.bin .add (.v 7) (.tup (.cons (.idx (.v 2) (.b1 .len (.v 7))) .nil))) false) (.cons (.iff (.cmp .lt (.b1 .len (.v 4)) (.b1 .len (.v 2))) (.cons (.ret (.tup (.cons (.k .non) (.cons (.tup (.cons (.v 6) (.cons (.v 4) .nil))) (.cons (.k .non) .nil))))) .nil) .nil) (.cons (.set 5 (.lc (.tup (.cons (.v 8) (.cons (.idx (.v 9) (.k (.int 1))) .nil))) (.t [(.n 8), (.n 9)]) (.enum (.cons (.v 4) .nil)) (.so (.and (.cons (.cmp .nis (.v 9) (.k .non)) (.cons (.cmp .le (.idx (.v 9) (.k (.int 0))) (.v 6)) .nil)))) [8, 9]) false) (.cons (.iff (.cmp .ge (.b1 .len (.v 5)) (.v 6)) (.cons (.ret (.tup (.cons (.k .non) (.cons (.k .non) (.cons (.b1 .tuple (.v 5)) .nil))))) .nil) .nil) (.cons (.ret (.tup (.cons (.k .non) (.cons (.tup (.cons (.v 6) (.cons (.k .non) .nil))) (.cons (.k .non) .nil))))) .nil)))))))⟩
def f_fresh : Fn := ⟨3, 3, (.cons (.ret (.ite (.cmp .lt (.v 2) (.b1 .len (.idx (.fld (.v 0) s0_rows) (.v 1)))) (.tup (.cons (.v 2) (.cons (.k .non) (.cons (.k .non) (.cons (.tup .nil) (.cons (.k .non) .nil)))))) (.k .non))) .nil)⟩
def f_numbers_of : Fn := ⟨1, 2, (.cons (.ret (.b1 .tuple (.lc (.idx (.v 1) (.k (.int 0))) (.n 1) (.x (.v 0)) .no [1]))) .nil)⟩
def f_top_cell : Fn := ⟨2, 2, (.cons (.ret (.ite (.cmp .eq (.fld (.v 0) s2_kind) (.g 7)) (.tup .nil) (.k .non))) .nil)⟩
def f_top_state : Fn := ⟨2, 2, (.cons (.iff (.cmp .eq (.fld (.v 0) s2_kind) (.g 5)) (.cons (.ret (.tup (.cons (.k (.int 1)) (.cons (.k (.bl false)) .nil)))) .nil) .nil) (.cons (.ret (.ite (.cmp .eq (.fld (.v 0) s2_kind) (.g 7)) (.tup (.cons (.k (.int 0)) (.cons (.idx (.fld (.v 0) s0_rows) (.v 1)) (.cons (.k (.bl false)) .nil)))) (.tup (.cons (.k (.bl false)) .nil)))) .nil))⟩
def f_top_next : Fn := ⟨3, 3, (.cons (.ret (.ite (.idx (.v 2) (.neg (.k (.int 1)))) (.tup (.cons (.g 10) .nil)) (.tup (.cons (.g 8) .nil)))) .nil)⟩
def f_wish_by : Fn := ⟨2, 8, (.cons (.set 2 (.b1 .len (.lc (.v 6) (.n 6) (.x (.v 0)) (.so (.and (.cons (.cmp .nis (.v 6) (.k .non)) (.cons (.cmp .lt (.idx (.v 6) (.k (.int 0))) (.idx (.idx (.v 0) (.v 1)) (.k (.int 0)))) .nil)))) [6])) false) (.cons (.set 3 (.lc (.idx (.v 6) (.k (.int 1))) (.t [(.n 7), (.n 6)]) (.enum (.cons (.v 0) .nil)) (.so (.and (.cons (.cmp .ne (.v 7) (.v 1)) (.cons (.cmp .nis (.v 6) (.k .non)) .nil)))) [6, 7]) false) (.cons (.set 4 (.lc (.v 5) (.n 5) (.rng (.cons (.k (.int 1)) (.cons (.bin .add (.bin .mul (.k (.int 2)) (.b1 .len (.v 0))) (.k (.int 1))) .nil))) (.so (.cmp .nin (.v 5) (.v 3))) [5]) false) (.cons (.ret (.idx (.v 4) (.v 2))) .nil))))⟩
def f_after_names : Fn := ⟨4, 9, (.cons (.setG (.t [(.n 5), (.n 6)]) (.v 3)) (.cons (.iff (.not (.v 6)) (.cons (.ret (.tup (.cons (.tup (.cons (.idx (.fld (.v 0) s0_rows) (.v 1)) (.cons (.v 5) .nil))) (.cons (.tup (.cons (.v 5) (.cons (.k (.bl true)) .nil))) (.cons (.k .non) .nil))))) .nil) .nil) (.cons (.set 4 (.lc (.v 8) (.t [(.n 7), (.n 8)]) (.enum (.cons (.v 2) .nil)) (.so (.and (.cons (.cmp .ne (.v 7) (.v 1)) (.cons (.cmp .nis (.v 8) (.k .non)) .nil)))) [7, 8]) false) (.cons (.iff (.cmp .nin (.v 5) (.lc (.idx (.v 8) (.k (.int 1))) (.n 8) (.x (.v 4)) .no [8])) (.cons (.ret (.tup (.cons (.k .non) (.cons (.k .non) (.cons (.v 5) .nil))))) .nil) .nil) (.cons (.ret (.tup (.cons (.k .non) (.cons (.tup (.cons (.call 22 (.cons (.v 2) (.cons (.v 1) .nil))) (.cons (.k (.bl false)) .nil))) (.cons (.k .non) .nil))))) .nil)))))⟩
def f_after_near : Fn := ⟨4, 10, (.cons (.setG (.t [(.n 6), (.n 7), (.n 8)]) (.v 3)) (.cons (.iff (.not (.v 8)) (.cons (.ret (.tup (.cons (.bin .add (.idx (.v 2) (.v 1)) (.tup (.cons (.v 7) .nil))) (.cons (.tup (.cons (.v 6) (.cons (.v 7) (.cons (.k (.bl true)) .nil)))) (.cons (.k .non) .nil))))) .nil) .nil) (.cons (.set 4 (.lc (.idx (.v 9) (.v 6)) (.n 9) (.x (.v 2)) (.so (.cmp .gt (.b1 .len (.v 9)) (.v 6))) [9]) false) (.cons (.set 5 (.bin .add (.b1 .min (.v 4)) (.b1 .max (.v 4))) false) (.cons (.iff (.cmp .eq (.bin .add (.v 6) (.k (.int 1))) (.idx (.fld (.v 0) s1_inputs) (.k (.int 0)))) (.cons (.ret (.tup (.cons (.k .non) (.cons (.k .non) (.cons (.tup (.cons (.v 5) (.cons (.bin .add (.v 6) (.k (.int 1))) .nil))) .nil))))) .nil) .nil) (.cons (.ret (.tup (.cons (.k .non) (.cons (.tup (.cons (.bin .add (.v 6) (.k (.int 1))) (.cons (.v 5) (.cons (.k (.bl false)) .nil)))) (.cons (.k .non) .nil))))) .nil))))))⟩
def f_after_chain : Fn := ⟨4, 7, (.cons (.iff (.not (.idx (.v 3) (.k (.int 0)))) (.cons (.ret (.tup (.cons (.idx (.fld (.v 0) s0_rows) (.v 1)) (.cons (.tup (.cons (.k (.bl true)) .nil)) (.cons (.k .non) .nil))))) .nil) .nil) (.cons (.set 4 .dict0 true) (.cons (.for (.n 5) (.x (.v 2)) (.cons (.iff (.cmp .nis (.v 5) (.k .non)) (.cons (.for (.n 6) (.x (.v 5)) (.cons (.stx 4 (.v 6) (.k (.bl true))) .nil)) .nil) .nil) .nil)) (.cons (.ret (.tup (.cons (.k .non) (.cons (.k .non) (.cons (.b1 .tuple (.b1 .sorted (.v 4))) .nil))))) .nil))))⟩
def f_top_after : Fn := ⟨4, 4, (.cons (.iff (.cmp .eq (.fld (.v 0) s2_kind) (.g 5)) (.cons (.ret (.call 23 (.cons (.v 0) (.cons (.v 1) (.cons (.v 2) (.cons (.v 3) .nil)))))) .nil) .nil) (.cons (.ret (.ite (.cmp .eq (.fld (.v 0) s2_kind) (.g 6)) (.call 25 (.cons (.v 0) (.cons (.v 1) (.cons (.v 2) (.cons (.v 3) .nil))))) (.call 24 (.cons (.v 0) (.cons (.v 1) (.cons (.v 2) (.cons (.v 3) .nil))))))) .nil))⟩
def f_cell_of : Fn := ⟨2, 2, (.cons (.iff (.cmp .isin (.fld (.v 0) s2_kind) (.g 2)) (.cons .bad .nil) .nil) (.cons (.ret (.ite (.cmp .eq (.fld (.v 0) s2_kind) (.g 3)) (.call 13 (.cons (.v 0) (.cons (.v 1) .nil))) (.call 19 (.cons (.v 0) (.cons (.v 1) .nil))))) .nil))⟩
def f_state_of : Fn := ⟨2, 2, (.cons (.iff (.cmp .isin (.fld (.v 0) s2_kind) (.g 2)) (.cons .bad .nil) .nil) (.cons (.ret (.ite (.cmp .eq (.fld (.v 0) s2_kind) (.g 3)) (.call 14 (.cons (.v 0) (.cons (.v 1) .nil))) (.call 20 (.cons (.v 0) (.cons (.v 1) .nil))))) .nil))⟩
def f_next_of : Fn := ⟨3, 3, (.cons (.iff (.cmp .isin (.fld (.v 0) s2_kind) (.g 2)) (.cons .bad .nil) .nil) (.cons (.ret (.ite (.cmp .eq (.fld (.v 0) s2_kind) (.g 3)) (.call 15 (.cons (.v 0) (.cons (.v 1) (.cons (.v 2) .nil)))) (.call 21 (.cons (.v 0) (.cons (.v 1) (.cons (.v 2) .nil)))))) .nil))⟩
def f_after_of : Fn := ⟨4, 4, (.cons (.iff (.cmp .isin (.fld (.v 0) s2_kind) (.g 2)) (.cons .bad .nil) .nil) (.cons (.ret (.ite (.cmp .eq (.fld (.v 0) s2_kind) (.g 3)) (.call 16 (.cons (.v 0) (.cons (.v 1) (.cons (.v 2) (.cons (.v 3) .nil))))) (.call 26 (.cons (.v 0) (.cons (.v 1) (.cons (.v 2) (.cons (.v 3) .nil))))))) .nil))⟩
def f_begun : Fn := ⟨1, 4, (.cons (.set 1 (.lrng (.b1 .len (.fld (.v 0) s0_rows))) false) (.cons (.set 2 (.b1 .tuple (.lc (.call 27 (.cons (.v 0) (.cons (.v 3) .nil))) (.n 3) (.x (.v 1)) .no [3])) false) (.cons (.ret (.tup (.cons (.v 2) (.cons (.b1 .tuple (.lc (.call 28 (.cons (.v 0) (.cons (.v 3) .nil))) (.n 3) (.x (.v 1)) .no [3])) (.cons (.bin .mul (.tup (.cons (.tup .nil) .nil)) (.b1 .len (.v 1))) .nil))))) .nil)))⟩
def f_first_standing : Fn := ⟨1, 1, (.cons (.ret (.call 31 (.cons (.v 0) .nil))) .nil)⟩
def f_movers : Fn := ⟨1, 3, (.cons (.ret (.b1 .tuple (.lc (.v 1) (.t [(.n 1), (.n 2)]) (.enum (.cons (.idx (.v 0) (.k (.int 1))) .nil)) (.so (.cmp .nis (.v 2) (.k .non))) [1, 2]))) .nil)⟩
def f_can_step : Fn := ⟨2, 2, (.cons (.ret (.call 33 (.cons (.v 1) .nil))) .nil)⟩
def f_after_step : Fn := ⟨3, 9, (.cons (.setG (.t [(.n 3), (.n 4), (.n 5)]) (.v 1)) (.cons (.setG (.t [(.n 6), (.n 7), (.n 8)]) (.call 30 (.cons (.v 0) (.cons (.v 2) (.cons (.v 3) (.cons (.idx (.v 4) (.v 2)) .nil)))))) (.cons (.iff (.cmp .eq (.call 29 (.cons (.v 0) (.cons (.v 2) (.cons (.idx (.v 4) (.v 2)) .nil)))) (.tup (.cons (.g 8) .nil))) (.cons (.set 3 (.call 5 (.cons (.v 3) (.cons (.v 2) (.cons (.v 6) .nil)))) false) .nil) .nil) (.cons (.iff (.cmp .nis (.v 8) (.k .non)) (.cons (.set 5 (.call 5 (.cons (.v 5) (.cons (.v 2) (.cons (.bin .add (.idx (.v 5) (.v 2)) (.tup (.cons (.v 8) .nil))) .nil)))) false) .nil) .nil) (.cons (.ret (.tup (.cons (.v 3) (.cons (.call 5 (.cons (.v 4) (.cons (.v 2) (.cons (.v 7) .nil)))) (.cons (.v 5) .nil))))) .nil)))))⟩
def f_check_step : Fn := ⟨3, 3, (.cons (.ex (.call 12 (.cons (.v 0) (.cons (.v 2) .nil)))) (.cons (.iff (.cmp .is (.idx (.idx (.v 1) (.k (.int 1))) (.v 2)) (.k .non)) (.cons .bad .nil) .nil) .nil))⟩
def f_step : Fn := ⟨3, 3, (.cons (.ex (.call 36 (.cons (.v 0) (.cons (.v 1) (.cons (.v 2) .nil))))) (.cons (.ret (.call 35 (.cons (.v 0) (.cons (.v 1) (.cons (.v 2) .nil))))) .nil))⟩
def f_next_step : Fn := ⟨3, 3, (.cons (.ex (.call 36 (.cons (.v 0) (.cons (.v 1) (.cons (.v 2) .nil))))) (.cons (.ret (.call 29 (.cons (.v 0) (.cons (.v 2) (.cons (.idx (.idx (.v 1) (.k (.int 1))) (.v 2)) .nil))))) .nil))⟩
def f_standings_of : Fn := ⟨2, 5, (.cons (.iff (.not (.call 4 (.cons (.v 1) .nil))) (.cons .bad .nil) .nil) (.cons (.set 2 (.lst (.cons (.call 31 (.cons (.v 0) .nil)) .nil)) true) (.cons (.for (.t [(.n 3), (.n 4)]) (.enum (.cons (.v 1) .nil)) (.cons (.iff (.or (.cons (.not (.call 11 (.cons (.v 0) (.cons (.v 4) .nil)))) (.cons (.cmp .is (.idx (.idx (.idx (.v 2) (.neg (.k (.int 1)))) (.k (.int 1))) (.v 4)) (.k .non)) .nil))) (.cons .bad .nil) .nil) (.cons (.app 2 (.cons (.call 35 (.cons (.v 0) (.cons (.idx (.v 2) (.neg (.k (.int 1)))) (.cons (.v 4) .nil)))) .nil)) .nil))) (.cons (.frz [2] (.ret (.v 2))) .nil))))⟩
def f_run : Fn := ⟨2, 2, (.cons (.ret (.idx (.call 39 (.cons (.v 0) (.cons (.v 1) .nil))) (.neg (.k (.int 1))))) .nil)⟩
def f_run_out : Fn := ⟨2, 5, (.cons (.set 2 (.call 40 (.cons (.v 0) (.cons (.v 1) .nil))) false) (.cons (.set 3 (.b1 .list (.v 1)) true) (.cons (.set 4 (.call 33 (.cons (.v 2) .nil)) false) (.cons (.whl (.cmp .gt (.b1 .len (.v 4)) (.k (.int 0))) (.cons (.set 2 (.call 35 (.cons (.v 0) (.cons (.v 2) (.cons (.idx (.v 4) (.k (.int 0))) .nil)))) false) (.cons (.app 3 (.cons (.idx (.v 4) (.k (.int 0))) .nil)) (.cons (.set 4 (.call 33 (.cons (.v 2) .nil)) false) .nil)))) (.cons (.ret (.b1 .tuple (.v 3))) .nil)))))⟩
def f_is_came : Fn := ⟨2, 5, (.cons (.iff (.or (.cons (.not (.isa (.v 1) [.tuple])) (.cons (.not (.b1 .all (.lc (.call 11 (.cons (.v 0) (.cons (.v 4) .nil))) (.n 4) (.x (.v 1)) .no [4]))) .nil))) (.cons (.ret (.k (.bl false))) .nil) .nil) (.cons (.ret (.b1 .all (.lc (.cmp .lt (.v 2) (.v 3)) (.t [(.n 2), (.n 3)]) (.zip (.cons (.v 1) (.cons (.sli (.v 1) (.so (.k (.int 1))) .no) .nil))) .no [2, 3]))) .nil))⟩
def f_is_item : Fn := ⟨2, 2, (.cons (.iff (.cmp .isin (.fld (.v 0) s2_kind) (.g 2)) (.cons .bad .nil) .nil) (.cons (.iff (.cmp .eq (.fld (.v 0) s2_kind) (.g 3)) (.cons .bad .nil) .nil) (.cons (.iff (.cmp .eq (.fld (.v 0) s2_kind) (.g 5)) (.cons (.ret (.and (.cons (.call 2 (.cons (.v 1) (.cons (.g 11) .nil))) (.cons (.cmp .gt (.v 1) (.k (.int 0))) .nil)))) .nil) .nil) (.cons (.iff (.cmp .eq (.fld (.v 0) s2_kind) (.g 7)) (.cons .bad .nil) .nil) (.cons .bad .nil)))))⟩
def f_most_told : Fn := ⟨2, 3, (.cons (.iff (.cmp .nin (.fld (.v 0) s2_kind) (.g 2)) (.cons (.ret (.k (.int 1))) .nil) .nil) (.cons (.ret (.b1 .len (.lc (.v 2) (.n 2) (.x (.idx (.fld (.v 0) s0_rows) (.v 1))) (.so (.cmp .eq (.v 2) (.tup (.cons (.g 10) .nil)))) [2]))) .nil))⟩
def f_is_told : Fn := ⟨2, 6, (.cons (.set 2 (.b1 .len (.fld (.v 0) s0_rows)) false) (.cons (.iff (.not (.call 3 (.cons (.v 1) (.cons (.v 2) (.cons (.v 2) .nil))))) (.cons (.ret (.k (.bl false))) .nil) .nil) (.cons (.for (.t [(.n 3), (.n 4)]) (.enum (.cons (.v 1) .nil)) (.cons (.iff (.or (.cons (.not (.call 3 (.cons (.v 4) (.cons (.k (.int 0)) (.cons (.call 44 (.cons (.v 0) (.cons (.v 3) .nil))) .nil))))) (.cons (.not (.b1 .all (.lc (.call 43 (.cons (.v 0) (.cons (.v 5) .nil))) (.n 5) (.x (.v 4)) .no [5]))) .nil))) (.cons (.ret (.k (.bl false))) .nil) .nil) .nil)) (.cons (.ret (.k (.bl true))) .nil))))⟩
def f_flat : Fn := ⟨1, 3, (.cons (.set 1 (.lst .nil) true) (.cons (.for (.n 2) (.x (.v 0)) (.cons (.ext 1 (.cons (.v 2) .nil)) .nil)) (.cons (.frz [1] (.ret (.v 1))) .nil)))⟩
def f_name_fault : Fn := ⟨3, 5, (.cons (.set 3 (.call 46 (.cons (.v 2) .nil)) false) (.cons (.iff (.cmp .lt (.lenset (.v 3)) (.b1 .len (.v 3))) (.cons (.ret (.k (.str s4_alike))) .nil) .nil) (.cons (.ret (.ite (.b1 .any (.lc (.cmp .ge (.v 4) (.bin .mul (.k (.int 2)) (.b1 .len (.v 1)))) (.n 4) (.x (.v 3)) .no [4])) (.k (.str s3_great)) (.k .non))) .nil)))⟩
def f_raw_fault : Fn := ⟨3, 5, (.cons (.iff (.b1 .any (.lc (.and (.cons (.cmp .gt (.b1 .len (.v 4)) (.k (.int 0))) (.cons (.cmp .nin (.v 3) (.v 1)) .nil))) (.t [(.n 3), (.n 4)]) (.enum (.cons (.v 2) .nil)) .no [3, 4])) (.cons (.ret (.k (.str s5_came))) .nil) .nil) (.cons (.iff (.cmp .isin (.fld (.v 0) s2_kind) (.g 2)) (.cons .bad .nil) .nil) (.cons (.iff (.cmp .eq (.fld (.v 0) s2_kind) (.g 3)) (.cons .bad .nil) .nil) (.cons (.iff (.cmp .eq (.fld (.v 0) s2_kind) (.g 5)) (.cons (.ret (.call 47 (.cons (.v 0) (.cons (.v 1) (.cons (.v 2) .nil))))) .nil) .nil) (.cons .bad .nil)))))⟩
def f_fault : Fn := ⟨3, 3, (.cons (.iff (.not (.call 42 (.cons (.v 0) (.cons (.v 1) .nil)))) (.cons .bad .nil) .nil) (.cons (.iff (.not (.call 45 (.cons (.v 0) (.cons (.v 2) .nil)))) (.cons .bad .nil) .nil) (.cons (.ret (.call 48 (.cons (.v 0) (.cons (.v 1) (.cons (.v 2) .nil))))) .nil)))⟩
def f__law_hand : Fn := ⟨1, 3, (.cons (.set 1 (.lc (.b1 .abs (.b1 .int (.v 2))) (.n 2) (.x (.sli (.v 0) .no (.so (.k (.int 63))))) .no [2]) false) (.cons (.retc (.lst (.cons (.v 1) (.cons (.k (.int 0)) (.cons (.k (.int 0)) (.cons (.bin .add (.k (.int 1)) (.b1 .len (.v 1))) (.cons (.k (.int 0)) .nil))))))) .nil))⟩
def f__law_draw : Fn := ⟨2, 5, (.cons (.iff (.and (.cons (.cmp .eq (.idx (.v 0) (.k (.int 2))) (.k (.int 0))) (.cons (.cmp .lt (.idx (.v 0) (.k (.int 1))) (.b1 .len (.idx (.v 0) (.k (.int 0))))) .nil))) (.cons (.set 3 (.idx (.idx (.v 0) (.k (.int 0))) (.idx (.v 0) (.k (.int 1)))) false) (.cons (.stx 0 (.k (.int 1)) (.bin .add (.idx (.v 0) (.k (.int 1))) (.k (.int 1)))) (.cons (.stx 0 (.k (.int 3)) (.bin .mod (.b1 .int (.bin .add (.bin .add (.bin .mul (.idx (.v 0) (.k (.int 3))) (.k (.int 69621))) (.v 3)) (.k (.int 11)))) (.k (.int 2147483629)))) (.cons (.iff (.cmp .ge (.v 3) (.bin .pow (.k (.int 10)) (.k (.int 18)))) (.cons (.stx 0 (.k (.int 2)) (.v 3)) .nil) .nil) .nil)))) .nil) (.cons (.iff (.cmp .gt (.idx (.v 0) (.k (.int 2))) (.k (.int 0))) (.cons (.set 4 (.bin .mod (.b1 .int (.idx (.v 0) (.k (.int 2)))) (.v 1)) false) (.cons (.stx 0 (.k (.int 2)) (.bin .fdv (.idx (.v 0) (.k (.int 2))) (.v 1))) (.cons (.ret (.v 4)) .nil))) .nil) (.cons (.stx 0 (.k (.int 4)) (.bin .add (.idx (.v 0) (.k (.int 4))) (.k (.int 1)))) (.cons (.set 2 (.bin .mod (.b1 .int (.bin .mul (.b1 .int (.bin .add (.idx (.v 0) (.k (.int 3))) (.bin .mul (.k (.int 7919)) (.idx (.v 0) (.k (.int 4)))))) (.k (.int 48271)))) (.k (.int 2147483647))) false) (.cons (.set 2 (.bin .mod (.b1 .int (.bin .mul (.v 2) (.bin .add (.bin .fdv (.v 2) (.k (.int 1009))) (.k (.int 69621))))) (.k (.int 2147483647))) false) (.cons (.set 2 (.bin .mod (.b1 .int (.bin .mul (.v 2) (.bin .add (.bin .fdv (.v 2) (.k (.int 2003))) (.k (.int 40692))))) (.k (.int 2147483399))) false) (.cons (.ret (.bin .mod (.b1 .int (.bin .fdv (.v 2) (.k (.int 16)))) (.v 1))) .nil)))))))⟩
def f__law_some : Fn := ⟨2, 2, (.cons (.ret (.idx (.v 1) (.call 51 (.cons (.v 0) (.cons (.b1 .len (.v 1)) .nil))))) .nil)⟩
def f__law_shuffled : Fn := ⟨2, 4, (.cons (.set 2 (.b1 .list (.v 1)) true) (.cons (.set 3 (.lst .nil) true) (.cons (.whl (.cmp .gt (.b1 .len (.v 2)) (.k (.int 0))) (.cons (.apppop 3 2 (.cons (.call 51 (.cons (.v 0) (.cons (.b1 .len (.v 2)) .nil))) .nil)) .nil)) (.cons (.frz [3] (.ret (.v 3))) .nil))))⟩
def f__law_is : Fn := ⟨2, 4, (.cons (.iff (.isa (.v 1) [.tuple, .list]) (.cons (.iff (.or (.cons (.cmp .ne (.isa (.v 0) [.tuple]) (.isa (.v 1) [.tuple])) (.cons (.cmp .ne (.isa (.v 0) [.list]) (.isa (.v 1) [.list])) .nil))) (.cons (.ret (.k (.bl false))) .nil) .nil) (.cons (.ret (.and (.cons (.cmp .eq (.b1 .len (.v 0)) (.b1 .len (.v 1))) (.cons (.b1 .all (.lc (.call 54 (.cons (.idx (.v 0) (.v 2)) (.cons (.idx (.v 1) (.v 2)) .nil))) (.n 2) (.rng (.cons (.b1 .len (.v 1)) .nil)) .no [2])) .nil)))) .nil)) .nil) (.cons (.iff (.isa (.v 1) [.dict]) (.cons (.ret (.and (.cons (.isa (.v 0) [.dict]) (.cons (.cmp .eq (.v 0) (.v 1)) (.cons (.b1 .all (.lc (.call 54 (.cons (.idx (.v 0) (.v 3)) (.cons (.idx (.v 1) (.v 3)) .nil))) (.n 3) (.x (.v 1)) .no [3])) .nil))))) .nil) .nil) (.cons (.ret (.and (.cons (.cmp .eq (.isa (.v 0) [.bool]) (.isa (.v 1) [.bool])) (.cons (.cmp .eq (.v 0) (.v 1)) .nil)))) .nil)))⟩
def f__law_inputs : Fn := ⟨2, 6, (.cons (.set 2 (.call 52 (.cons (.v 0) (.cons (.lst (.cons (.k (.int 1)) (.cons (.k (.int 2)) (.cons (.k (.int 2)) (.cons (.k (.int 3)) (.cons (.k (.int 3)) (.cons (.k (.int 3)) (.cons (.k (.int 4)) (.cons (.k (.int 5)) .nil))))))))) .nil))) false) (.cons (.iff (.cmp .eq (.v 1) (.k (.str s7_levels))) (.cons (.set 4 (.b1 .tuple (.lc (.call 52 (.cons (.v 0) (.cons (.lst (.cons (.k (.int 0)) (.cons (.k (.int 7)) (.cons (.call 51 (.cons (.v 0) (.cons (.k (.int 1000)) .nil))) (.cons (.k (.int 999)) .nil))))) .nil))) (.n 5) (.rng (.cons (.v 2) .nil)) .no [5])) false) .nil) (.cons (.iff (.cmp .eq (.v 1) (.k (.str s8_names))) (.cons (.set 4 (.b1 .tuple (.sli (.call 53 (.cons (.v 0) (.cons (.lst (.cons (.k (.int 0)) (.cons (.k (.int 999)) (.cons (.k (.int 30)) (.cons (.k (.int 10)) (.cons (.k (.int 500)) (.cons (.k (.int 1)) (.cons (.k (.int 2)) .nil)))))))) .nil))) .no (.so (.v 2)))) false) .nil) (.cons (.iff (.cmp .eq (.v 1) (.k (.str s6_near))) (.cons (.set 4 (.b1 .tuple (.lc (.call 52 (.cons (.v 0) (.cons (.lst (.cons (.k (.int 0)) (.cons (.k (.int 1)) (.cons (.neg (.k (.int 1))) (.cons (.k (.int 1000)) (.cons (.neg (.k (.int 1000))) (.cons (.bin .sub (.k (.int 500)) (.call 51 (.cons (.v 0) (.cons (.k (.int 1000)) .nil)))) .nil))))))) .nil))) (.n 5) (.rng (.cons (.v 2) .nil)) .no [5])) false) .nil) (.cons (.set 4 (.tup .nil) false) (.cons (.for (.n 5) (.rng (.cons (.v 2) .nil)) (.cons (.set 4 (.bin .add (.v 4) (.tup (.cons (.b1 .tuple (.b1 .sorted (.sli (.call 53 (.cons (.v 0) (.cons (.lrng (.k (.int 20))) .nil))) .no (.so (.call 52 (.cons (.v 0) (.cons (.lst (.cons (.k (.int 0)) (.cons (.k (.int 1)) (.cons (.k (.int 1)) (.cons (.k (.int 2)) (.cons (.k (.int 4)) (.cons (.k (.int 20)) .nil))))))) .nil))))))) .nil))) false) .nil)) .nil))) .nil)) .nil)) (.cons (.set 3 (.ite (.cmp .eq (.v 1) (.k (.str s6_near))) (.bin .add (.k (.int 1)) (.call 51 (.cons (.v 0) (.cons (.k (.int 6)) .nil)))) (.k (.int 0))) false) (.cons (.ret (.tup (.cons (.ite (.cmp .eq (.v 1) (.k (.str s6_near))) (.tup (.cons (.v 3) (.cons (.v 4) .nil))) (.v 4)) (.cons (.v 4) (.cons (.v 3) .nil))))) .nil))))⟩
def f__law_begin : Fn := ⟨2, 6, (.cons (.set 2 (.b1 .len (.v 1)) false) (.cons (.par [(3, false), (4, false)] (.cons (.bin .mul (.lst (.cons (.k .non) .nil)) (.v 2)) (.cons (.bin .mul (.lst (.cons (.tup (.cons (.k (.bl false)) .nil)) .nil)) (.v 2)) .nil))) (.cons (.iff (.cmp .eq (.v 0) (.k (.str s7_levels))) (.cons (.set 4 (.bin .mul (.lst (.cons (.tup (.cons (.bin .add (.v 2) (.k (.int 1))) (.cons (.k .non) .nil))) .nil)) (.v 2)) false) .nil) (.cons (.iff (.cmp .eq (.v 0) (.k (.str s8_names))) (.cons (.set 4 (.bin .mul (.lst (.cons (.tup (.cons (.k (.int 1)) (.cons (.k (.bl false)) .nil))) .nil)) (.v 2)) false) .nil) (.cons (.iff (.cmp .eq (.v 0) (.k (.str s6_near))) (.cons (.par [(3, false), (4, false)] (.cons (.bin .mul (.lst (.cons (.tup .nil) .nil)) (.v 2)) (.cons (.lc (.tup (.cons (.k (.int 0)) (.cons (.v 5) (.cons (.k (.bl false)) .nil)))) (.n 5) (.x (.v 1)) .no [5]) .nil))) .nil) .nil) .nil)) .nil)) (.cons (.ret (.tup (.cons (.b1 .tuple (.v 3)) (.cons (.b1 .tuple (.v 4)) (.cons (.bin .mul (.tup (.cons (.tup .nil) .nil)) (.v 2)) .nil))))) .nil))))⟩
def f__law_next : Fn := ⟨2, 2, (.cons (.iff (.cmp .eq (.v 0) (.k (.str s7_levels))) (.cons (.ret (.ite (.cmp .is (.idx (.v 1) (.k (.int 1))) (.k .non)) (.tup (.cons (.k (.str s10_put)) .nil)) (.tup (.cons (.k (.str s11_look)) (.cons (.b1 .len (.idx (.v 1) (.k (.int 1)))) .nil))))) .nil) .nil) (.cons (.ret (.ite (.idx (.v 1) (.neg (.k (.int 1)))) (.tup (.cons (.k (.str s9_see)) .nil)) (.tup (.cons (.k (.str s10_put)) .nil)))) .nil))⟩
def f__law_name : Fn := ⟨4, 11, (.cons (.setG (.t [(.n 6), (.n 8)]) (.v 3)) (.cons (.iff (.not (.v 8)) (.cons (.ret (.tup (.cons (.tup (.cons (.idx (.v 0) (.v 2)) (.cons (.v 6) .nil))) (.cons (.tup (.cons (.v 6) (.cons (.k (.bl true)) .nil))) (.cons (.k .non) .nil))))) .nil) .nil) (.cons (.set 4 (.lc (.idx (.idx (.v 1) (.v 9)) (.k (.int 1))) (.n 9) (.rng (.cons (.b1 .len (.v 1)) .nil)) (.so (.and (.cons (.cmp .ne (.v 9) (.v 2)) (.cons (.cmp .nis (.idx (.v 1) (.v 9)) (.k .non)) .nil)))) [9]) false) (.cons (.iff (.cmp .nin (.v 6) (.v 4)) (.cons (.ret (.tup (.cons (.k .non) (.cons (.k .non) (.cons (.v 6) .nil))))) .nil) .nil) (.cons (.set 5 (.lidx (.b1 .sorted (.lc (.idx (.v 10) (.k (.int 0))) (.n 10) (.x (.v 1)) (.so (.cmp .nis (.v 10) (.k .non))) [10])) (.idx (.v 0) (.v 2))) false) (.cons (.set 6 (.k (.int 0)) false) (.cons (.for (.n 7) (.rng (.cons (.bin .add (.v 5) (.k (.int 1))) .nil)) (.cons (.set 6 (.bin .add (.v 6) (.k (.int 1))) false) (.cons (.for (.n 9) (.x (.b1 .sorted (.v 4))) (.cons (.iff (.cmp .eq (.v 9) (.v 6)) (.cons (.set 6 (.bin .add (.v 6) (.k (.int 1))) false) .nil) .nil) .nil)) .nil))) (.cons (.ret (.tup (.cons (.k .non) (.cons (.tup (.cons (.v 6) (.cons (.k (.bl false)) .nil))) (.cons (.k .non) .nil))))) .nil))))))))⟩
def f__law_moved : Fn := ⟨5, 11, (.cons (.setG (.t [(.n 5), (.n 6), (.n 7)]) (.v 3)) (.cons (.iff (.cmp .eq (.v 0) (.k (.str s7_levels))) (.cons .bad .nil) (.cons (.iff (.cmp .eq (.v 0) (.k (.str s8_names))) (.cons (.setG (.t [(.n 8), (.n 9), (.n 10)]) (.call 58 (.cons (.v 1) (.cons (.v 5) (.cons (.v 4) (.cons (.idx (.v 6) (.v 4)) .nil)))))) .nil) (.cons (.iff (.cmp .eq (.v 0) (.k (.str s6_near))) (.cons .bad .nil) (.cons .bad .nil)) .nil)) .nil)) (.cons (.iff (.cmp .eq (.call 57 (.cons (.v 0) (.cons (.idx (.v 6) (.v 4)) .nil))) (.tup (.cons (.k (.str s10_put)) .nil))) (.cons (.set 5 (.bin .add (.bin .add (.sli (.v 5) .no (.so (.v 4))) (.tup (.cons (.v 8) .nil))) (.sli (.v 5) (.so (.bin .add (.v 4) (.k (.int 1)))) .no)) false) .nil) .nil) (.cons (.iff (.cmp .nis (.v 10) (.k .non)) (.cons (.set 7 (.bin .add (.bin .add (.sli (.v 7) .no (.so (.v 4))) (.tup (.cons (.bin .add (.idx (.v 7) (.v 4)) (.tup (.cons (.v 10) .nil))) .nil))) (.sli (.v 7) (.so (.bin .add (.v 4) (.k (.int 1)))) .no)) false) .nil) .nil) (.cons (.ret (.tup (.cons (.v 5) (.cons (.bin .add (.bin .add (.sli (.v 6) .no (.so (.v 4))) (.tup (.cons (.v 9) .nil))) (.sli (.v 6) (.so (.bin .add (.v 4) (.k (.int 1)))) .no)) (.cons (.v 7) .nil))))) .nil)))))⟩
def f__law_left : Fn := ⟨1, 2, (.cons (.ret (.b1 .tuple (.lc (.v 1) (.n 1) (.rng (.cons (.b1 .len (.idx (.v 0) (.k (.int 1)))) .nil)) (.so (.cmp .nis (.idx (.idx (.v 0) (.k (.int 1))) (.v 1)) (.k .non))) [1]))) .nil)⟩
def f__law_woven : Fn := ⟨5, 14, (.cons (.par [(6, true), (7, true), (8, false)] (.cons (.lst .nil) (.cons (.lst (.cons (.call 56 (.cons (.v 1) (.cons (.v 2) .nil))) .nil)) (.cons (.call 51 (.cons (.v 0) (.cons (.k (.int 4)) .nil))) .nil)))) (.cons (.par [(9, false), (10, false)] (.cons (.lc (.v 13) (.n 13) (.rng (.cons (.b1 .len (.v 2)) .nil)) (.so (.and (.cons (.cmp .gt (.v 8) (.k (.int 1))) (.cons (.cmp .eq (.call 51 (.cons (.v 0) (.cons (.k (.int 4)) .nil))) (.k (.int 0))) .nil)))) [13]) (.cons (.k (.int 0)) .nil))) (.cons (.for (.n 5) (.rng (.cons (.v 4) .nil)) (.cons (.set 11 (.lc (.v 13) (.n 13) (.x (.call 60 (.cons (.idx (.v 7) (.neg (.k (.int 1)))) .nil))) (.so (.or (.cons (.cmp .nin (.v 13) (.v 9)) (.cons (.cmp .lt (.v 5) (.k (.int 4))) .nil)))) [13]) false) (.cons (.iff (.cmp .gt (.b1 .len (.v 11)) (.k (.int 0))) (.cons (.set 12 (.lc (.v 13) (.n 13) (.x (.v 11)) (.so (.cmp .gt (.v 13) (.v 10))) [13]) false) (.cons (.iff (.cmp .eq (.v 8) (.k (.int 0))) (.cons (.set 10 (.ite (.cmp .gt (.b1 .len (.v 12)) (.k (.int 0))) (.idx (.v 12) (.k (.int 0))) (.idx (.v 11) (.k (.int 0)))) false) .nil) (.cons (.iff (.or (.cons (.cmp .eq (.v 8) (.k (.int 1))) (.cons (.cmp .nin (.v 10) (.v 11)) (.cons (.cmp .eq (.call 51 (.cons (.v 0) (.cons (.k (.int 4)) .nil))) (.k (.int 0))) .nil)))) (.cons (.set 10 (.call 52 (.cons (.v 0) (.cons (.v 11) .nil))) false) .nil) .nil) .nil)) (.cons (.app 6 (.cons (.v 10) .nil)) (.cons (.app 7 (.cons (.call 59 (.cons (.v 1) (.cons (.v 2) (.cons (.v 3) (.cons (.idx (.v 7) (.neg (.k (.int 1)))) (.cons (.v 10) .nil)))))) .nil)) .nil)))) .nil) .nil))) (.cons (.frz [6, 7] (.ret (.tup (.cons (.v 6) (.cons (.v 7) .nil))))) .nil))))⟩
def f__law_whole : Fn := ⟨5, 8, (.cons (.set 5 (.b1 .list (.v 3)) true) (.cons (.for (.n 6) (.rng (.cons (.k (.int 2000)) .nil)) (.cons (.set 7 (.call 60 (.cons (.v 4) .nil)) false) (.cons (.iff (.cmp .gt (.b1 .len (.v 7)) (.k (.int 0))) (.cons (.app 5 (.cons (.idx (.v 7) (.k (.int 0))) .nil)) (.cons (.set 4 (.call 59 (.cons (.v 0) (.cons (.v 1) (.cons (.v 2) (.cons (.v 4) (.cons (.idx (.v 7) (.k (.int 0))) .nil)))))) false) .nil)) .nil) .nil))) (.cons (.ret (.tup (.cons (.b1 .tuple (.v 5)) (.cons (.v 4) .nil)))) .nil)))⟩
def f__law_came : Fn := ⟨1, 1, (.cons (.ret (.b1 .tuple (.srtset (.v 0)))) .nil)⟩
def f__law_all : Fn := ⟨1, 3, (.cons (.set 1 (.lst .nil) true) (.cons (.for (.n 2) (.x (.v 0)) (.cons (.ext 1 (.cons (.b1 .list (.v 2)) .nil)) .nil)) (.cons (.frz [1] (.ret (.v 1))) .nil)))⟩
def f__law_fault : Fn := ⟨5, 8, (.cons (.set 5 (.call 64 (.cons (.v 4) .nil)) false) (.cons (.iff (.b1 .any (.lc (.and (.cons (.cmp .gt (.b1 .len (.idx (.v 4) (.v 6))) (.k (.int 0))) (.cons (.cmp .nin (.v 6) (.v 3)) .nil))) (.n 6) (.rng (.cons (.b1 .len (.v 1)) .nil)) .no [6])) (.cons (.ret (.k (.str s5_came))) .nil) .nil) (.cons (.iff (.cmp .eq (.v 0) (.k (.str s7_levels))) (.cons .bad .nil) .nil) (.cons (.iff (.cmp .eq (.v 0) (.k (.str s8_names))) (.cons (.iff (.cmp .gt (.b1 .len (.v 5)) (.lenset (.v 5))) (.cons (.ret (.k (.str s4_alike))) .nil) .nil) (.cons (.ret (.ite (.b1 .any (.lc (.cmp .gt (.v 7) (.bin .sub (.bin .mul (.k (.int 2)) (.b1 .len (.v 3))) (.k (.int 1)))) (.n 7) (.x (.v 5)) .no [7])) (.k (.str s3_great)) (.k .non))) .nil)) .nil) (.cons .bad .nil)))))⟩
def f__law_led_right : Fn := ⟨6, 14, (.cons (.setG (.t [(.n 7), (.n 8)]) (.call 61 (.cons (.v 0) (.cons (.v 1) (.cons (.v 2) (.cons (.v 3) (.cons (.v 5) .nil))))))) (.cons (.iff (.not (.call 54 (.cons (.call 32 (.cons (.v 4) .nil)) (.cons (.idx (.v 8) (.k (.int 0))) .nil)))) (.cons (.ret (.k .non)) .nil) .nil) (.cons (.for (.n 6) (.x (.lst (.cons (.b1 .len (.v 7)) (.cons (.call 51 (.cons (.v 0) (.cons (.bin .add (.b1 .len (.v 7)) (.k (.int 1))) .nil))) (.cons (.call 51 (.cons (.v 0) (.cons (.bin .add (.b1 .len (.v 7)) (.k (.int 1))) .nil))) .nil))))) (.cons (.par [(12, false), (13, false)] (.cons (.idx (.v 8) (.v 6)) (.cons (.call 52 (.cons (.v 0) (.cons (.lst (.cons (.sli (.v 7) .no (.so (.v 6))) (.cons (.b1 .tuple (.sli (.v 7) .no (.so (.v 6)))) .nil))) .nil))) .nil))) (.cons (.iff (.not (.call 54 (.cons (.lst (.cons (.call 40 (.cons (.v 4) (.cons (.v 13) .nil))) (.cons (.call 34 (.cons (.v 4) (.cons (.v 12) .nil))) .nil))) (.cons (.lst (.cons (.v 12) (.cons (.call 60 (.cons (.v 12) .nil)) .nil))) .nil)))) (.cons (.ret (.k .non)) .nil) .nil) (.cons (.iff (.cmp .nis (.call 49 (.cons (.v 4) (.cons (.call 63 (.cons (.v 13) .nil)) (.cons (.idx (.v 12) (.k (.int 2))) .nil)))) (.k .non)) (.cons (.ret (.k .non)) .nil) .nil) (.cons (.iff (.cmp .nis (.call 65 (.cons (.v 1) (.cons (.v 2) (.cons (.v 3) (.cons (.call 63 (.cons (.v 13) .nil)) (.cons (.idx (.v 12) (.k (.int 2))) .nil)))))) (.k .non)) (.cons (.ret (.k .non)) .nil) .nil) (.cons (.for (.n 9) (.x (.call 60 (.cons (.v 12) .nil))) (.cons (.iff (.not (.call 54 (.cons (.lst (.cons (.call 38 (.cons (.v 4) (.cons (.v 12) (.cons (.v 9) .nil)))) .nil)) (.cons (.lst (.cons (.call 57 (.cons (.v 1) (.cons (.idx (.idx (.v 12) (.k (.int 1))) (.v 9)) .nil))) .nil)) .nil)))) (.cons (.ret (.k .non)) .nil) .nil) (.cons (.iff (.not (.call 54 (.cons (.call 37 (.cons (.v 4) (.cons (.v 12) (.cons (.v 9) .nil)))) (.cons (.call 59 (.cons (.v 1) (.cons (.v 2) (.cons (.v 3) (.cons (.v 12) (.cons (.v 9) .nil)))))) .nil)))) (.cons (.ret (.k .non)) .nil) .nil) .nil))) .nil)))))) (.cons (.setG (.t [(.n 10), (.n 11)]) (.call 62 (.cons (.v 1) (.cons (.v 2) (.cons (.v 3) (.cons (.v 7) (.cons (.idx (.v 8) (.neg (.k (.int 1)))) .nil))))))) (.cons (.iff (.or (.cons (.not (.call 54 (.cons (.call 41 (.cons (.v 4) (.cons (.v 7) .nil))) (.cons (.v 10) .nil)))) (.cons (.not (.call 54 (.cons (.call 40 (.cons (.v 4) (.cons (.v 10) .nil))) (.cons (.v 11) .nil)))) .nil))) (.cons (.ret (.k .non)) .nil) .nil) (.cons (.ret (.ite (.cmp .is (.call 65 (.cons (.v 1) (.cons (.v 2) (.cons (.v 3) (.cons (.call 63 (.cons (.v 10) .nil)) (.cons (.idx (.v 11) (.k (.int 2))) .nil)))))) (.k .non)) (.v 11) (.k .non))) .nil))))))⟩
def f_law : Fn := ⟨1, 16, (.cons (.set 1 (.call 50 (.cons (.v 0) .nil)) false) (.cons (.for (.n 2) (.rng (.cons (.k (.int 3)) .nil)) (.cons (.setG (.t [(.n 6), (.n 7), (.n 8)]) (.call 55 (.cons (.v 1) (.cons (.k (.str s8_names)) .nil)))) (.cons (.set 3 (.mk 0 (.cons (.k (.str s8_names)) (.cons (.v 6) .nil))) false) (.cons (.set 4 (.call 66 (.cons (.v 1) (.cons (.k (.str s8_names)) (.cons (.v 7) (.cons (.v 8) (.cons (.v 3) (.cons (.call 51 (.cons (.v 1) (.cons (.k (.int 51)) .nil))) .nil))))))) false) (.cons (.iff (.or (.cons (.cmp .is (.v 4) (.k .non)) (.cons (.not (.b1 .all (.lc (.cmp .eq (.b1 .len (.v 15)) (.k (.int 1))) (.n 15) (.x (.idx (.v 4) (.k (.int 2)))) .no [15]))) .nil))) (.cons (.ret (.k (.bl false))) .nil) .nil) (.cons (.setG (.t [(.n 9), (.n 10)]) (.call 61 (.cons (.v 1) (.cons (.k (.str s8_names)) (.cons (.v 7) (.cons (.v 8) (.cons (.call 51 (.cons (.v 1) (.cons (.k (.int 30)) .nil))) .nil))))))) (.cons (.set 5 (.call 60 (.cons (.idx (.v 10) (.neg (.k (.int 1)))) .nil)) false) (.cons (.iff (.cmp .gt (.b1 .len (.v 5)) (.k (.int 0))) (.cons (.par [(12, false), (13, false), (14, false)] (.cons (.call 52 (.cons (.v 1) (.cons (.b1 .list (.v 5)) .nil))) (.cons (.idx (.v 10) (.neg (.k (.int 1)))) (.cons (.k (.int 0)) .nil)))) (.cons (.for (.n 11) (.rng (.cons (.k (.int 4)) .nil)) (.cons (.iff (.cmp .nis (.idx (.idx (.v 13) (.k (.int 1))) (.v 12)) (.k .non)) (.cons (.par [(13, false), (14, false)] (.cons (.call 59 (.cons (.k (.str s8_names)) (.cons (.v 7) (.cons (.v 8) (.cons (.v 13) (.cons (.v 12) .nil)))))) (.cons (.bin .add (.v 14) (.k (.int 1))) .nil))) .nil) .nil) .nil)) (.cons (.iff (.or (.cons (.cmp .nis (.idx (.idx (.v 13) (.k (.int 1))) (.v 12)) (.k .non)) (.cons (.not (.call 54 (.cons (.call 40 (.cons (.v 3) (.cons (.bin .add (.v 9) (.bin .mul (.lst (.cons (.v 12) .nil)) (.v 14))) .nil))) (.cons (.v 13) .nil)))) .nil))) (.cons (.ret (.k (.bl false))) .nil) .nil) .nil))) .nil) .nil)))))))) (.cons (.ret (.k (.bl true))) .nil)))⟩
def fns : List Fn := [f_is_integer, f_is_within, f_is_below, f_is_sized, f_is_listed, f_replaced, f_is_value, f_is_row_of, f_are_inputs, f_Play_init, f_Play_eq, f_is_hand, f_check_hand, f_level_cell, f_level_state, f_level_next, f_level_after, f_fresh, f_numbers_of, f_top_cell, f_top_state, f_top_next, f_wish_by, f_after_names, f_after_near, f_after_chain, f_top_after, f_cell_of, f_state_of, f_next_of, f_after_of, f_begun, f_first_standing, f_movers, f_can_step, f_after_step, f_check_step, f_step, f_next_step, f_standings_of, f_run, f_run_out, f_is_came, f_is_item, f_most_told, f_is_told, f_flat, f_name_fault, f_raw_fault, f_fault, f__law_hand, f__law_draw, f__law_some, f__law_shuffled, f__law_is, f__law_inputs, f__law_begin, f__law_next, f__law_name, f__law_moved, f__law_left, f__law_woven, f__law_whole, f__law_came, f__law_all, f__law_fault, f__law_led_right, f_law]
def gs : List D := [(.int 1000), (.int 5), (.tup [(.str s12_sweep), (.str s13_twice), (.str s14_borrow)]), (.str s7_levels), (.fn 6), (.str s8_names), (.str s15_chain), (.str s6_near), (.str s10_put), (.str s11_look), (.str s9_see), (.int 100000000000000000000)]
def cls : List Cl := [⟨9, true, some 10⟩]
def prg : Prog := ⟨fns, 1, fun c => cls[c]?, gs, fun _ _ => false, fun _ => none, 100000⟩
end K13

set_option maxRecDepth 100000
set_option maxHeartbeats 0
namespace K13
open PySem PySem.Spec PyProof.Rows L2 Ev
def body : Nat → Stmt := fun i => (PySem.Challenge.pw_onepicture_k13_whole_new_names).main.body.getD i (.Pass ⟨0, 0, 0, 0⟩)
def meth (c i : Nat) : Stmt := match body c with | .ClassDef _ _ _ b _ _ _ _ _ _ _ => b.getD i (.Pass ⟨0, 0, 0, 0⟩) | s => s
def fn : List He.DefD := [
  defOf ((Str.ofString "is_integer"), none) (Str.ofString "is_integer") (body 9),
  defOf ((Str.ofString "is_within"), none) (Str.ofString "is_within") (body 10),
  defOf ((Str.ofString "is_below"), none) (Str.ofString "is_below") (body 11),
  defOf ((Str.ofString "is_sized"), none) (Str.ofString "is_sized") (body 12),
  defOf ((Str.ofString "is_listed"), none) (Str.ofString "is_listed") (body 14),
  defOf ((Str.ofString "replaced"), none) (Str.ofString "replaced") (body 15),
  defOf ((Str.ofString "is_value"), none) (Str.ofString "is_value") (body 34),
  defOf ((Str.ofString "is_row_of"), none) (Str.ofString "is_row_of") (body 37),
  defOf ((Str.ofString "are_inputs"), none) (Str.ofString "are_inputs") (body 38),
  defOf ((Str.ofString "Play"), some (Str.ofString "__init__")) (Str.ofString "Play.__init__") (meth 39 0),
  defOf ((Str.ofString "Play"), some (Str.ofString "__eq__")) (Str.ofString "Play.__eq__") (meth 39 1),
  defOf ((Str.ofString "is_hand"), none) (Str.ofString "is_hand") (body 40),
  defOf ((Str.ofString "check_hand"), none) (Str.ofString "check_hand") (body 41),
  defOf ((Str.ofString "level_cell"), none) (Str.ofString "level_cell") (body 44),
  defOf ((Str.ofString "level_state"), none) (Str.ofString "level_state") (body 45),
  defOf ((Str.ofString "level_next"), none) (Str.ofString "level_next") (body 46),
  defOf ((Str.ofString "level_after"), none) (Str.ofString "level_after") (body 47),
  defOf ((Str.ofString "fresh"), none) (Str.ofString "fresh") (body 51),
  defOf ((Str.ofString "numbers_of"), none) (Str.ofString "numbers_of") (body 56),
  defOf ((Str.ofString "top_cell"), none) (Str.ofString "top_cell") (body 63),
  defOf ((Str.ofString "top_state"), none) (Str.ofString "top_state") (body 64),
  defOf ((Str.ofString "top_next"), none) (Str.ofString "top_next") (body 65),
  defOf ((Str.ofString "wish_by"), none) (Str.ofString "wish_by") (body 66),
  defOf ((Str.ofString "after_names"), none) (Str.ofString "after_names") (body 67),
  defOf ((Str.ofString "after_near"), none) (Str.ofString "after_near") (body 68),
  defOf ((Str.ofString "after_chain"), none) (Str.ofString "after_chain") (body 69),
  defOf ((Str.ofString "top_after"), none) (Str.ofString "top_after") (body 70),
  defOf ((Str.ofString "cell_of"), none) (Str.ofString "cell_of") (body 72),
  defOf ((Str.ofString "state_of"), none) (Str.ofString "state_of") (body 73),
  defOf ((Str.ofString "next_of"), none) (Str.ofString "next_of") (body 74),
  defOf ((Str.ofString "after_of"), none) (Str.ofString "after_of") (body 75),
  defOf ((Str.ofString "begun"), none) (Str.ofString "begun") (body 76),
  defOf ((Str.ofString "first_standing"), none) (Str.ofString "first_standing") (body 77),
  defOf ((Str.ofString "movers"), none) (Str.ofString "movers") (body 78),
  defOf ((Str.ofString "can_step"), none) (Str.ofString "can_step") (body 79),
  defOf ((Str.ofString "after_step"), none) (Str.ofString "after_step") (body 80),
  defOf ((Str.ofString "check_step"), none) (Str.ofString "check_step") (body 81),
  defOf ((Str.ofString "step"), none) (Str.ofString "step") (body 82),
  defOf ((Str.ofString "next_step"), none) (Str.ofString "next_step") (body 83),
  defOf ((Str.ofString "standings_of"), none) (Str.ofString "standings_of") (body 84),
  defOf ((Str.ofString "run"), none) (Str.ofString "run") (body 85),
  defOf ((Str.ofString "run_out"), none) (Str.ofString "run_out") (body 86),
  defOf ((Str.ofString "is_came"), none) (Str.ofString "is_came") (body 89),
  defOf ((Str.ofString "is_item"), none) (Str.ofString "is_item") (body 93),
  defOf ((Str.ofString "most_told"), none) (Str.ofString "most_told") (body 94),
  defOf ((Str.ofString "is_told"), none) (Str.ofString "is_told") (body 95),
  defOf ((Str.ofString "flat"), none) (Str.ofString "flat") (body 96),
  defOf ((Str.ofString "name_fault"), none) (Str.ofString "name_fault") (body 106),
  defOf ((Str.ofString "raw_fault"), none) (Str.ofString "raw_fault") (body 109),
  defOf ((Str.ofString "fault"), none) (Str.ofString "fault") (body 110),
  defOf ((Str.ofString "_law_hand"), none) (Str.ofString "_law_hand") (body 112),
  defOf ((Str.ofString "_law_draw"), none) (Str.ofString "_law_draw") (body 113),
  defOf ((Str.ofString "_law_some"), none) (Str.ofString "_law_some") (body 114),
  defOf ((Str.ofString "_law_shuffled"), none) (Str.ofString "_law_shuffled") (body 115),
  defOf ((Str.ofString "_law_is"), none) (Str.ofString "_law_is") (body 116),
  defOf ((Str.ofString "_law_inputs"), none) (Str.ofString "_law_inputs") (body 117),
  defOf ((Str.ofString "_law_begin"), none) (Str.ofString "_law_begin") (body 118),
  defOf ((Str.ofString "_law_next"), none) (Str.ofString "_law_next") (body 119),
  defOf ((Str.ofString "_law_name"), none) (Str.ofString "_law_name") (body 121),
  defOf ((Str.ofString "_law_moved"), none) (Str.ofString "_law_moved") (body 124),
  defOf ((Str.ofString "_law_left"), none) (Str.ofString "_law_left") (body 125),
  defOf ((Str.ofString "_law_woven"), none) (Str.ofString "_law_woven") (body 126),
  defOf ((Str.ofString "_law_whole"), none) (Str.ofString "_law_whole") (body 127),
  defOf ((Str.ofString "_law_came"), none) (Str.ofString "_law_came") (body 128),
  defOf ((Str.ofString "_law_all"), none) (Str.ofString "_law_all") (body 131),
  defOf ((Str.ofString "_law_fault"), none) (Str.ofString "_law_fault") (body 135),
  defOf ((Str.ofString "_law_led_right"), none) (Str.ofString "_law_led_right") (body 136),
  defOf ((Str.ofString "law"), none) (Str.ofString "law") (body 137)]
def names : List (List Str) := [
  [(Str.ofString "thing")],
  [(Str.ofString "thing"), (Str.ofString "least"), (Str.ofString "most")],
  [(Str.ofString "thing"), (Str.ofString "many")],
  [(Str.ofString "thing"), (Str.ofString "least"), (Str.ofString "most")],
  [(Str.ofString "thing")],
  [(Str.ofString "items"), (Str.ofString "number"), (Str.ofString "item")],
  [(Str.ofString "thing")],
  [(Str.ofString "is_one"), (Str.ofString "thing"), (Str.ofString "item")],
  [(Str.ofString "kind"), (Str.ofString "thing")],
  [(Str.ofString "self"), (Str.ofString "kind"), (Str.ofString "inputs")],
  [(Str.ofString "self"), (Str.ofString "other")],
  [(Str.ofString "play"), (Str.ofString "thing")],
  [(Str.ofString "play"), (Str.ofString "thing")],
  [(Str.ofString "play"), (Str.ofString "hand")],
  [(Str.ofString "play"), (Str.ofString "hand")],
  [(Str.ofString "play"), (Str.ofString "hand"), (Str.ofString "state")],
  [(Str.ofString "play"), (Str.ofString "hand"), (Str.ofString "cells"), (Str.ofString "state"), (Str.ofString "looked"), (Str.ofString "below"), (Str.ofString "level"), (Str.ofString "now"), (Str.ofString "other"), (Str.ofString "cell")],
  [(Str.ofString "play"), (Str.ofString "hand"), (Str.ofString "done")],
  [(Str.ofString "cells"), (Str.ofString "cell")],
  [(Str.ofString "play"), (Str.ofString "hand")],
  [(Str.ofString "play"), (Str.ofString "hand")],
  [(Str.ofString "play"), (Str.ofString "hand"), (Str.ofString "state")],
  [(Str.ofString "cells"), (Str.ofString "hand"), (Str.ofString "rank"), (Str.ofString "wished"), (Str.ofString "free"), (Str.ofString "number"), (Str.ofString "cell"), (Str.ofString "other")],
  [(Str.ofString "play"), (Str.ofString "hand"), (Str.ofString "cells"), (Str.ofString "state"), (Str.ofString "others"), (Str.ofString "wish"), (Str.ofString "is_put"), (Str.ofString "other"), (Str.ofString "cell")],
  [(Str.ofString "play"), (Str.ofString "hand"), (Str.ofString "cells"), (Str.ofString "state"), (Str.ofString "tops"), (Str.ofString "later"), (Str.ofString "number"), (Str.ofString "top"), (Str.ofString "is_put"), (Str.ofString "cell")],
  [(Str.ofString "play"), (Str.ofString "hand"), (Str.ofString "cells"), (Str.ofString "state"), (Str.ofString "found"), (Str.ofString "cell"), (Str.ofString "item")],
  [(Str.ofString "play"), (Str.ofString "hand"), (Str.ofString "cells"), (Str.ofString "state")],
  [(Str.ofString "play"), (Str.ofString "hand")],
  [(Str.ofString "play"), (Str.ofString "hand")],
  [(Str.ofString "play"), (Str.ofString "hand"), (Str.ofString "state")],
  [(Str.ofString "play"), (Str.ofString "hand"), (Str.ofString "cells"), (Str.ofString "state")],
  [(Str.ofString "play"), (Str.ofString "hands"), (Str.ofString "cells"), (Str.ofString "hand")],
  [(Str.ofString "play")],
  [(Str.ofString "standing"), (Str.ofString "hand"), (Str.ofString "state")],
  [(Str.ofString "play"), (Str.ofString "standing")],
  [(Str.ofString "play"), (Str.ofString "standing"), (Str.ofString "hand"), (Str.ofString "cells"), (Str.ofString "states"), (Str.ofString "told"), (Str.ofString "cell"), (Str.ofString "state"), (Str.ofString "item")],
  [(Str.ofString "play"), (Str.ofString "standing"), (Str.ofString "hand")],
  [(Str.ofString "play"), (Str.ofString "standing"), (Str.ofString "hand")],
  [(Str.ofString "play"), (Str.ofString "standing"), (Str.ofString "hand")],
  [(Str.ofString "play"), (Str.ofString "weaving"), (Str.ofString "found"), (Str.ofString "index"), (Str.ofString "hand")],
  [(Str.ofString "play"), (Str.ofString "weaving")],
  [(Str.ofString "play"), (Str.ofString "weaving"), (Str.ofString "here"), (Str.ofString "found"), (Str.ofString "left")],
  [(Str.ofString "play"), (Str.ofString "thing"), (Str.ofString "one"), (Str.ofString "other"), (Str.ofString "item")],
  [(Str.ofString "play"), (Str.ofString "thing")],
  [(Str.ofString "play"), (Str.ofString "hand"), (Str.ofString "deed")],
  [(Str.ofString "play"), (Str.ofString "thing"), (Str.ofString "many"), (Str.ofString "hand"), (Str.ofString "items"), (Str.ofString "item")],
  [(Str.ofString "told"), (Str.ofString "found"), (Str.ofString "items")],
  [(Str.ofString "play"), (Str.ofString "came"), (Str.ofString "told"), (Str.ofString "items"), (Str.ofString "item")],
  [(Str.ofString "play"), (Str.ofString "came"), (Str.ofString "told"), (Str.ofString "hand"), (Str.ofString "items")],
  [(Str.ofString "play"), (Str.ofString "came"), (Str.ofString "told")],
  [(Str.ofString "_law_script"), (Str.ofString "_law_cells"), (Str.ofString "_law_cell")],
  [(Str.ofString "_law_hand_here"), (Str.ofString "_law_many"), (Str.ofString "_law_number"), (Str.ofString "_law_cell"), (Str.ofString "_law_digit")],
  [(Str.ofString "_law_hand_here"), (Str.ofString "_law_things")],
  [(Str.ofString "_law_hand_here"), (Str.ofString "_law_things"), (Str.ofString "_law_pool"), (Str.ofString "_law_found")],
  [(Str.ofString "_law_told"), (Str.ofString "_law_due"), (Str.ofString "_law_k"), (Str.ofString "_law_key")],
  [(Str.ofString "_law_hand_here"), (Str.ofString "_law_kind"), (Str.ofString "_law_many"), (Str.ofString "_law_rounds"), (Str.ofString "_law_rows"), (Str.ofString "_law_one")],
  [(Str.ofString "_law_kind"), (Str.ofString "_law_rows"), (Str.ofString "_law_many"), (Str.ofString "_law_cells"), (Str.ofString "_law_states"), (Str.ofString "_law_value")],
  [(Str.ofString "_law_kind"), (Str.ofString "_law_state")],
  [(Str.ofString "_law_rows"), (Str.ofString "_law_cells"), (Str.ofString "_law_hand_here"), (Str.ofString "_law_state"), (Str.ofString "_law_taken"), (Str.ofString "_law_rank"), (Str.ofString "_law_wish"), (Str.ofString "_law_turn"), (Str.ofString "_law_is_put"), (Str.ofString "_law_one"), (Str.ofString "_law_cell")],
  [(Str.ofString "_law_kind"), (Str.ofString "_law_rows"), (Str.ofString "_law_rounds"), (Str.ofString "_law_standing"), (Str.ofString "_law_hand_here"), (Str.ofString "_law_cells"), (Str.ofString "_law_states"), (Str.ofString "_law_told"), (Str.ofString "_law_cell"), (Str.ofString "_law_state"), (Str.ofString "_law_item")],
  [(Str.ofString "_law_standing"), (Str.ofString "_law_one")],
  [(Str.ofString "_law_hand_here"), (Str.ofString "_law_kind"), (Str.ofString "_law_rows"), (Str.ofString "_law_rounds"), (Str.ofString "_law_most"), (Str.ofString "_law_turn"), (Str.ofString "_law_found"), (Str.ofString "_law_stood"), (Str.ofString "_law_way"), (Str.ofString "_law_stops"), (Str.ofString "_law_one"), (Str.ofString "_law_left_here"), (Str.ofString "_law_behind"), (Str.ofString "_law_other")],
  [(Str.ofString "_law_kind"), (Str.ofString "_law_rows"), (Str.ofString "_law_rounds"), (Str.ofString "_law_weaving"), (Str.ofString "_law_standing"), (Str.ofString "_law_found"), (Str.ofString "_law_turn"), (Str.ofString "_law_left_here")],
  [(Str.ofString "_law_weaving")],
  [(Str.ofString "_law_told"), (Str.ofString "_law_found"), (Str.ofString "_law_items")],
  [(Str.ofString "_law_kind"), (Str.ofString "_law_rows"), (Str.ofString "_law_rounds"), (Str.ofString "_law_came_here"), (Str.ofString "_law_told"), (Str.ofString "_law_items"), (Str.ofString "_law_one"), (Str.ofString "_law_item")],
  [(Str.ofString "_law_hand_here"), (Str.ofString "_law_kind"), (Str.ofString "_law_rows"), (Str.ofString "_law_rounds"), (Str.ofString "_law_play"), (Str.ofString "_law_most"), (Str.ofString "_law_at"), (Str.ofString "_law_weaving"), (Str.ofString "_law_stood"), (Str.ofString "_law_one"), (Str.ofString "_law_whole_here"), (Str.ofString "_law_last"), (Str.ofString "_law_here"), (Str.ofString "_law_ahead")],
  [(Str.ofString "_law_script"), (Str.ofString "_law_hand_here"), (Str.ofString "_law_turn"), (Str.ofString "_law_play"), (Str.ofString "_law_last"), (Str.ofString "_law_left_here"), (Str.ofString "_law_inputs_here"), (Str.ofString "_law_rows"), (Str.ofString "_law_rounds"), (Str.ofString "_law_weaving"), (Str.ofString "_law_stood"), (Str.ofString "_law_again"), (Str.ofString "_law_one"), (Str.ofString "_law_here"), (Str.ofString "_law_many"), (Str.ofString "_law_items")]]
def tabs : Tabs := ⟨[((Str.ofString "is_integer"), 0), ((Str.ofString "is_within"), 1), ((Str.ofString "is_below"), 2), ((Str.ofString "is_sized"), 3), ((Str.ofString "is_listed"), 4), ((Str.ofString "replaced"), 5), ((Str.ofString "is_value"), 6), ((Str.ofString "is_row_of"), 7), ((Str.ofString "are_inputs"), 8), ((Str.ofString "is_hand"), 11), ((Str.ofString "check_hand"), 12), ((Str.ofString "level_cell"), 13), ((Str.ofString "level_state"), 14), ((Str.ofString "level_next"), 15), ((Str.ofString "level_after"), 16), ((Str.ofString "fresh"), 17), ((Str.ofString "numbers_of"), 18), ((Str.ofString "top_cell"), 19), ((Str.ofString "top_state"), 20), ((Str.ofString "top_next"), 21), ((Str.ofString "wish_by"), 22), ((Str.ofString "after_names"), 23), ((Str.ofString "after_near"), 24), ((Str.ofString "after_chain"), 25), ((Str.ofString "top_after"), 26), ((Str.ofString "cell_of"), 27), ((Str.ofString "state_of"), 28), ((Str.ofString "next_of"), 29), ((Str.ofString "after_of"), 30), ((Str.ofString "begun"), 31), ((Str.ofString "first_standing"), 32), ((Str.ofString "movers"), 33), ((Str.ofString "can_step"), 34), ((Str.ofString "after_step"), 35), ((Str.ofString "check_step"), 36), ((Str.ofString "step"), 37), ((Str.ofString "next_step"), 38), ((Str.ofString "standings_of"), 39), ((Str.ofString "run"), 40), ((Str.ofString "run_out"), 41), ((Str.ofString "is_came"), 42), ((Str.ofString "is_item"), 43), ((Str.ofString "most_told"), 44), ((Str.ofString "is_told"), 45), ((Str.ofString "flat"), 46), ((Str.ofString "name_fault"), 47), ((Str.ofString "raw_fault"), 48), ((Str.ofString "fault"), 49), ((Str.ofString "_law_hand"), 50), ((Str.ofString "_law_draw"), 51), ((Str.ofString "_law_some"), 52), ((Str.ofString "_law_shuffled"), 53), ((Str.ofString "_law_is"), 54), ((Str.ofString "_law_inputs"), 55), ((Str.ofString "_law_begin"), 56), ((Str.ofString "_law_next"), 57), ((Str.ofString "_law_name"), 58), ((Str.ofString "_law_moved"), 59), ((Str.ofString "_law_left"), 60), ((Str.ofString "_law_woven"), 61), ((Str.ofString "_law_whole"), 62), ((Str.ofString "_law_came"), 63), ((Str.ofString "_law_all"), 64), ((Str.ofString "_law_fault"), 65), ((Str.ofString "_law_led_right"), 66), ((Str.ofString "law"), 67)], [((Str.ofString "Play"), 0)], [((Str.ofString "MOST_VALUE"), 0), ((Str.ofString "MOST_HANDS"), 1), ((Str.ofString "MANNERS"), 2), ((Str.ofString "LEVELS"), 3), ((Str.ofString "is_value"), 4), ((Str.ofString "NAMES"), 5), ((Str.ofString "CHAIN"), 6), ((Str.ofString "NEAR"), 7), ((Str.ofString "PUT"), 8), ((Str.ofString "LOOK_levels"), 9), ((Str.ofString "SEE"), 10), ((Str.ofString "MOST_NUMBER"), 11)], [(Str.ofString "abs"), (Str.ofString "all"), (Str.ofString "any"), (Str.ofString "bool"), (Str.ofString "dict"), (Str.ofString "enumerate"), (Str.ofString "int"), (Str.ofString "isinstance"), (Str.ofString "len"), (Str.ofString "list"), (Str.ofString "max"), (Str.ofString "min"), (Str.ofString "range"), (Str.ofString "set"), (Str.ofString "sorted"), (Str.ofString "str"), (Str.ofString "tuple"), (Str.ofString "zip")], [(Str.ofString "inputs"), (Str.ofString "kind"), (Str.ofString "rows")]⟩
def dt : Dt := ⟨fn.map (·.at_), [(Str.ofString "Play")], tabs⟩
end K13

set_option maxRecDepth 100000
set_option maxHeartbeats 0
namespace K13
open PySem PySem.Spec PySem.W PySem.Calls PyProof.Rows L2 Ev
abbrev R0 : PySem.W.OpenRow := PySem.W.OpenLaw.row PySem.Challenge.rw_onepicture_k13_whole_new_names
abbrev hk : PySem.W.Hook := hookM 4 dt prg fn
def ob (s : PySem.W.SharedT) : AlM := obsMG 4 dt prg fn (HandSHeadRun.getT s)
theorem ob_eq (s : PySem.W.SharedT) : ob s = hk.obs s.abs := obsMG_eq (HandSHeadRun.getT_eq s)
def ls0 : List Str := [(Str.ofString "PictureError"), (Str.ofString "BadPlay"), (Str.ofString "NoHand"), (Str.ofString "NoStep"), (Str.ofString "NoWeaving"), (Str.ofString "NoCame"), (Str.ofString "NoTold"), (Str.ofString "is_integer"), (Str.ofString "is_within"), (Str.ofString "is_below"), (Str.ofString "is_sized"), (Str.ofString "is_pair"), (Str.ofString "is_listed"), (Str.ofString "replaced"), (Str.ofString "MOST_HANDS"), (Str.ofString "MOST_DEEDS"), (Str.ofString "MOST_VALUE"), (Str.ofString "MOST_ROUNDS"), (Str.ofString "MOST_THING"), (Str.ofString "SWEEP"), (Str.ofString "TWICE"), (Str.ofString "BORROW"), (Str.ofString "LEVELS"), (Str.ofString "NAMES"), (Str.ofString "NEAR"), (Str.ofString "CHAIN"), (Str.ofString "MANNERS"), (Str.ofString "PUT"), (Str.ofString "SEE"), (Str.ofString "is_deed")]
def ls1 : List Str := [(Str.ofString "is_script"), (Str.ofString "is_value"), (Str.ofString "is_near_value"), (Str.ofString "is_lot"), (Str.ofString "is_row_of"), (Str.ofString "are_inputs"), (Str.ofString "Play"), (Str.ofString "is_hand"), (Str.ofString "check_hand"), (Str.ofString "LOOK_levels"), (Str.ofString "level_cell"), (Str.ofString "level_state"), (Str.ofString "level_next"), (Str.ofString "level_after"), (Str.ofString "LOOK_manners"), (Str.ofString "FIRST_CELL"), (Str.ofString "fresh"), (Str.ofString "manner_cell"), (Str.ofString "manner_state"), (Str.ofString "is_put_next"), (Str.ofString "manner_next"), (Str.ofString "numbers_of"), (Str.ofString "picture_of"), (Str.ofString "lent"), (Str.ofString "result_of"), (Str.ofString "after_sweep"), (Str.ofString "manner_after"), (Str.ofString "top_cell"), (Str.ofString "top_state"), (Str.ofString "top_next")]
def ls2 : List Str := [(Str.ofString "wish_by"), (Str.ofString "after_names"), (Str.ofString "after_near"), (Str.ofString "after_chain"), (Str.ofString "top_after"), (Str.ofString "cell_of"), (Str.ofString "state_of"), (Str.ofString "next_of"), (Str.ofString "after_of"), (Str.ofString "begun"), (Str.ofString "first_standing"), (Str.ofString "movers"), (Str.ofString "can_step"), (Str.ofString "after_step"), (Str.ofString "check_step"), (Str.ofString "step"), (Str.ofString "next_step"), (Str.ofString "standings_of"), (Str.ofString "run"), (Str.ofString "run_out"), (Str.ofString "MOST_NUMBER"), (Str.ofString "is_came"), (Str.ofString "is_number_and_value"), (Str.ofString "is_picture"), (Str.ofString "is_at_once"), (Str.ofString "is_item"), (Str.ofString "most_told"), (Str.ofString "is_told"), (Str.ofString "flat"), (Str.ofString "is_older")]
def ls3 : List Str := [(Str.ofString "is_within_lot"), (Str.ofString "are_chain"), (Str.ofString "is_of_others"), (Str.ofString "manner_fault"), (Str.ofString "hands_of"), (Str.ofString "is_strange"), (Str.ofString "has_more"), (Str.ofString "level_fault"), (Str.ofString "name_fault"), (Str.ofString "near_fault"), (Str.ofString "chain_fault"), (Str.ofString "raw_fault"), (Str.ofString "fault"), (Str.ofString "_law_hand"), (Str.ofString "_law_draw"), (Str.ofString "_law_some"), (Str.ofString "_law_shuffled"), (Str.ofString "_law_is"), (Str.ofString "_law_inputs"), (Str.ofString "_law_begin"), (Str.ofString "_law_next"), (Str.ofString "_law_level"), (Str.ofString "_law_name"), (Str.ofString "_law_near"), (Str.ofString "_law_lot"), (Str.ofString "_law_moved"), (Str.ofString "_law_left"), (Str.ofString "_law_woven"), (Str.ofString "_law_whole"), (Str.ofString "_law_came")]
def ls4 : List Str := [(Str.ofString "_law_has"), (Str.ofString "_law_are_chain"), (Str.ofString "_law_all"), (Str.ofString "_law_level_fault"), (Str.ofString "_law_near_fault"), (Str.ofString "_law_lot_fault"), (Str.ofString "_law_fault"), (Str.ofString "_law_led_right")]
def loose : List Str := ls0 ++ (ls1 ++ (ls2 ++ (ls3 ++ (ls4))))
def qv : Program := PySem.W.view R0.prog [137]
noncomputable def st (w : World) (os : OsState) : Option PySem.W.SharedT := HandSHeadRun.endF (HandSHeadRun.stepQ (HandSHeadRun.denQ HandSHeadRun.tabQ) R0.prog w) 6000 R0.prog w os
theorem r1 (w : World) (os : OsState) : (st w os).map (fun s => (HandSHeadRun.looksF R0.prog (boot_heap w.params) s.abs, HandSHeadRun.seenQ qv loose (importedModules R0.prog.main.body) (fun s => xlAt qv [] s && recOk R0.toRowW.records s) s.abs)) = some (true, openGood qv loose) := by kernel_rfl
def fr (s : PySem.W.SharedT) : PySem.W.Frag := He.frG (HandSHeadRun.getT s) (asX (HandSHeadRun.getT s))
def fb (K : PySem.W.Frag) (p : Str × Nat) : Bool := (He.Fa.glo p.1).ok K && decide (dt.at_[p.2]? = some (p.1, none))
theorem rf (w : World) (os : OsState) : (st w os).map (fun s => (dt.T.clT.all fun p => (He.Fa.glo p.1).ok (fr s) && decide (dt.cls[p.2]? = some p.1) && decide (p.2 < prg.nc)) && ((List.range prg.nc).all fun c => clsB dt prg (fr s) c) && (dt.T.glT.all fun p => glB dt prg (fr s) p) && (dt.T.bl.all fun x => (He.Fa.free x).ok (fr s))) = some true := by kernel_rfl
theorem rs0 (w : World) (os : OsState) : (st w os).map (fun s => (((dt.T.fnT.drop 0).take 80).all (fb (fr s)) && ((fn.drop 0).take 80).all fun d => d.ok (fr s), ((fn.drop 0).take 80).map fun d => He.fnW (fr s) d.at_)) = some (true, ((fn.drop 0).take 80).map He.DefD.val) := by kernel_rfl
theorem cut_fn {α : Type} (l : List α) (a b : Nat) : l.drop a = (l.drop a).take b ++ l.drop (a + b) := by rw [← List.drop_drop, List.take_append_drop]
theorem run (w : World) : HandSHeadRun.RunEq R0 (PySem.W.view R0.prog [137]) hk ob 6000 loose w := by
  intro os
  obtain ⟨s, hs, e1⟩ := Option.map_eq_some_iff.mp (r1 w os)
  have ef := rf w os
  have q0 := rs0 w os
  rw [hs] at ef q0
  show (st w os).map _ = _
  rw [hs]
  have ef0 := Option.some.inj ef
  have u1 : (dt.T.fnT.drop 80).all (fb (fr s)) = true ∧ ((fn.drop 80).all fun d => d.ok (fr s)) = true ∧ ((fn.drop 80).map fun d => He.fnW (fr s) d.at_) = (fn.drop 80).map He.DefD.val := by
    have z : (fn.drop 80).length = 0 := by decide +kernel
    have z := List.length_eq_zero_iff.mp z
    have z2 : dt.T.fnT.drop 80 = [] := by decide +kernel
    rw [z, z2]
    exact ⟨rfl, rfl, rfl⟩
  have u0 : (dt.T.fnT.drop 0).all (fb (fr s)) = true ∧ ((fn.drop 0).all fun d => d.ok (fr s)) = true ∧ ((fn.drop 0).map fun d => He.fnW (fr s) d.at_) = (fn.drop 0).map He.DefD.val := by
    have a0 : (((dt.T.fnT.drop 0).take 80).all (fb (fr s)) && ((fn.drop 0).take 80).all fun d => d.ok (fr s)) = true := congrArg Prod.fst (Option.some.inj q0)
    obtain ⟨a1, a⟩ := (Bool.and_eq_true_iff).mp a0
    have b : (((fn.drop 0).take 80).map fun d => He.fnW (fr s) d.at_) = ((fn.drop 0).take 80).map He.DefD.val := congrArg Prod.snd (Option.some.inj q0)
    rw [cut_fn fn 0 80, cut_fn dt.T.fnT 0 80, List.all_append, List.all_append, List.map_append, List.map_append, a, a1, b]
    exact ⟨by rw [u1.1]; rfl, by rw [u1.2.1]; rfl, by rw [u1.2.2]⟩
  have el : decide (dt.at_.length = prg.fns.length) = true := by decide +kernel
  have ef' : factsB dt prg (fr s) = true := by
    simp only [Bool.and_eq_true] at ef0
    have v : (dt.T.fnT.all fun p => (He.Fa.glo p.1).ok (fr s) && decide (dt.at_[p.2]? = some (p.1, none))) = true := u0.1
    unfold factsB
    rw [el, v, ef0.1.1.1, ef0.1.1.2, ef0.1.2, ef0.2]
    rfl
  have e4 : ob s = valM fn := Prod.ext (by show (factsB dt prg (fr s) && fn.all fun d => d.ok (fr s)) = true; rw [ef']; exact u0.2.1) u0.2.2
  have f1 : HandSHeadRun.looksF R0.prog (boot_heap w.params) s.abs = true := congrArg Prod.fst e1
  have f2 : HandSHeadRun.seenQ qv loose (importedModules R0.prog.main.body) (fun s => xlAt qv [] s && recOk R0.toRowW.records s) s.abs = openGood qv loose := congrArg Prod.snd e1
  show some (HandSHeadRun.looksF R0.prog (boot_heap w.params) s.abs, HandSHeadRun.seenQ qv loose (importedModules R0.prog.main.body) (fun s => xlAt qv [] s && recOk R0.toRowW.records s) s.abs, ob s) = some (true, openGood qv loose, valM fn)
  rw [f1, f2, e4]
end K13

set_option maxRecDepth 100000
set_option maxHeartbeats 4000000
/-! What the terms give. -/
namespace Ev
open PySem
noncomputable section

def mulOk (i j : Int) : Prop := (-(2 ^ 64) < i ∧ i < 2 ^ 64) ∨ (-(2 ^ 64) < j ∧ j < 2 ^ 64)
instance (i j : Int) : Decidable (mulOk i j) := by unfold mulOk; infer_instance
def grd (p : Prop) [Decidable p] (m : M D) : M D := @ite _ p (Classical.propDecidable p) m stk
theorem grd_t {p : Prop} [Decidable p] {m : M D} (h : p) : grd p m = m := by
  unfold grd
  rw [if_pos h]
theorem grd_if {p : Prop} [Decidable p] {m : M D} : grd p m = if p then m else stk := by
  unfold grd
  by_cases h : p
  · rw [if_pos h, if_pos h]
  · rw [if_neg h, if_neg h]
def binop : Bo → D → D → M D
  | .add, .int i, .int j => pure (.int (i + j))
  | .add, .str x, .str y => grd (x.length + y.length ≤ SZ) (pure (.str (x ++ y)))
  | .add, .tup x, .tup y => grd (x.length + y.length ≤ SZ) (pure (.tup (x ++ y)))
  | .add, .lst x, .lst y => grd (x.length + y.length ≤ SZ) (pure (.lst (x ++ y)))
  | .sub, .int i, .int j => pure (.int (i - j))
  | .mul, .int i, .int j => grd (mulOk i j) (pure (.int (i * j)))
  | .mul, .tup x, .int k => grd (x ≠ [] ∧ 1 ≤ k ∧ k ≤ 1000 ∧ x.length ≤ 1000) (pure (.tup (List.replicate k.toNat x).flatten))
  | .mul, .lst x, .int k => grd (-(2 ^ 63) ≤ k ∧ k < 2 ^ 63 ∧ x.length * k.toNat ≤ SZ) (pure (.lst (List.replicate k.toNat x).flatten))
  | .fdv, .int i, .int j => grd (0 < j ∧ j < 1073741824) (pure (.int (i / j)))
  | .mod, .int i, .int j => grd (0 < j) (pure (.int (i % j)))
  | .pow, .int i, .int j => grd (0 ≤ j ∧ j ≤ 1000000 ∧ i.natAbs < 2 ^ 64) (pure (.int (i ^ j.toNat)))
  | _, _, _ => stk
/-- a in the items of b -/
def hasD (a : D) (xs : List D) : Bool := xs.any fun z => D.eqv z a
def shapes (a : D) (xs : List D) : Bool := a.shp && decide (a.dep ≤ 60) && D.shpAll xs && decide (D.depAll xs ≤ 60)
def flatD : D → Bool
  | .non => true | .bl _ => true | .int _ => true | .str _ => true | _ => false
def isKey : D → Bool
  | .int _ => true | .str _ => true | _ => false
def keyEq : D → D → Bool
  | .int i, .int j => decide (i = j)
  | .str x, .str y => decide (x = y)
  | _, _ => false
def dfind (kvs : List (D × D)) (k : D) : Option D := (kvs.find? fun p => keyEq p.1 k).map (·.2)
def dput (kvs : List (D × D)) (k v : D) : List (D × D) := if kvs.any (fun p => keyEq p.1 k) then kvs.map (fun p => if keyEq p.1 k then (p.1, v) else p) else kvs ++ [(k, v)]
def isNon : D → Bool
  | .non => true | _ => false
def cmpop : Co → D → D → M D
  | .eq, a, b => if shape2 a b then pure (.bl (D.eqv a b)) else stk
  | .ne, a, b => if shape2 a b then pure (.bl (!D.eqv a b)) else stk
  | .lt, .int i, .int j => pure (.bl (decide (i < j)))
  | .le, .int i, .int j => pure (.bl (decide (i ≤ j)))
  | .gt, .int i, .int j => pure (.bl (decide (j < i)))
  | .ge, .int i, .int j => pure (.bl (decide (j ≤ i)))
  | .is, a, .non => pure (.bl (isNon a))
  | .nis, a, .non => pure (.bl (!isNon a))
  | .is, .bl a, .bl b => pure (.bl (a == b))
  | .nis, .bl a, .bl b => pure (.bl (!(a == b)))
  | .isin, a, .tup xs => if flatD a && xs.all flatD then pure (.bl (hasD a xs)) else stk
  | .nin, a, .tup xs => if flatD a && xs.all flatD then pure (.bl (!hasD a xs)) else stk
  | .isin, a, .lst xs => if shapes a xs then pure (.bl (hasD a xs)) else stk
  | .nin, a, .lst xs => if shapes a xs then pure (.bl (!hasD a xs)) else stk
  | .isin, a, .dic kvs => if isKey a then pure (.bl (dfind kvs a).isSome) else stk
  | .nin, a, .dic kvs => if isKey a then pure (.bl (!(dfind kvs a).isSome)) else stk
  | _, _, _ => stk
def ofO : Option D → M D
  | some d => pure d
  | none => stk
def idxop : D → D → M D
  | .tup xs, .int k => ofO (L2.atI xs k)
  | .lst xs, .int k => ofO (L2.atI xs k)
  | .dic kvs, k => if isKey k then ofO (dfind kvs k) else stk
  | _, _ => stk
/-- the content of a mutable cell -/
def der : D → M D
  | .cel n => fun w => match w[n]? with
    | some d => .ok d w
    | none => .stk
  | d => pure d
def cut {α : Type} (xs : List α) (lo hi : Option Int) : List α := (xs.drop (HT.sIx xs.length 0 lo)).take (HT.sIx xs.length xs.length hi - HT.sIx xs.length 0 lo)
def sliop : D → Option Int → Option Int → M D
  | .tup xs, lo, hi => pure (.tup (cut xs lo hi))
  | .lst xs, lo, hi => pure (.lst (cut xs lo hi))
  | .scr ns, lo, hi => pure (.lst (cut (ns.map .int) lo hi))
  | _, _, _ => stk
def intsD : List D → Option (List Int)
  | [] => some []
  | .int i :: r => (intsD r).map (i :: ·)
  | _ :: _ => none
def boolsD : List D → Option (List Bool)
  | [] => some []
  | .bl i :: r => (boolsD r).map (i :: ·)
  | _ :: _ => none
def insI (a : Int) : List Int → List Int
  | [] => [a]
  | b :: r => if a ≤ b then a :: b :: r else b :: insI a r
def sortI : List Int → List Int
  | [] => []
  | a :: r => insI a (sortI r)
def maxI : List Int → Option Int
  | [] => none
  | a :: r => some (r.foldl (fun x y => if x < y then y else x) a)
def minI : List Int → Option Int
  | [] => none
  | a :: r => some (r.foldl (fun x y => if y < x then y else x) a)
/-- each once -/
def ddup : List Int → List Int
  | [] => []
  | a :: r => if a ∈ r then ddup r else a :: ddup r
/-- the first place -/
def plcI (k : Int) : List Int → Option Nat
  | [] => none
  | a :: r => if a = k then some 0 else (plcI k r).map (· + 1)
def onInts (xs : List D) (f : List Int → M D) : M D := match intsD xs with
  | some ns => f ns
  | none => stk
/-- each int once, ascending -/
def srtOf : D → M D
  | .tup xs => onInts xs fun ns => grd (ns.length ≤ 4000 ∧ (ddup ns).length < 64) (pure (.lst ((sortI (ddup ns)).map .int)))
  | .lst xs => onInts xs fun ns => grd (ns.length ≤ 4000 ∧ (ddup ns).length < 64) (pure (.lst ((sortI (ddup ns)).map .int)))
  | _ => stk
/-- at which place -/
def idxOf : D → D → M D
  | .lst xs, .int k => onInts xs fun ns => ofO ((plcI k ns).map fun j => .int (j : Int))
  | _, _ => stk
/-- a list, else stuck -/
def isLs : D → M Unit
  | .lst _ => pure ()
  | _ => stk
def b1op : B1 → D → M D
  | .len, .tup xs => pure (.int xs.length)
  | .len, .lst xs => pure (.int xs.length)
  | .len, .dic xs => pure (.int xs.length)
  | .tuple, .tup xs => pure (.tup xs)
  | .tuple, .lst xs => pure (.tup xs)
  | .list, .tup xs => pure (.lst xs)
  | .list, .scr ns => pure (.lst (ns.map .int))
  | .len, .scr ns => pure (.int ns.length)
  | .list, .lst xs => pure (.lst xs)
  | .int, .int i => pure (.int i)
  | .abs, .int i => pure (.int (if i < 0 then -i else i))
  | .all, .lst xs => (match boolsD xs with | some bs => pure (.bl (bs.all id)) | none => stk)
  | .any, .lst xs => (match boolsD xs with | some bs => pure (.bl (bs.any id)) | none => stk)
  | .sum, .lst xs => onInts xs fun ns => pure (.int ns.sum)
  | .max, .lst xs => onInts xs fun ns => ofO ((maxI ns).map .int)
  | .min, .lst xs => onInts xs fun ns => ofO ((minI ns).map .int)
  | .sorted, .lst xs => onInts xs fun ns => grd (ns.length < 64) (pure (.lst ((sortI ns).map .int)))
  | .sorted, .dic kvs => onInts (kvs.map (·.1)) fun ns => grd (ns.length < 64) (pure (.lst ((sortI ns).map .int)))
  | _, _ => stk
def isaT (nc : Nat) : D → Ty → Option Bool
  | .cel _, _ => none | .fn _, _ => none | .scr _, _ => none
  | .int _, .int => some true | .bl _, .int => some true
  | .bl _, .bool => some true
  | .str _, .str => some true
  | .tup _, .tuple => some true
  | .lst _, .list => some true
  | .dic _, .dict => some true
  | .ins c _, .cls d => if c < nc then some (c == d) else none
  | .ins c _, _ => if c < nc then some false else none
  | _, _ => some false
def isaTs (nc : Nat) (a : D) : List Ty → Option Bool
  | [] => some false
  | t :: r => match isaT nc a t with
    | some true => some true
    | some false => isaTs nc a r
    | none => none
def bindTg : Tg → D → Env → Option Env
  | .n i, d, e => if i < e.length then some (e.set i (.val d)) else none
  | .t ts, .tup ds, e => go ts ds e
  | .t _, _, _ => none
where go : List Tg → List D → Env → Option Env
  | [], [], e => some e
  | t :: ts, d :: ds, e => match bindTg t d e with
    | some e' => go ts ds e'
    | none => none
  | _, _, _ => none
def tst (m : M D) : M Bool := m >>= fun d => match d with
  | .bl b => pure b
  | _ => stk

structure Cfg where
  /-- how many classes, defs there are -/
  nc : Nat
  nf : Nat
  gs : List D
  cf : Nat → List D → M D
  cm : Nat → List D → M D
  /-- the def that is == of a class -/
  ce : Nat → Option Nat
  sub : Nat → Nat → Bool
  /-- the field of an error -/
  xf : Nat → Option Str
  hot : Bool
  wf : Nat

def ownV (e : Env) : X → Bool
  | .v i => (match e[i]? with | some (.own _) => true | _ => false)
  | _ => false
def ownX (e : Env) : X → Option (Nat × Option D)
  | .v i => (match e[i]? with | some (.exc c x) => some (c, x) | _ => none)
  | _ => none
def nb (e : Env) (x : X) (m : M D) : M D := if ownV e x then stk else m
def getV (e : Env) (i : Nat) : M D := match e[i]? with
  | some (.val d) => pure d
  | some (.own d) => pure d
  | _ => stk
def lcGo (f : Env → M D) (c : Env → M Bool) (tg : Tg) (e : Env) : List D → M (List D)
  | [] => pure []
  | d :: r => match bindTg tg d e with
    | none => stk
    | some e' => c e' >>= fun b => match b with
      | true => f e' >>= fun y => lcGo f c tg e r >>= fun ys => pure (y :: ys)
      | false => lcGo f c tg e r
def rngOk (i : Int) : Prop := -(2 ^ 62) ≤ i ∧ i < 2 ^ 62
noncomputable instance (i : Int) : Decidable (rngOk i) := Classical.propDecidable _
def itemsOf : D → M (List D)
  | .tup xs => pure xs
  | .lst xs => pure xs
  | _ => stk
/-- the slots of a comprehension's own names -/
def wipeE (e : Env) : List Nat → Env
  | [] => e
  | v :: vs => (wipeE e vs).set v .un
def wipeOk (e : Env) (vs : List Nat) : Bool := vs.all fun v => match e[v]? with | some (.own _) => false | _ => true
def rngD (lo : Int) (n : Nat) : List D := (List.range n).map fun (i : Nat) => .int (lo + (i : Int))
def rngOf : List D → M (List D)
  | [.int j] => if rngOk j then pure (rngD 0 j.toNat) else stk
  | [.int i, .int j] => if rngOk i ∧ rngOk j then pure (rngD i (j - i).toNat) else stk
  | _ => stk
/-- list(range(n)) -/
def lrngOf : D → M D
  | .int n => if rngOk n ∧ n.toNat ≤ SZ then pure (.lst (rngD 0 n.toNat)) else stk
  | _ => stk
def enumD (xs : List D) : List D := xs.mapIdx fun i x => .tup [.int i, x]
def enumOf : List D → M (List D)
  | [.tup xs] => pure (enumD xs)
  | [.lst xs] => pure (enumD xs)
  | _ => stk
def zipD (xs ys : List D) : List D := List.zipWith (fun x y => .tup [x, y]) xs ys
def zipOf : List D → M (List D)
  | [.tup xs, .tup ys] => pure (zipD xs ys)
  | [.lst xs, .lst ys] => pure (zipD xs ys)
  | [.tup xs, .lst ys] => pure (zipD xs ys)
  | [.lst xs, .tup ys] => pure (zipD xs ys)
  | _ => stk
def calm (C : Cfg) {α : Type} (m : M α) : M α := if C.hot then stk else m
def noX {α : Type} (m : M α) : M α := fun w => match m w with
  | .exc _ _ _ => .stk
  | r => r
def isIns : D → Bool
  | .ins _ _ => true | _ => false
/-- a class's own == -/
def eqIns (C : Cfg) (e : Env) (a b : X) (x y : D) : M D := calm C (match x, y with
  | .ins c _, .ins c' _ => (match C.ce c, decide (c' = c) with | some j, true => nb e a (nb e b (noX (C.cf j [x, y]))) | _, _ => stk)
  | .ins c _, .tup _ => (match C.ce c with | some j => nb e a (nb e b (noX (C.cf j [x, y]))) | none => stk)
  | _, _ => stk)
/-- the field of a caught error; its class asked -/
def fldX (C : Cfg) (c : Nat) (x : Option D) (f : Str) : M D := match x with
  | some d => if C.xf c = some f then pure d else stk
  | none => stk
def isaX (C : Cfg) (c : Nat) : List Ty → M D
  | [.cls d] => pure (.bl (C.sub c d))
  | _ => stk
mutual
def ev (C : Cfg) : X → Env → M D
  | .k d, _ => pure d
  | .v i, e => getV e i
  | .g j, _ => ofO C.gs[j]?
  | .tup es, e => evs C es e >>= fun ds => grd (ds.length ≤ SZ) (pure (.tup ds))
  | .lst es, e => evs C es e >>= fun ds => grd (ds.length ≤ SZ) (pure (.lst ds))
  | .bin o a b, e => ev C a e >>= fun x => ev C b e >>= fun y => binop o x y
  | .neg a, e => ev C a e >>= fun x => match x with | .int i => pure (.int (-i)) | _ => stk
  | .not a, e => tst (ev C a e) >>= fun b => pure (.bl (!b))
  | .cmp o a b, e => ev C a e >>= fun x => ev C b e >>= fun y => if isIns x && o == .eq then eqIns C e a b x y else der y >>= fun y => cmpop o x y
  | .cmp2 o o' a b c, e => ev C a e >>= fun x => ev C b e >>= fun y => tst (cmpop o x y) >>= fun r => match r with
      | true => ev C c e >>= fun z => cmpop o' y z
      | false => pure (.bl false)
  | .and es, e => evAnd C es e
  | .or es, e => evOr C es e
  | .ite c a b, e => tst (ev C c e) >>= fun r => match r with
      | true => nb e a (ev C a e)
      | false => nb e b (ev C b e)
  | .idx a b, e => ev C a e >>= fun x => ev C b e >>= fun y => der x >>= fun x => idxop x y
  | .sli a lo hi, e => ev C a e >>= fun x => evo C lo e >>= fun l => evo C hi e >>= fun h => der x >>= fun x => sliop x l h
  | .rev a, e => ev C a e >>= fun x => match x with | .lst xs => pure (.lst xs.reverse) | _ => stk
  | .fld a f, e => match ownX e a with
      | some (c, x) => fldX C c x f
      | none => ev C a e >>= fun x => der x >>= fun x => match x with
        | .ins c fs => if c < C.nc then ofO (fs.lookup f) else stk
        | _ => stk
  | .call j es, e => calm C (evs C es e >>= fun ds => C.cf j ds)
  | .cav i es, e => calm C (getV e i >>= fun f => match f with
      | .fn j => if j < C.nf then evs C es e >>= fun ds => C.cf j ds else stk
      | _ => stk)
  | .mk c es, e => calm C (evs C es e >>= fun ds => C.cm c ds)
  | .b1 b a, e => ev C a e >>= fun x => der x >>= fun x => b1op b x
  | .max2 a b, e => calm C (ev C a e >>= fun x => ev C b e >>= fun y => match x, y with | .int i, .int j => pure (.int (if j > i then j else i)) | _, _ => stk)
  | .min2 a b, e => calm C (ev C a e >>= fun x => ev C b e >>= fun y => match x, y with | .int i, .int j => pure (.int (if j < i then j else i)) | _, _ => stk)
  | .isa a ts, e => match ownX e a with
      | some (c, _) => isaX C c ts
      | none => ev C a e >>= fun x => match isaTs C.nc x ts with | some b => pure (.bl b) | none => stk
  | .lc x tg it c vs, e => calm C (evI C it e >>= fun ds => if wipeOk e vs && decide (ds.length ≤ SZ) then lcGo (fun e' => noX (nb e' x (ev C x e'))) (fun e' => noX (evc C c e')) tg (wipeE e vs) ds >>= fun ys => pure (.lst ys) else stk)
  | .lenset a, e => calm C (ev C a e >>= fun x => match x with
      | .tup xs => onInts xs fun ns => grd (ns.length ≤ 1000) (pure (.int (ddup ns).length))
      | .lst xs => onInts xs fun ns => grd (ns.length ≤ 1000) (pure (.int (ddup ns).length))
      | _ => stk)
  | .srtset a, e => calm C (ev C a e >>= srtOf)
  | .lidx a b, e => ev C a e >>= fun x => isLs x >>= fun _ => ev C b e >>= fun y => idxOf x y
  | .dict0, _ => pure (.dic [])
  | .dic1 a b, e => ev C a e >>= fun x => nb e b (ev C b e) >>= fun y => if isKey x then pure (.dic [(x, y)]) else stk
  | .get d a b, e => ev C d e >>= fun x => match x with
      | .dic kvs => ev C a e >>= fun k => nb e b (ev C b e) >>= fun z => if isKey k then pure ((dfind kvs k).getD z) else stk
      | _ => stk
  | .lrng a, e => calm C (ev C a e >>= lrngOf)
  | .bad, _ => stk
def evs (C : Cfg) : Xs → Env → M (List D)
  | .nil, _ => pure []
  | .cons x r, e => nb e x (ev C x e) >>= fun d => evs C r e >>= fun ds => pure (d :: ds)
def evAnd (C : Cfg) : Xs → Env → M D
  | .nil, _ => stk
  | .cons x .nil, e => nb e x (ev C x e)
  | .cons x (.cons y r), e => tst (ev C x e) >>= fun b => match b with
      | true => evAnd C (.cons y r) e
      | false => pure (.bl false)
def evOr (C : Cfg) : Xs → Env → M D
  | .nil, _ => stk
  | .cons x .nil, e => nb e x (ev C x e)
  | .cons x (.cons y r), e => tst (ev C x e) >>= fun b => match b with
      | true => pure (.bl true)
      | false => evOr C (.cons y r) e
def evo (C : Cfg) : Xo → Env → M (Option Int)
  | .no, _ => pure none
  | .so x, e => ev C x e >>= fun d => match d with | .int i => pure (some i) | _ => stk
def evc (C : Cfg) : Xo → Env → M Bool
  | .no, _ => pure true
  | .so x, e => tst (ev C x e)
def evI (C : Cfg) : It → Env → M (List D)
  | .x a, e => nb e a (ev C a e) >>= itemsOf
  | .rng es, e => evs C es e >>= rngOf
  | .enum es, e => evs C es e >>= enumOf
  | .zip es, e => evs C es e >>= zipOf
end
end
end Ev

set_option maxRecDepth 100000
set_option maxHeartbeats 4000000
/-! Statements, defs, programs. -/
namespace Ev
open PySem
noncomputable section

def contD : D → Bool
  | .lst _ => true | .dic _ => true | .ins _ _ => true | _ => false
inductive Fl where
  | nx (e : Env) | rt (d : D) | bk (e : Env) | ct (e : Env) | xc (c : Nat) (x : Option D) (e : Env)
/-- what a term of a statement raises, told with the slots -/
def cat (e : Env) (m : M Fl) : M Fl := fun w => match m w with
  | .exc c x w' => .ok (.xc c x e) w'
  | r => r
def toL (e : Env) (i : Nat) (f : List D → Option (List D)) : M Fl := match e[i]? with
  | some (.own (.lst xs)) => (match f xs with | some ys => pure (.nx (e.set i (.own (.lst ys)))) | none => stk)
  | some (.val (.cel n)) => fun w => (match w[n]? with
    | some (.lst xs) => (match f xs with | some ys => .ok (.nx e) (w.set n (.lst ys)) | none => .stk)
    | _ => .stk)
  | _ => stk
def setAt (xs : List D) (k : Int) (d : D) : Option (List D) := (L2.ixN xs.length k).map fun j => xs.set j d
def putI (e : Env) (i : Nat) (k d : D) : M Fl := match k with
  | .int k => toL e i fun xs => setAt xs k d
  | _ => stk
/-- x[k] = d -/
def putAt (e : Env) (i : Nat) (k d : D) : M Fl := match e[i]? with
  | some (.own (.dic kvs)) => if isKey k ∧ kvs.length < SZ then pure (.nx (e.set i (.own (.dic (dput kvs k d))))) else stk
  | _ => putI e i k d
def putF (f : Str) (v : D) : List (Str × D) → List (Str × D)
  | [] => [(f, v)]
  | (g, x) :: r => if g = f then (g, v) :: r else (g, x) :: putF f v r
def whl (n : Nat) (c : Env → M Bool) (b : Env → M Fl) (e : Env) : M Fl := match n with
  | 0 => stk
  | n + 1 => fun w => match c e w with
    | .ok true w' => (match b e w' with
      | .ok (.nx e') w2 => whl n c b e' w2
      | .ok (.ct e') w2 => whl n c b e' w2
      | .ok (.bk e') w2 => .ok (.nx e') w2
      | r => r)
    | .ok false w' => .ok (.nx e) w'
    | .exc k x w' => .ok (.xc k x e) w'
    | .stk => .stk
def forGo (tg : Tg) (b : Env → M Fl) : List D → Env → M Fl
  | [], e => pure (.nx e)
  | d :: r, e => match bindTg tg d e with
    | none => stk
    | some e' => b e' >>= fun f => match f with
      | .nx e2 => forGo tg b r e2
      | .ct e2 => forGo tg b r e2
      | .bk e2 => pure (.nx e2)
      | f => pure f
def parE : List (Nat × Bool) → List D → Env → Option Env
  | [], [], e => some e
  | (i, o) :: ts, d :: ds, e => if i < e.length ∧ (o = true → contD d = true ∧ i ≠ 0) then parE ts ds (e.set i (if o then .own d else .val d)) else none
  | _, _, _ => none
/-- slot i has a value -/
def isS (e : Env) (i : Nat) : M Unit := match e[i]? with
  | some (.own _) => pure ()
  | some (.val _) => pure ()
  | _ => stk
/-- slot i is a list -/
def isL (e : Env) (i : Nat) : M Unit := match e[i]? with
  | some (.own (.lst _)) => pure ()
  | some (.val (.cel n)) => fun w => (match w[n]? with
    | some (.lst _) => .ok () w
    | _ => .stk)
  | _ => stk
def setS (e : Env) (i : Nat) (s : Slot) : M Fl := if i < e.length then pure (.nx (e.set i s)) else stk
/-- x.f = d -/
def putFld (C : Cfg) (e : Env) (i : Nat) (f : Str) (d : D) : M Fl := match e[i]? with
  | some (.own (.ins c fs)) => if fs.length < 1000 ∧ c < C.nc then pure (.nx (e.set i (.own (.ins c (putF f d fs))))) else stk
  | some (.val (.cel n)) => fun w => (match w[n]? with
    | some (.ins c fs) => if fs.length < 1000 ∧ c < C.nc then .ok (.nx e) (w.set n (.ins c (putF f d fs))) else .stk
    | _ => .stk)
  | _ => stk
/-- x.pop(k) -/
def popE (e : Env) (i : Nat) (j : Int) (k : Env → D → M Fl) : M Fl := match e[i]? with
  | some (.own (.lst xs)) => (match L2.ixN xs.length j with
    | some n => (match xs[n]? with
      | some d => k (e.set i (.own (.lst (xs.eraseIdx n)))) d
      | none => stk)
    | none => stk)
  | some (.val (.cel c)) => fun w => (match w[c]? with
    | some (.lst xs) => (match L2.ixN xs.length j with
      | some n => (match xs[n]? with
        | some d => k e d (w.set c (.lst (xs.eraseIdx n)))
        | none => .stk)
      | none => .stk)
    | _ => .stk)
  | _ => stk
/-- one int -/
def oneI (ds : List D) (k : Int → M Fl) : M Fl := match ds with
  | [.int j] => k j
  | _ => stk
def frzS (is : List Nat) (i : Nat) : Slot → Slot
  | .own d => if is.contains i then .val d else .own d
  | s => s
def frzE (e : Env) (is : List Nat) : Env := e.mapIdx (frzS is)
def onL (e : Env) (m : M (List D)) (k : List D → M Fl) : M Fl := fun w => match m w with
  | .ok ds w' => k ds w'
  | .exc c x w' => .ok (.xc c x e) w'
  | .stk => .stk
def newCel (d : D) : M Fl := fun w => .ok (.rt (.cel w.length)) (w ++ [d])
mutual
def ex (C : Cfg) : S → Env → M Fl
  | .set i x own, e => cat e (match own with
      | true => ev C x e >>= fun d => if contD d = true ∧ i ≠ 0 then setS e i (.own d) else stk
      | false => nb e x (ev C x e) >>= fun d => setS e i (.val d))
  | .setG t x, e => cat e (calm C (nb e x (ev C x e) >>= fun d => match bindTg t d e with
      | some e' => pure (.nx e')
      | none => stk))
  | .par ts es, e => cat e (calm C (evs C es e >>= fun ds => match parE ts ds e with
      | some e' => pure (.nx e')
      | none => stk))
  | .stx i k x, e => cat e (nb e x (ev C x e) >>= fun d => isS e i >>= fun _ => ev C k e >>= fun k => putAt e i k d)
  | .stf i f x, e => cat e (nb e x (ev C x e) >>= fun d => putFld C e i f d)
  | .augx i k o x, e => cat e (getV e i >>= der >>= fun l => ev C k e >>= fun k => idxop l k >>= fun d0 => ev C x e >>= fun d => binop o d0 d >>= fun d1 => putAt e i k d1)
  | .app i es, e => cat e (isL e i >>= fun _ => evs C es e >>= fun ds => match ds with
      | [d] => toL e i fun xs => if xs.length < SZ then some (xs ++ [d]) else none
      | _ => stk)
  | .ext i es, e => cat e (isL e i >>= fun _ => evs C es e >>= fun ds => match ds with
      | [.lst ys] => toL e i fun xs => if xs.length + ys.length ≤ SZ then some (xs ++ ys) else none
      | [.tup ys] => toL e i fun xs => if xs.length + ys.length ≤ SZ then some (xs ++ ys) else none
      | _ => stk)
  | .pop j i, e => (match e[i]? with
      | some (.own (.lst xs)) => (match xs[xs.length - 1]? with
        | some d => setS (e.set i (.own (.lst xs.dropLast))) j (.val d)
        | none => stk)
      | _ => stk)
  | .popat j i es, e => cat e (isL e i >>= fun _ => evs C es e >>= fun ds => oneI ds fun kk => popE e i kk fun e' d => setS e' j (.val d))
  | .popx i es, e => cat e (isL e i >>= fun _ => evs C es e >>= fun ds => oneI ds fun j => popE e i j fun e' _ => pure (.nx e'))
  | .apppop l i es, e => cat e (isL e l >>= fun _ => isL e i >>= fun _ => if l = i then stk else evs C es e >>= fun ds => oneI ds fun j => popE e i j fun e' d => toL e' l fun ys => if ys.length < SZ then some (ys ++ [d]) else none)
  | .ex x, e => cat e (ev C x e >>= fun _ => pure (.nx e))
  | .ret x, e => cat e (nb e x (ev C x e) >>= fun d => pure (.rt d))
  | .retc x, e => cat e (ev C x e >>= fun d => if contD d then newCel d else stk)
  | .iff c a b, e => fun w => match tst (ev C c e) w with
      | .ok true w' => exs C a e w'
      | .ok false w' => exs C b e w'
      | .exc k x w' => .ok (.xc k x e) w'
      | .stk => .stk
  | .whl c b, e => whl C.wf (fun e => tst (ev C c e)) (fun e => exs C b e) e
  | .for tg it b, e => calm C (onL e (evI C it e) fun ds => forGo tg (fun e => exs C b e) ds e)
  | .brk, e => pure (.bk e)
  | .cnt, e => pure (.ct e)
  | .pas, e => pure (.nx e)
  | .rse c x, e => calm C (match x with
      | .no => pure (.xc c none e)
      | .so x => cat e (nb e x (ev C x e) >>= fun d => pure (.xc c (some d) e)))
  | .tri b hs, e => calm C (exs C b e >>= fun f => match f with
      | .xc c x e' => exh C hs c x e'
      | f => pure f)
  | .frz is s, e => ex C s (frzE e is)
  | .bad, _ => stk
def exs (C : Cfg) : Ss → Env → M Fl
  | .nil, e => pure (.nx e)
  | .cons s r, e => ex C s e >>= fun f => match f with
      | .nx e' => exs C r e'
      | f => pure f
def exh (C : Cfg) : Hs → Nat → Option D → Env → M Fl
  | .nil, c, x, e => pure (.xc c x e)
  | .cons k i b r, c, x, e => if C.sub c k then
        (match i with
        | none => exs { C with hot := true } b e >>= fun f => match f with
            | .xc _ _ _ => stk
            | f => pure f
        | some i => if i < e.length then exs { C with hot := true } b (e.set i (.exc c x)) >>= fun f => match f with
            | .xc _ _ _ => stk
            | .nx e' => pure (.nx (e'.set i .un))
            | .bk e' => pure (.bk (e'.set i .un))
            | .ct e' => pure (.ct (e'.set i .un))
            | f => pure f
          else stk)
      else exh C r c x e
end
def cfgOf (P : Prog) (cf cm : Nat → List D → M D) : Cfg := ⟨P.nc, P.fns.length, P.gs, cf, cm, fun c => (P.cls c).bind (·.eqf), P.sub, P.xf, false, P.wf⟩
def start (f : Fn) (ds : List D) : Env := ds.map .val ++ List.replicate (f.ns - f.np) .un
/-- what a body's end is to the caller -/
def endF (m : M Fl) : M D := fun w => match m w with
  | .ok (.nx _) w' => .ok .non w'
  | .ok (.rt d) w' => .ok d w'
  | .ok (.xc c x _) w' => .exc c x w'
  | _ => .stk
/-- .. of an __init__ -/
def endI (m : M Fl) : M D := fun w => match m w with
  | .ok (.nx e) w' => (match e[0]? with
    | some (Slot.own d) => .ok d w'
    | _ => .stk)
  | .ok (.xc c x _) w' => .exc c x w'
  | _ => .stk
def run1 (P : Prog) (cf cm : Nat → List D → M D) (j : Nat) (ds : List D) : M D := match P.fns[j]? with
  | none => stk
  | some f => if ds.length = f.np then endF (exs (cfgOf P cf cm) f.body (start f ds)) else stk
/-- an __init__: self stands in the first slot, nobody else holds it -/
def runI (P : Prog) (cf cm : Nat → List D → M D) (c : Nat) (ds : List D) : M D := match P.cls c with
  | none => stk
  | some k => match P.fns[k.ini]? with
    | none => stk
    | some f => if ds.length + 1 = f.np then endI (exs (cfgOf P cf cm) f.body (Slot.own (.ins c []) :: (ds.map .val ++ List.replicate (f.ns - f.np) .un))) else stk
/-- own defs, own classes' __init__, the same a call less deep -/
def deep (P : Prog) : Nat → (Nat → List D → M D) × (Nat → List D → M D) × (Nat → List D → M D)
  | 0 => (fun _ _ => stk, fun _ _ => stk, fun _ _ => stk)
  | k + 1 => (run1 P (deep P k).1 (deep P k).2.2, runI P (deep P k).1 (deep P k).2.2, (deep P k).2.1)
def callF (P : Prog) (k : Nat) : Nat → List D → M D := (deep P k).1
end
end Ev

set_option maxRecDepth 100000
set_option maxHeartbeats 4000000
/-! How the machine's values stand in the layer's heap. -/
namespace Ev
open PySem PySem.Spec PyProof.Rows L2

abbrev Pr := Addr → Prop
/-- F: what may be named by values, and stays; P: what others hold, and stays; oa: where an own slot's container is; rho: where a cell is -/
structure Fm where
  F : Pr
  P : Pr
  oa : Nat → Addr
  rho : Nat → Addr
def KTup (K : PySem.W.Frag) (a : Addr) (xs : List V) : Prop :=
  ∃ (o : Obj) (its : Array Value) (n : Nat), K.lookup a = some o ∧ o.cls = .type "tuple" ∧ o.data = .seq its n ∧ its.size ≤ sizeLine ∧ Vals xs its.toList
def KLst (K : PySem.W.Frag) (a : Addr) (xs : List V) : Prop :=
  ∃ (o : Obj) (its : Array Value) (n : Nat), K.lookup a = some o ∧ o.cls = .type "list" ∧ o.dict = none ∧ o.data = .seq its n ∧ its.size ≤ sizeLine ∧ Vals xs its.toList
def TupAt (G : GG) (F : Pr) (H : Hp) (a : Addr) (vs : List V) : Prop := (F a ∧ H a = some (.tup vs)) ∨ KTup G.K a vs
def keyD : Key → D
  | .inl i => .int i
  | .inr x => .str x
mutual
inductive R (G : GG) (F : Pr) (rho : Nat → Addr) (n : Nat) (H : Hp) : V → D → Prop
  | non : R G F rho n H .non .non
  | bl (b : Bool) : R G F rho n H (.bl b) (.bl b)
  | int (i : Int) : R G F rho n H (.int i) (.int i)
  | str (s : Str) : R G F rho n H (.str s) (.str s)
  | tup {a : Addr} {vs : List V} {ds : List D} : TupAt G F H a vs → vs.length ≤ SZ → RA G F rho n H vs ds → R G F rho n H (.ref a) (.tup ds)
  | lst {a : Addr} {vs : List V} {ds : List D} : F a → H a = some (.lst vs) → vs.length ≤ SZ → RA G F rho n H vs ds → R G F rho n H (.ref a) (.lst ds)
  | dic {a : Addr} {kvs : List (Key × V)} {ds : List (D × D)} : F a → H a = some (.dK kvs) → kvs.length ≤ SZ → RK G F rho n H kvs ds → R G F rho n H (.ref a) (.dic ds)
  | ins {a dx : Addr} {c : Nat} {vs : List (Str × V)} {fs : List (Str × D)} : F a → H a = some (.ins (G.cl c) dx vs) → RF G F rho n H vs fs → R G F rho n H (.ref a) (.ins c fs)
  | cel {k : Nat} : k < n → R G F rho n H (.ref (rho k)) (.cel k)
  | fn {j : Nat} : R G F rho n H (.ref (G.fa j)) (.fn j)
  | scr {a : Addr} {o : Obj} {ns : List Int} : F a → H a = some (.frz o (.lst (ns.map V.int))) → ns.length ≤ SZ → R G F rho n H (.ref a) (.scr ns)
  | scrK {a : Addr} {ns : List Int} : KLst G.K a (ns.map V.int) → ns.length ≤ SZ → R G F rho n H (.ref a) (.scr ns)
inductive RA (G : GG) (F : Pr) (rho : Nat → Addr) (n : Nat) (H : Hp) : List V → List D → Prop
  | nil : RA G F rho n H [] []
  | cons {v : V} {d : D} {vs : List V} {ds : List D} : R G F rho n H v d → RA G F rho n H vs ds → RA G F rho n H (v :: vs) (d :: ds)
inductive RK (G : GG) (F : Pr) (rho : Nat → Addr) (n : Nat) (H : Hp) : List (Key × V) → List (D × D) → Prop
  | nil : RK G F rho n H [] []
  | cons {k : Key} {v : V} {d : D} {vs : List (Key × V)} {ds : List (D × D)} : R G F rho n H v d → RK G F rho n H vs ds → RK G F rho n H ((k, v) :: vs) ((keyD k, d) :: ds)
inductive RF (G : GG) (F : Pr) (rho : Nat → Addr) (n : Nat) (H : Hp) : List (Str × V) → List (Str × D) → Prop
  | nil : RF G F rho n H [] []
  | cons {f : Str} {v : V} {d : D} {vs : List (Str × V)} {ds : List (Str × D)} : R G F rho n H v d → RF G F rho n H vs ds → RF G F rho n H ((f, v) :: vs) ((f, d) :: ds)
end
/-- an own container, or a cell -/
def Own (G : GG) (F : Pr) (rho : Nat → Addr) (n : Nat) (H : Hp) (a : Addr) : D → Prop
  | .lst ds => ∃ vs, H a = some (.lst vs) ∧ vs.length ≤ SZ ∧ RA G F rho n H vs ds
  | .dic ds => ∃ vs, H a = some (.dK vs) ∧ vs.length ≤ SZ ∧ RK G F rho n H vs ds
  | .ins c fs => ∃ dx vs, H a = some (.ins (G.cl c) dx vs) ∧ RF G F rho n H vs fs
  | _ => False

section
variable {G : GG} {F F' : Pr} {rho rho' : Nat → Addr} {n n' : Nat} {H H' : Hp}
theorem RA.length {vs : List V} {ds : List D} (h : RA G F rho n H vs ds) : vs.length = ds.length := by
  induction vs generalizing ds with
  | nil => cases h; rfl
  | cons v vs ih => cases h with
    | cons _ t => simp [ih t]
theorem RK.length {vs : List (Key × V)} {ds : List (D × D)} (h : RK G F rho n H vs ds) : vs.length = ds.length := by
  induction vs generalizing ds with
  | nil => cases h; rfl
  | cons v vs ih => cases h with
    | cons _ t => simp [ih t]
theorem RA.get : ∀ {vs : List V} {ds : List D} {i : Nat} {d : D}, RA G F rho n H vs ds → ds[i]? = some d → ∃ v, vs[i]? = some v ∧ R G F rho n H v d
  | _, _, _, _, .nil, e => by simp at e
  | _, _, 0, _, .cons r _, e => by simp at e; subst e; exact ⟨_, rfl, r⟩
  | _, _, i + 1, d, .cons r t, e => by
    obtain ⟨v, h1, h2⟩ := RA.get (i := i) (d := d) t (by simpa using e)
    exact ⟨v, by simpa using h1, h2⟩
theorem RA.append : ∀ {vs us : List V} {ds es : List D}, RA G F rho n H vs ds → RA G F rho n H us es → RA G F rho n H (vs ++ us) (ds ++ es)
  | _, _, _, _, .nil, h => h
  | _, _, _, _, .cons r t, h => .cons r (RA.append t h)
theorem RA.take : ∀ {vs : List V} {ds : List D} (i : Nat), RA G F rho n H vs ds → RA G F rho n H (vs.take i) (ds.take i)
  | _, _, 0, _ => .nil
  | _, _, _ + 1, .nil => .nil
  | _, _, i + 1, .cons r t => .cons r (RA.take i t)
theorem RA.drop : ∀ {vs : List V} {ds : List D} (i : Nat), RA G F rho n H vs ds → RA G F rho n H (vs.drop i) (ds.drop i)
  | _, _, 0, h => h
  | _, _, _ + 1, .nil => .nil
  | _, _, i + 1, .cons _ t => RA.drop i t
theorem RA.set : ∀ {vs : List V} {ds : List D} {v : V} {d : D} (i : Nat), RA G F rho n H vs ds → R G F rho n H v d → RA G F rho n H (vs.set i v) (ds.set i d)
  | _, _, _, _, _, .nil, _ => .nil
  | _, _, _, _, 0, .cons _ t, r => .cons r t
  | _, _, _, _, i + 1, .cons q t, r => .cons q (RA.set i t r)
theorem RA.erase : ∀ {vs : List V} {ds : List D} (i : Nat), RA G F rho n H vs ds → RA G F rho n H (vs.eraseIdx i) (ds.eraseIdx i)
  | _, _, _, .nil => .nil
  | _, _, 0, .cons _ t => t
  | _, _, i + 1, .cons q t => .cons q (RA.erase i t)
theorem RA.reverse {vs : List V} {ds : List D} (h : RA G F rho n H vs ds) : RA G F rho n H vs.reverse ds.reverse := by
  induction vs generalizing ds with
  | nil => cases h; exact .nil
  | cons v vs ih => cases h with
    | cons r t => rw [List.reverse_cons, List.reverse_cons]; exact (ih t).append (.cons r .nil)
theorem RA.flat {vs : List V} {ds : List D} (h : RA G F rho n H vs ds) : ∀ k : Nat, RA G F rho n H (List.replicate k vs).flatten (List.replicate k ds).flatten
  | 0 => .nil
  | k + 1 => by
    rw [List.replicate_succ, List.replicate_succ, List.flatten_cons, List.flatten_cons]
    exact h.append (RA.flat h k)
theorem RA.ofInts : ∀ ns : List Int, RA G F rho n H (ns.map V.int) (ns.map D.int)
  | [] => .nil
  | i :: r => .cons (.int i) (RA.ofInts r)
theorem RF.look {vs : List (Str × V)} {fs : List (Str × D)} {f : Str} {d : D} (h : RF G F rho n H vs fs) (e : fs.lookup f = some d) : ∃ v, vs.lookup f = some v ∧ R G F rho n H v d := by
  induction vs generalizing fs with
  | nil => cases h; cases e
  | cons p vs ih => cases h with
    | @cons g v d' _ ds r t =>
      rw [List.lookup_cons] at e
      cases hb : f == g with
      | true =>
        rw [hb] at e
        cases e
        exact ⟨v, by rw [List.lookup_cons, hb], r⟩
      | false =>
        rw [hb] at e
        obtain ⟨u, h1, h2⟩ := ih t e
        exact ⟨u, by rw [List.lookup_cons, hb]; exact h1, h2⟩
theorem RF.put {vs : List (Str × V)} {fs : List (Str × D)} {f : Str} {v : V} {d : D} (h : RF G F rho n H vs fs) (r : R G F rho n H v d) : RF G F rho n H (L2.putF f v vs) (Ev.putF f d fs) := by
  induction vs generalizing fs with
  | nil => cases h; exact .cons r .nil
  | cons p vs ih => cases h with
    | @cons g u d' _ ds q t =>
      unfold L2.putF Ev.putF
      by_cases hg : g = f
      · rw [if_pos hg, if_pos hg]; exact .cons r t
      · rw [if_neg hg, if_neg hg]; exact .cons q (ih t)
theorem RF.length {vs : List (Str × V)} {ds : List (Str × D)} (h : RF G F rho n H vs ds) : vs.length = ds.length := by
  induction vs generalizing ds with
  | nil => cases h; rfl
  | cons v vs ih => cases h with
    | cons _ t => simp [ih t]
theorem TupAt.sq {a : Addr} {vs : List V} (h : TupAt G F H a vs) : SqT G.K H a vs := by
  rcases h with ⟨_, h⟩ | h
  · exact .of h
  · exact .inr h
/-- what is named stays where all that F holds stays -/
theorem R.mono (hF : ∀ a, F a → F' a) (hH : ∀ a, F a → H' a = H a) (hn : n ≤ n') (hr : ∀ k, k < n → rho' k = rho k) {v : V} {d : D} (h : R G F rho n H v d) : R G F' rho' n' H' v d := by
  refine R.rec (motive_1 := fun v d _ => R G F' rho' n' H' v d) (motive_2 := fun vs ds _ => RA G F' rho' n' H' vs ds) (motive_3 := fun vs ds _ => RK G F' rho' n' H' vs ds) (motive_4 := fun vs ds _ => RF G F' rho' n' H' vs ds)
    .non .bl .int .str ?_ ?_ ?_ ?_ ?_ .fn ?_ (fun h l => .scrK h l) .nil (fun _ _ a b => .cons a b) .nil (fun _ _ a b => .cons a b) .nil (fun _ _ a b => .cons a b) h
  · intro a vs ds ht hl _ ih
    refine .tup ?_ hl ih
    rcases ht with ⟨h1, h2⟩ | h1
    · exact .inl ⟨hF _ h1, (hH _ h1).trans h2⟩
    · exact .inr h1
  · intro a vs ds h1 h2 hl _ ih
    exact .lst (hF _ h1) ((hH _ h1).trans h2) hl ih
  · intro a vs ds h1 h2 hl _ ih
    exact .dic (hF _ h1) ((hH _ h1).trans h2) hl ih
  · intro a dx c vs fs h1 h2 _ ih
    exact .ins (hF _ h1) ((hH _ h1).trans h2) ih
  · intro k hk
    rw [← hr k hk]
    exact .cel (Nat.lt_of_lt_of_le hk hn)
  · intro a o ns h1 h2 hl
    exact .scr (hF _ h1) ((hH _ h1).trans h2) hl
theorem RA.mono (hF : ∀ a, F a → F' a) (hH : ∀ a, F a → H' a = H a) (hn : n ≤ n') (hr : ∀ k, k < n → rho' k = rho k) : ∀ {vs : List V} {ds : List D}, RA G F rho n H vs ds → RA G F' rho' n' H' vs ds
  | _, _, .nil => .nil
  | _, _, .cons a t => .cons (a.mono hF hH hn hr) (RA.mono hF hH hn hr t)
theorem RK.mono (hF : ∀ a, F a → F' a) (hH : ∀ a, F a → H' a = H a) (hn : n ≤ n') (hr : ∀ k, k < n → rho' k = rho k) : ∀ {vs : List (Key × V)} {ds : List (D × D)}, RK G F rho n H vs ds → RK G F' rho' n' H' vs ds
  | _, _, .nil => .nil
  | _, _, .cons a t => .cons (a.mono hF hH hn hr) (RK.mono hF hH hn hr t)
theorem RF.mono (hF : ∀ a, F a → F' a) (hH : ∀ a, F a → H' a = H a) (hn : n ≤ n') (hr : ∀ k, k < n → rho' k = rho k) : ∀ {vs : List (Str × V)} {ds : List (Str × D)}, RF G F rho n H vs ds → RF G F' rho' n' H' vs ds
  | _, _, .nil => .nil
  | _, _, .cons a t => .cons (a.mono hF hH hn hr) (RF.mono hF hH hn hr t)
theorem Own.mono (hF : ∀ a, F a → F' a) (hH : ∀ a, F a → H' a = H a) (hn : n ≤ n') (hr : ∀ k, k < n → rho' k = rho k) {a : Addr} {d : D} (ha : H' a = H a) (h : Own G F rho n H a d) : Own G F' rho' n' H' a d := by
  cases d with
  | lst ds => obtain ⟨vs, h1, h2, h3⟩ := h; exact ⟨vs, ha.trans h1, h2, h3.mono hF hH hn hr⟩
  | dic ds => obtain ⟨vs, h1, h2, h3⟩ := h; exact ⟨vs, ha.trans h1, h2, h3.mono hF hH hn hr⟩
  | ins c fs => obtain ⟨dx, vs, h1, h3⟩ := h; exact ⟨dx, vs, ha.trans h1, h3.mono hF hH hn hr⟩
  | _ => exact h
theorem Own.there {a : Addr} {d : D} (h : Own G F rho n H a d) : H a ≠ none := by
  cases d with
  | lst ds => obtain ⟨vs, h1, _⟩ := h; rw [h1]; simp
  | dic ds => obtain ⟨vs, h1, _⟩ := h; rw [h1]; simp
  | ins c fs => obtain ⟨dx, vs, h1, _⟩ := h; rw [h1]; simp
  | _ => exact h.elim
/-- an own container becomes a value -/
theorem Own.frz {a : Addr} {d : D} (ha : F a) (h : Own G F rho n H a d) : R G F rho n H (.ref a) d := by
  cases d with
  | lst ds => obtain ⟨vs, h1, h2, h3⟩ := h; exact .lst ha h1 h2 h3
  | dic ds => obtain ⟨vs, h1, h2, h3⟩ := h; exact .dic ha h1 h2 h3
  | ins c fs => obtain ⟨dx, vs, h1, h3⟩ := h; exact .ins ha h1 h3
  | _ => exact h.elim
end

/-! ### the whole state -/
structure RelW (G : GG) (m : Fm) (w : Wd) (H : Hp) : Prop where
  cell : ∀ k d, w[k]? = some d → Own G m.F m.rho w.length H (m.rho k) d ∧ ¬ m.F (m.rho k) ∧ ¬ m.P (m.rho k)
  inj : ∀ j k, j < w.length → k < w.length → m.rho j = m.rho k → j = k
  allF : ∀ a, m.F a → H a ≠ none
  allP : ∀ a, m.P a → H a ≠ none
  FP : ∀ a, m.P a → ¬ m.F a
def RelS (G : GG) (m : Fm) (w : Wd) (H : Hp) (σ : L2.St) (i : Nat) : Slot → Prop
  | .un => True
  | .val d => ∃ v, σ[i]? = some (some v) ∧ R G m.F m.rho w.length H v d
  | .own d => σ[i]? = some (some (.ref (m.oa i))) ∧ Own G m.F m.rho w.length H (m.oa i) d ∧ ¬ m.F (m.oa i) ∧ ¬ m.P (m.oa i) ∧ ∀ k, k < w.length → m.oa i ≠ m.rho k
  | .exc _ _ => False
structure Rel (G : GG) (m : Fm) (e : Env) (w : Wd) (σ : L2.St) (H : Hp) : Prop extends RelW G m w H where
  len : σ.length = e.length
  sl : ∀ i s, e[i]? = some s → RelS G m w H σ i s
  oinj : ∀ i j d d', e[i]? = some (.own d) → e[j]? = some (.own d') → m.oa i = m.oa j → i = j
structure Ext (m : Fm) (w : Wd) (H : Hp) (m' : Fm) (w' : Wd) (H' : Hp) : Prop where
  P : m'.P = m.P
  F : ∀ a, m.F a → m'.F a
  aF : ∀ a, m.F a → H' a = H a
  aP : ∀ a, m.P a → H' a = H a
  wl : w.length ≤ w'.length
  rho : ∀ k, k < w.length → m'.rho k = m.rho k
  oa0 : m'.oa 0 = m.oa 0
theorem Ext.refl (m : Fm) (w : Wd) (H : Hp) : Ext m w H m w H := ⟨rfl, fun _ h => h, fun _ _ => rfl, fun _ _ => rfl, Nat.le_refl _, fun _ _ => rfl, rfl⟩
theorem Ext.trans {m1 m2 m3 : Fm} {w1 w2 w3 : Wd} {H1 H2 H3 : Hp} (a : Ext m1 w1 H1 m2 w2 H2) (b : Ext m2 w2 H2 m3 w3 H3) : Ext m1 w1 H1 m3 w3 H3 :=
  ⟨b.P.trans a.P, fun x h => b.F x (a.F x h), fun x h => (b.aF x (a.F x h)).trans (a.aF x h), fun x h => (b.aP x (by rw [a.P]; exact h)).trans (a.aP x h), Nat.le_trans a.wl b.wl,
    fun k h => (b.rho k (Nat.lt_of_lt_of_le h a.wl)).trans (a.rho k h), b.oa0.trans a.oa0⟩
section
variable {G : GG} {m m' : Fm} {w w' : Wd} {H H' : Hp} {σ : L2.St} {e : Env}
theorem R.ext (x : Ext m w H m' w' H') {v : V} {d : D} (h : R G m.F m.rho w.length H v d) : R G m'.F m'.rho w'.length H' v d := h.mono x.F x.aF x.wl x.rho
theorem RA.ext (x : Ext m w H m' w' H') {v : List V} {d : List D} (h : RA G m.F m.rho w.length H v d) : RA G m'.F m'.rho w'.length H' v d := h.mono x.F x.aF x.wl x.rho
/-- a fresh place is nobody's -/
theorem RelW.free (r : RelW G m w H) {p : Addr} (hp : H p = none) : ¬ m.F p ∧ ¬ m.P p ∧ ∀ k, k < w.length → m.rho k ≠ p :=
  ⟨fun h => r.allF _ h hp, fun h => r.allP _ h hp, fun k hk q => by
    obtain ⟨d, hd⟩ : ∃ d, w[k]? = some d := ⟨w[k], by simp [hk]⟩
    exact (r.cell k d hd).1.there (by rw [q]; exact hp)⟩
theorem Rel.oaNe (r : Rel G m e w σ H) {p : Addr} (hp : H p = none) {i : Nat} {d : D} (h : e[i]? = some (.own d)) : m.oa i ≠ p := fun q =>
  (r.sl i _ h).2.1.there (by rw [q]; exact hp)
/-- a new object, named by values from now on -/
def Fm.add (m : Fm) (p : Addr) : Fm := { m with F := fun a => a = p ∨ m.F a }
theorem Rel.new (r : Rel G m e w σ H) {p : Addr} (hp : H p = none) (o : HO) : Ext m w H (m.add p) w (upd H p o) ∧ Rel G (m.add p) e w σ (upd H p o) := by
  obtain ⟨f1, f2, f3⟩ := r.toRelW.free hp
  have hne : ∀ a, H a ≠ none → upd H p o a = H a := fun a h => upd_ne fun q => h (by rw [q]; exact hp)
  have hF : ∀ a, m.F a → (m.add p).F a := fun a h => .inr h
  have hH : ∀ a, m.F a → upd H p o a = H a := fun a h => hne a (r.allF a h)
  refine ⟨⟨rfl, hF, hH, fun a h => hne a (r.allP a h), Nat.le_refl _, fun _ _ => rfl, rfl⟩, ⟨⟨fun k d h => ?_, r.inj, fun a h => ?_, fun a h => ?_, fun a h q => ?_⟩, r.len, fun i s h => ?_, r.oinj⟩⟩
  · obtain ⟨h1, h2, h3⟩ := r.cell k d h
    refine ⟨h1.mono hF hH (Nat.le_refl _) (fun _ _ => rfl) (hne _ h1.there), fun q => ?_, h3⟩
    rcases q with q | q
    · exact f3 k (List.getElem?_eq_some_iff.mp h).1 q
    · exact h2 q
  · rcases h with rfl | h
    · rw [upd_same]; simp
    · rw [hH a h]; exact r.allF a h
  · rw [hne a (r.allP a h)]; exact r.allP a h
  · rcases q with rfl | q
    · exact f2 h
    · exact r.FP a h q
  · have q := r.sl i s h
    cases s with
    | un => trivial
    | val d =>
      obtain ⟨v, h1, h2⟩ := q
      exact ⟨v, h1, h2.mono hF hH (Nat.le_refl _) fun _ _ => rfl⟩
    | own d =>
      obtain ⟨h1, h2, h3, h4, h5⟩ := q
      refine ⟨h1, h2.mono hF hH (Nat.le_refl _) (fun _ _ => rfl) (hne _ h2.there), fun z => ?_, h4, h5⟩
      rcases z with z | z
      · exact r.oaNe hp h z
      · exact h3 z
    | exc c x => exact q
/-- a new object, nobody's yet -/
theorem Rel.lay (r : Rel G m e w σ H) {p : Addr} (hp : H p = none) (o : HO) : Ext m w H m w (upd H p o) ∧ Rel G m e w σ (upd H p o) := by
  obtain ⟨f1, f2, f3⟩ := r.toRelW.free hp
  have hne : ∀ a, H a ≠ none → upd H p o a = H a := fun a h => upd_ne fun q => h (by rw [q]; exact hp)
  have hF : ∀ a, m.F a → m.F a := fun a h => h
  have hH : ∀ a, m.F a → upd H p o a = H a := fun a h => hne a (r.allF a h)
  refine ⟨⟨rfl, hF, hH, fun a h => hne a (r.allP a h), Nat.le_refl _, fun _ _ => rfl, rfl⟩, ⟨⟨fun k d h => ?_, r.inj, fun a h => ?_, fun a h => ?_, fun a h q => ?_⟩, r.len, fun i s h => ?_, r.oinj⟩⟩
  · obtain ⟨h1, h2, h3⟩ := r.cell k d h
    exact ⟨h1.mono hF hH (Nat.le_refl _) (fun _ _ => rfl) (hne _ h1.there), h2, h3⟩
  · rw [hH a h]; exact r.allF a h
  · rw [hne a (r.allP a h)]; exact r.allP a h
  · exact r.FP a h q
  · have q := r.sl i s h
    cases s with
    | un => trivial
    | val d =>
      obtain ⟨v, h1, h2⟩ := q
      exact ⟨v, h1, h2.mono hF hH (Nat.le_refl _) fun _ _ => rfl⟩
    | own d =>
      obtain ⟨h1, h2, h3, h4, h5⟩ := q
      exact ⟨h1, h2.mono hF hH (Nat.le_refl _) (fun _ _ => rfl) (hne _ h2.there), h3, h4, h5⟩
    | exc c x => exact q
end
end Ev



set_option maxRecDepth 100000
set_option maxHeartbeats 4000000
/-! What an expression's reading is asked: that the machine gives something. -/
namespace Ev
open PySem PySem.Spec PyProof.Rows L2

theorem pe_weak {X : Cx} {e : Expr} {t t' : TE} (h : PE X e t) (hw : ∀ σ H Q, t' σ H Q → t σ H Q) : PE X e t' := ⟨fun pins s σ H Q I q => h.run pins s σ H Q I (hw σ H Q q)⟩
theorem pt_weak {X : Cx} {e : Expr} {t t' : TT} (h : PT X e t) (hw : ∀ σ H Q, t' σ H Q → t σ H Q) : PT X e t' := ⟨fun pins s σ H Q I q => h.run pins s σ H Q I (hw σ H Q q)⟩
theorem pw_weak {X : Cx} {e : Expr} {t t' : TT} (h : PW X e t) (hw : ∀ σ H Q, t' σ H Q → t σ H Q) : PW X e t' := ⟨fun wh pins s σ H Q I q => h.run wh pins s σ H Q I (hw σ H Q q)⟩
theorem pa_weak {X : Cx} {e : List Expr} {t t' : TA} (h : PA X e t) (hw : ∀ σ H Q, t' σ H Q → t σ H Q) : PA X e t' := ⟨fun pos pins s σ H Q I q => h.run pos pins s σ H Q I (hw σ H Q q)⟩

/-- an error as the layer tells it: its class, its own dict -/
def XAt (G : GG) (xf : Nat → Option Str) (m : Fm) (w : Wd) (H : Hp) (c : Nat) : Option D → Option Addr → Prop
  | none, none => True
  | some d, some p => ∃ f v, xf c = some f ∧ H p = some (.xd [(f, v)]) ∧ m.F p ∧ R G m.F m.rho w.length H v d
  | _, _ => False
section
variable (G : GG) (xf : Nat → Option Str) (Wx : L2.WX)
def PostE {α β : Type} (m : Fm) (w : Wd) (H : Hp) (e : Env) (σ : L2.St) (Rl : Fm → Wd → Hp → β → α → Prop) (Q : β → Hp → Prop) : Rs α → Prop
  | .ok d w' => ∀ v m' H', Ext m w H m' w' H' → Rel G m' e w' σ H' → Rl m' w' H' v d → Q v H'
  | .exc c x w' => ∀ pn m' H', Ext m w H m' w' H' → Rel G m' e w' σ H' → XAt G xf m' w' H' c x pn → Wx (.ref (G.cl c)) pn σ H'
  | .stk => False
/-- a value -/
def RR : Fm → Wd → Hp → V → D → Prop := fun m w H v d => R G m.F m.rho w.length H v d
def RRs : Fm → Wd → Hp → List V → List D → Prop := fun m w H v d => RA G m.F m.rho w.length H v d
/-- a value, or the content of an own slot -/
def RX (e : Env) (σ : L2.St) (x : X) : Fm → Wd → Hp → V → D → Prop := fun m w H v d => if ownV e x = true then ∃ i, x = .v i ∧ e[i]? = some (.own d) ∧ σ[i]? = some (some v) else R G m.F m.rho w.length H v d
def RB : Fm → Wd → Hp → Bool → Bool → Prop := fun _ _ _ v d => v = d
def TB (C : Cfg) (x : X) : TE := fun σ H Q => ∃ m e w, Rel G m e w σ H ∧ PostE G xf Wx m w H e σ (RX G e σ x) Q (ev C x e w)
def TN (C : Cfg) (x : X) : TE := fun σ H Q => ∃ m e w, Rel G m e w σ H ∧ PostE G xf Wx m w H e σ (RR G) Q (nb e x (ev C x e) w)
def TT' (C : Cfg) (x : X) : TT := fun σ H Q => ∃ m e w, Rel G m e w σ H ∧ PostE G xf Wx m w H e σ RB Q (tst (ev C x e) w)
def TS' (C : Cfg) (x : Xs) : TA := fun σ H Q => ∃ m e w, Rel G m e w σ H ∧ PostE G xf Wx m w H e σ (RRs G) Q (evs C x e w)
end
section
variable {G : GG} {xf : Nat → Option Str} {Wx : L2.WX} {m m1 : Fm} {w w1 : Wd} {H H1 : Hp} {e : Env} {σ : L2.St} {C : Cfg} {x : X}
theorem PostE.shift {α β : Type} {Rl : Fm → Wd → Hp → β → α → Prop} {Q : β → Hp → Prop} {r : Rs α} (h : PostE G xf Wx m w H e σ Rl Q r) (xt : Ext m w H m1 w1 H1) : PostE G xf Wx m1 w1 H1 e σ Rl Q r := by
  cases r with
  | ok d w' => exact fun v m' H' x r y => h v m' H' (xt.trans x) r y
  | exc c x w' => exact fun pn m' H' x r y => h pn m' H' (xt.trans x) r y
  | stk => exact h
theorem PostE.step {α β α' β' : Type} {Rl : Fm → Wd → Hp → β → α → Prop} {Rl1 : Fm → Wd → Hp → β' → α' → Prop} {Q : β → Hp → Prop} {Q1 : β' → Hp → Prop} {r : M α'} {k : α' → M α} (h : PostE G xf Wx m w H e σ Rl Q ((r >>= k) w))
    (hk : ∀ d w1 v m1 H1, Ext m w H m1 w1 H1 → Rel G m1 e w1 σ H1 → Rl1 m1 w1 H1 v d → PostE G xf Wx m1 w1 H1 e σ Rl Q (k d w1) → Q1 v H1) : PostE G xf Wx m w H e σ Rl1 Q1 (r w) := by
  rw [bind_def] at h
  cases q : r w with
  | ok d w' =>
    rw [q] at h
    exact fun v m' H' x r y => hk d w' v m' H' x r y (h.shift x)
  | exc c x w' =>
    rw [q] at h
    exact h
  | stk =>
    rw [q] at h
    exact h
theorem PostE.val {α β : Type} {Rl : Fm → Wd → Hp → β → α → Prop} {Q : β → Hp → Prop} {d : α} {v : β} (h : PostE G xf Wx m w H e σ Rl Q ((pure d : M α) w)) (r : Rel G m e w σ H) (y : Rl m w H v d) : Q v H := h v m H (.refl _ _ _) r y
theorem PostE.stk_elim {α β : Type} {Rl : Fm → Wd → Hp → β → α → Prop} {Q : β → Hp → Prop} (h : PostE G xf Wx m w H e σ Rl Q ((stk : M α) w)) {P : Prop} : P := False.elim h
theorem PostE.new {Q : VK} {d : D} {p : Addr} {o : HO} (h : PostE G xf Wx m w H e σ (RR G) Q ((pure d : M D) w)) (r : Rel G m e w σ H) (hp : H p = none)
    (y : Rel G (m.add p) e w σ (upd H p o) → RR G (m.add p) w (upd H p o) (.ref p) d) : Q (.ref p) (upd H p o) := by
  obtain ⟨x, r'⟩ := r.new hp o
  exact h _ _ _ x r' (y r')
theorem PostE.newX {Q : VK} {d : D} {p : Addr} {o : HO} (hx : ownV e x = false) (h : PostE G xf Wx m w H e σ (RX G e σ x) Q ((pure d : M D) w)) (r : Rel G m e w σ H) (hp : H p = none)
    (y : Rel G (m.add p) e w σ (upd H p o) → RR G (m.add p) w (upd H p o) (.ref p) d) : Q (.ref p) (upd H p o) := by
  obtain ⟨xt, r'⟩ := r.new hp o
  refine h _ _ _ xt r' ?_
  show (if ownV e x = true then _ else _)
  rw [if_neg (by rw [hx]; exact Bool.false_ne_true)]
  exact y r'
theorem PostE.grd {β : Type} {Rl : Fm → Wd → Hp → β → D → Prop} {Q : β → Hp → Prop} {p : Prop} [Decidable p] {k : M D} (h : PostE G xf Wx m w H e σ Rl Q (grd p k w)) : p ∧ PostE G xf Wx m w H e σ Rl Q (k w) := by
  unfold Ev.grd at h
  by_cases hp : p
  · rw [if_pos hp] at h; exact ⟨hp, h⟩
  · rw [if_neg hp] at h; exact h.stk_elim
theorem RX.of (h : ownV e x = false) {v : V} {d : D} : RX G e σ x m w H v d ↔ R G m.F m.rho w.length H v d := by
  unfold RX
  rw [if_neg (by rw [h]; exact Bool.false_ne_true)]
theorem PostE.rx (h : ownV e x = false) {Q : VK} {r : Rs D} : PostE G xf Wx m w H e σ (RX G e σ x) Q r ↔ PostE G xf Wx m w H e σ (RR G) Q r := by
  cases r with
  | ok d w' => exact ⟨fun q v m' H' a b c => q v m' H' a b ((RX.of h).mpr c), fun q v m' H' a b c => q v m' H' a b ((RX.of h).mp c)⟩
  | exc c x w' => exact Iff.rfl
  | stk => exact Iff.rfl
/-- what must not be an own slot's name -/
theorem tn_of {X : Cx} {ex : Expr} (h : PE X ex (TB G xf Wx C x)) : PE X ex (TN G xf Wx C x) := pe_weak h fun σ H Q ⟨m, e, w, r, q⟩ => by
  refine ⟨m, e, w, r, ?_⟩
  unfold nb at q
  by_cases ho : ownV e x = true
  · rw [if_pos ho] at q; exact q.stk_elim
  · rw [if_neg ho] at q
    exact (PostE.rx (by simpa using ho)).mpr q
theorem nb_post {β : Type} {Rl : Fm → Wd → Hp → β → D → Prop} {Q : β → Hp → Prop} {k : M D} (h : PostE G xf Wx m w H e σ Rl Q (nb e x k w)) : ownV e x = false ∧ PostE G xf Wx m w H e σ Rl Q (k w) := by
  unfold nb at h
  by_cases ho : ownV e x = true
  · rw [if_pos ho] at h; exact h.stk_elim
  · rw [if_neg ho] at h; exact ⟨by simpa using ho, h⟩
theorem RX.mono {m' : Fm} {w' : Wd} {H' : Hp} (xt : Ext m w H m' w' H') {v : V} {d : D} (h : RX G e σ x m w H v d) : RX G e σ x m' w' H' v d := by
  unfold RX at h ⊢
  by_cases ho : ownV e x = true
  · rw [if_pos ho] at h ⊢; exact h
  · rw [if_neg ho] at h ⊢; exact h.ext xt
/-! ### views -/
theorem RX.own (r : Rel G m e w σ H) {v : V} {d : D} (h : RX G e σ x m w H v d) : R G m.F m.rho w.length H v d ∨ ∃ a, v = .ref a ∧ Own G m.F m.rho w.length H a d := by
  unfold RX at h
  by_cases ho : ownV e x = true
  · rw [if_pos ho] at h
    obtain ⟨i, _, h1, h2⟩ := h
    obtain ⟨h3, h4, _⟩ := r.sl i _ h1
    rw [h3] at h2
    cases h2
    exact .inr ⟨_, rfl, h4⟩
  · rw [if_neg ho] at h
    exact .inl h
theorem RX.int (r : Rel G m e w σ H) {v : V} {i : Int} (h : RX G e σ x m w H v (.int i)) : v = .int i := by
  rcases h.own r with h | ⟨a, _, h⟩
  · cases h; rfl
  · exact h.elim
theorem RX.bl (r : Rel G m e w σ H) {v : V} {i : Bool} (h : RX G e σ x m w H v (.bl i)) : v = .bl i := by
  rcases h.own r with h | ⟨a, _, h⟩
  · cases h; rfl
  · exact h.elim
theorem RX.str (r : Rel G m e w σ H) {v : V} {i : Str} (h : RX G e σ x m w H v (.str i)) : v = .str i := by
  rcases h.own r with h | ⟨a, _, h⟩
  · cases h; rfl
  · exact h.elim
theorem RX.non (r : Rel G m e w σ H) {v : V} (h : RX G e σ x m w H v .non) : v = .non := by
  rcases h.own r with h | ⟨a, _, h⟩
  · cases h; rfl
  · exact h.elim
theorem RX.tup (r : Rel G m e w σ H) {v : V} {ds : List D} (h : RX G e σ x m w H v (.tup ds)) : ∃ a vs, v = .ref a ∧ TupAt G m.F H a vs ∧ vs.length ≤ SZ ∧ RA G m.F m.rho w.length H vs ds := by
  rcases h.own r with h | ⟨a, _, h⟩
  · cases h with
    | tup a b c => exact ⟨_, _, rfl, a, b, c⟩
  · exact h.elim
theorem RX.lst (r : Rel G m e w σ H) {v : V} {ds : List D} (h : RX G e σ x m w H v (.lst ds)) : ∃ a vs, v = .ref a ∧ H a = some (.lst vs) ∧ vs.length ≤ SZ ∧ RA G m.F m.rho w.length H vs ds := by
  rcases h.own r with h | ⟨a, e1, h⟩
  · cases h with
    | lst _ a b c => exact ⟨_, _, rfl, a, b, c⟩
  · obtain ⟨vs, h1, h2, h3⟩ := h
    exact ⟨a, vs, e1, h1, h2, h3⟩
theorem RX.dic (r : Rel G m e w σ H) {v : V} {ds : List (D × D)} (h : RX G e σ x m w H v (.dic ds)) : ∃ a vs, v = .ref a ∧ H a = some (.dK vs) ∧ vs.length ≤ SZ ∧ RK G m.F m.rho w.length H vs ds := by
  rcases h.own r with h | ⟨a, e1, h⟩
  · cases h with
    | dic _ a b c => exact ⟨_, _, rfl, a, b, c⟩
  · obtain ⟨vs, h1, h2, h3⟩ := h
    exact ⟨a, vs, e1, h1, h2, h3⟩
theorem RX.ins (r : Rel G m e w σ H) {v : V} {c : Nat} {fs : List (Str × D)} (h : RX G e σ x m w H v (.ins c fs)) : ∃ a dx vs, v = .ref a ∧ H a = some (.ins (G.cl c) dx vs) ∧ RF G m.F m.rho w.length H vs fs := by
  rcases h.own r with h | ⟨a, e1, h⟩
  · cases h with
    | ins _ a b => exact ⟨_, _, _, rfl, a, b⟩
  · obtain ⟨dx, vs, h1, h3⟩ := h
    exact ⟨a, dx, vs, e1, h1, h3⟩
theorem RX.cel (r : Rel G m e w σ H) {v : V} {k : Nat} (h : RX G e σ x m w H v (.cel k)) : k < w.length ∧ v = .ref (m.rho k) := by
  rcases h.own r with h | ⟨a, _, h⟩
  · cases h with
    | cel a => exact ⟨a, rfl⟩
  · exact h.elim
theorem RX.fn (r : Rel G m e w σ H) {v : V} {k : Nat} (h : RX G e σ x m w H v (.fn k)) : v = .ref (G.fa k) := by
  rcases h.own r with h | ⟨a, _, h⟩
  · cases h; rfl
  · exact h.elim
theorem RX.scr (r : Rel G m e w σ H) {v : V} {ns : List Int} (h : RX G e σ x m w H v (.scr ns)) : ∃ a, v = .ref a ∧ SqL G.K H a (ns.map V.int) ∧ ns.length ≤ SZ := by
  rcases h.own r with h | ⟨a, _, h⟩
  · cases h with
    | scr _ a b => exact ⟨_, rfl, .inl (.inr ⟨_, a⟩), b⟩
    | scrK a b => exact ⟨_, rfl, .inr a, b⟩
  · exact h.elim
end
end Ev

set_option maxRecDepth 100000
set_option maxHeartbeats 4000000
/-! Expressions, one by one: the machine's term is a reading of the Python. -/
namespace Ev
open PySem PySem.Spec PyProof.Rows L2

theorem SZ_eq : (SZ : Nat) = sizeLine := by rw [sizeLine_eq]
theorem flat_len {α : Type} (xs : List α) : ∀ k : Nat, (List.replicate k xs).flatten.length = k * xs.length
  | 0 => by simp
  | k + 1 => by rw [List.replicate_succ, List.flatten_cons, List.length_append, flat_len xs k, Nat.add_mul, Nat.one_mul, Nat.add_comm]
theorem tuple_mulOne (l : Addr) (items : Array Value) (n : Nat) (sl : Array (Option Value)) (dd : Option Addr) (u : Tok) :
    Meets (Builtin.«tuple.__mul__» ⟨[.ref l, .int 1 u], []⟩) (fun _ R s => s.heap.get? l = some { cls := .type "tuple", dict := dd, data := .seq items n, slots := sl } ∧ R (.ok (.ret (Value.ref l))) s) :=
  .of_wp fun prog w A R s h => by
    obtain ⟨hp, g, d, tk, os⟩ := s
    obtain ⟨hl, h⟩ := h
    have f1 := AutoSeq1.idx_int
    wp_walk using wpAny_loadPart' hl
    exact ⟨_, rfl, h⟩
/-- t * 1 is t -/
theorem op_rep1 {X : Cx} : OpR X (binaryOp .Mult) (fun x y H Q => ∃ l xs, x = .ref l ∧ y = .int 1 ∧ SqT X.K H l xs ∧ xs ≠ [] ∧ Q (.ref l) H) := by
  intro pins s σ H x y v u Q I rx ry h
  obtain ⟨l, xs, rfl, rfl, hT, hne, q⟩ := h
  cases rx
  obtain ⟨t, rfl⟩ := ry
  obtain ⟨its, r, ⟨⟨cls, dd, data, sl⟩, ho, hc, n, hd⟩, hs⟩ := I.tuple hT
  simp only at hc hd
  subst hc hd
  refine wpAny_binaryOp_repeat_ref (T := "tuple") (U := "int") (by decide) ⟨_, ho, rfl⟩ (fun s' => typeIs_int s' 1 t) noFill_tuple_mul F.fills_int_mul F.slot_int_rmul repeat_tuple F.slot_int_index.lookup
    (call_meets F.slot_int_rmul (typeIs_int s 1 t) F.entry_int_rmul (F.args_int_rmul_2 _ _) (int_rmul_tuple 1 t l its.toArray n dd sl)
      ⟨ho, rfl, ⟨_, ho, rfl⟩, call_meets F.slot_tuple_mul ⟨_, ho, rfl⟩ F.entry_tuple_mul (F.args_tuple_mul_2 _ _) (tuple_mulOne l its.toArray n sl dd t) ⟨ho, ?_⟩⟩)
  exact ⟨.ref l, H, I, rfl, q⟩
section
variable {G : GG} {xf : Nat → Option Str} {Wx : L2.WX} {m m1 : Fm} {w w1 : Wd} {H H1 : Hp} {e : Env} {σ : L2.St} {C : Cfg} {X : Cx} {pos : Pos}

/-! ### constants, names -/
def litD : Const → D → Bool
  | .none, .non => true
  | .bool b, .bl c => b == c
  | .int i, .int j => decide (i = j)
  | .str x, .str y => decide (x = y)
  | _, _ => false
theorem c_lit {c : Const} {j : Nat} {d : D} (h : litD c d = true) : PE X (.Constant c j pos) (TB G xf Wx C (.k d)) := by
  have fin : ∀ v : V, (∀ F rho n H, R G F rho n H v d) → ∀ σ H Q, TB G xf Wx C (.k d) σ H Q → tC v σ H Q := fun v hv σ H Q ⟨m, e, w, r, q⟩ => by
    have q' : PostE G xf Wx m w H e σ (RX G e σ (.k d)) Q ((pure d : M D) w) := by rw [← show ev C (.k d) e = (pure d : M D) from by rw [ev]]; exact q
    exact q'.val r ((RX.of rfl).mpr (hv _ _ _ _))
  cases c <;> cases d <;> simp only [litD] at h <;> first | cases h | skip
  · exact pe_weak pe_non (fin .non fun _ _ _ _ => .non)
  · have e := eq_of_beq h; subst e; exact pe_weak pe_bl (fin (.bl _) fun _ _ _ _ => .bl _)
  · have e := of_decide_eq_true h; subst e; exact pe_weak pe_int (fin (.int _) fun _ _ _ _ => .int _)
  · have e := of_decide_eq_true h; subst e; exact pe_weak pe_str (fin (.str _) fun _ _ _ _ => .str _)
theorem getV_post {i : Nat} {Q : VK} (r : Rel G m e w σ H) (h : PostE G xf Wx m w H e σ (RX G e σ (.v i)) Q (getV e i w)) : ∃ v, σ[i]? = some (some v) ∧ Q v H := by
  unfold getV at h
  cases q : e[i]? with
  | none => rw [q] at h; exact h.stk_elim
  | some s =>
    rw [q] at h
    have rs := r.sl i s q
    cases s with
    | un => exact h.stk_elim
    | val d =>
      obtain ⟨v, h1, h2⟩ := rs
      refine ⟨v, h1, h.val r ((RX.of ?_).mpr h2)⟩
      show (match e[i]? with | some (.own _) => true | _ => false) = false
      rw [q]
    | own d =>
      obtain ⟨h1, h2, _⟩ := rs
      refine ⟨_, h1, h.val r ?_⟩
      unfold RX
      rw [if_pos (by show (match e[i]? with | some (.own _) => true | _ => false) = true; rw [q])]
      exact ⟨i, rfl, q, h1⟩
    | exc c x => exact h.stk_elim
theorem c_var {i : Nat} {x : Str} (hN : X.N[i]? = some x) (hv : Vis X.env.scope x) (hd : (x == ("__debug__" : Str)) = false) (hcd : (x == ("__classdict__" : Str)) = false) : PE X (.Name x pos) (TB G xf Wx C (.v i)) :=
  pe_weak (pe_var hN hv hd hcd) fun σ H Q ⟨m, e, w, r, q⟩ => getV_post r (by rw [ev] at q; exact q)
theorem c_glob {j : Nat} {x : Str} {v : V} {u : Value} {d : D} (hg : Gl X x) (hm : X.mg x = some u) (hr : RelV v u) (hd : C.gs[j]? = some d) (hR : ∀ F rho n H, R G F rho n H v d) (hdb : (x == ("__debug__" : Str)) = false) : PE X (.Name x pos) (TB G xf Wx C (.g j)) :=
  pe_weak (pe_glob hg hm hr hdb) fun σ H Q ⟨m, e, w, r, q⟩ => by
    rw [ev, hd] at q
    exact PostE.val (d := d) (by exact q) r ((RX.of rfl).mpr (hR _ _ _ _))

/-! ### displays -/
theorem c_nil : PA X [] (TS' G xf Wx C .nil) := pa_weak pa_nil fun σ H Q ⟨m, e, w, r, q⟩ => by
  rw [evs] at q
  exact PostE.val (d := []) q r .nil
theorem c_cons {a : Expr} {as : List Expr} {x : Ev.X} {xs : Xs} (ha : PE X a (TB G xf Wx C x)) (hs : PA X as (TS' G xf Wx C xs)) (hst : starEach (a :: as) X.env = (false, eval a X.env) :: starEach as X.env) : PA X (a :: as) (TS' G xf Wx C (.cons x xs)) :=
  pa_weak (pa_cons (tn_of ha) hs hst) fun σ H Q ⟨m, e, w, r, q⟩ => by
    rw [evs] at q
    refine ⟨m, e, w, r, q.step fun d w1 v m1 H1 x1 r1 y1 q1 => ⟨m1, e, w1, r1, q1.step fun ds w2 vs m2 H2 x2 r2 y2 q2 => ?_⟩⟩
    exact PostE.val (d := d :: ds) q2 r2 (.cons (R.ext x2 y1) y2)
theorem c_tup {es : List Expr} {xs : Xs} {x1 : Nat} (h : PA X es (TS' G xf Wx C xs)) : PE X (.Tuple es x1 pos) (TB G xf Wx C (.tup xs)) :=
  pe_weak (pe_tup h) fun σ H Q ⟨m, e, w, r, q⟩ => by
    rw [ev] at q
    refine ⟨m, e, w, r, q.step fun ds w1 vs m1 H1 x1 r1 y1 q1 => ?_⟩
    obtain ⟨hl, q1⟩ := q1.grd
    have hl' : vs.length ≤ SZ := by rw [RA.length y1]; exact hl
    refine ⟨by rw [← SZ_eq]; exact hl', fun p hp => q1.newX rfl r1 hp fun r2 => ?_⟩
    exact .tup (.inl ⟨.inl rfl, upd_same⟩) hl' (RA.ext (r1.new hp (.tup vs)).1 y1)
theorem c_lst {es : List Expr} {xs : Xs} (h : PA X es (TS' G xf Wx C xs)) : PE X (.List es pos) (TB G xf Wx C (.lst xs)) :=
  pe_weak (pe_lst h) fun σ H Q ⟨m, e, w, r, q⟩ => by
    rw [ev] at q
    refine ⟨m, e, w, r, q.step fun ds w1 vs m1 H1 x1 r1 y1 q1 => ?_⟩
    obtain ⟨hl, q1⟩ := q1.grd
    have hl' : vs.length ≤ SZ := by rw [RA.length y1]; exact hl
    refine ⟨by rw [← SZ_eq]; exact hl', fun p hp => q1.newX rfl r1 hp fun r2 => ?_⟩
    exact .lst (.inl rfl) upd_same hl' (RA.ext (r1.new hp (.lst vs)).1 y1)

/-! ### operators -/
/-- two operands, then what the operator gives -/
theorem two {a b : Ev.X} {x : Ev.X} {ta tb : TE} {k : D → D → M D} {Q : VK} {r2 : R2} (r : Rel G m e w σ H) (q : PostE G xf Wx m w H e σ (RX G e σ x) Q ((ev C a e >>= fun d => ev C b e >>= fun d' => k d d') w))
    (h : ∀ d d' u v m2 w2 H2, Rel G m2 e w2 σ H2 → RX G e σ a m2 w2 H2 u d → RX G e σ b m2 w2 H2 v d' → PostE G xf Wx m2 w2 H2 e σ (RX G e σ x) Q (k d d' w2) → r2 u v H2 Q) :
    TB G xf Wx C a σ H fun u H1 => TB G xf Wx C b σ H1 fun v H2 => r2 u v H2 Q :=
  ⟨m, e, w, r, q.step fun d w1 u m1 H1 x1 r1 y1 q1 => ⟨m1, e, w1, r1, q1.step fun d' w2 v m2 H2 x2 r2 y2 q2 => h d d' u v m2 w2 H2 r2 (y1.mono x2) y2 q2⟩⟩
def rAdd (K : PySem.W.Frag) : R2 := fun x y H Q => rI0 (fun i j => .int (i + j)) x y H Q ∨ (∃ i j, x = .str i ∧ y = .str j ∧ i.length + j.length ≤ sizeLine ∧ Q (.str (i ++ j)) H) ∨ rCatA K x y H Q ∨ rCat x y H Q
theorem op_addA : OpR X (binaryOp .Add) (rAdd X.K) := op_add.or (op_add_str.or (op_catA.or op_cat))
theorem c_add {ea eb : Expr} {a b : Ev.X} (hK : X.K = G.K) (ha : PE X ea (TB G xf Wx C a)) (hb : PE X eb (TB G xf Wx C b)) : PE X (.BinOp ea .Add eb pos) (TB G xf Wx C (.bin .add a b)) :=
  pe_weak (pe_op op_addA ha hb) fun σ H Q ⟨m, e, w, r, q⟩ => by
    rw [ev] at q
    refine two (r2 := rAdd X.K) (ta := fun _ _ _ => True) (tb := fun _ _ _ => True) r q fun d d' u v m2 w2 H2 r2 y1 y2 q2 => ?_
    cases d <;> cases d' <;> simp only [binop] at q2 <;> first | exact q2.stk_elim | skip
    · rw [y1.int r2, y2.int r2]
      exact .inl ⟨_, _, rfl, rfl, q2.val r2 ((RX.of rfl).mpr (.int _))⟩
    · obtain ⟨hl, q2⟩ := q2.grd
      rw [y1.str r2, y2.str r2]
      exact .inr (.inl ⟨_, _, rfl, rfl, by rw [← SZ_eq]; exact hl, q2.val r2 ((RX.of rfl).mpr (.str _))⟩)
    · obtain ⟨hl, q2⟩ := q2.grd
      obtain ⟨a1, vs, rfl, t1, l1, z1⟩ := y1.tup r2
      obtain ⟨a2, us, rfl, t2, l2, z2⟩ := y2.tup r2
      have e1 := z1.length
      have e2 := z2.length
      refine .inr (.inr (.inl ⟨a1, a2, vs, us, rfl, rfl, by rw [hK]; exact t1.sq, by rw [hK]; exact t2.sq, by rw [e1, e2, ← SZ_eq]; exact hl, fun z => ?_, fun _ z => ?_, fun _ _ p hp => ?_⟩))
      · subst z
        cases z1
        exact q2.val r2 ((RX.of rfl).mpr (.tup t2 l2 z2))
      · subst z
        cases z2
        refine q2.val r2 ((RX.of rfl).mpr ?_)
        rw [List.append_nil]
        exact .tup t1 l1 z1
      · refine q2.newX rfl r2 hp fun r3 => ?_
        exact .tup (.inl ⟨.inl rfl, upd_same⟩) (by rw [List.length_append, e1, e2]; exact hl) (RA.ext (r2.new hp _).1 (z1.append z2))
    · obtain ⟨hl, q2⟩ := q2.grd
      obtain ⟨a1, vs, rfl, t1, l1, z1⟩ := y1.lst r2
      obtain ⟨a2, us, rfl, t2, l2, z2⟩ := y2.lst r2
      have e1 := z1.length
      have e2 := z2.length
      refine .inr (.inr (.inr ⟨a1, a2, vs, us, rfl, rfl, t1, t2, by rw [e1, e2, ← SZ_eq]; exact hl, fun p hp => ?_⟩))
      refine q2.newX rfl r2 hp fun r3 => ?_
      exact .lst (.inl rfl) upd_same (by rw [List.length_append, e1, e2]; exact hl) (RA.ext (r2.new hp _).1 (z1.append z2))
def rMul (K : PySem.W.Frag) : R2 := fun x y H Q => rI CMul (fun i j => .int (i * j)) x y H Q ∨ (∃ l xs, x = .ref l ∧ y = .int 1 ∧ SqT K H l xs ∧ xs ≠ [] ∧ Q (.ref l) H) ∨ rRepT K x y H Q ∨ rRep x y H Q
theorem op_mulA : OpR X (binaryOp .Mult) (rMul X.K) := op_mul.or (op_rep1.or (op_repT.or op_rep))
theorem c_mul {ea eb : Expr} {a b : Ev.X} (hK : X.K = G.K) (ha : PE X ea (TB G xf Wx C a)) (hb : PE X eb (TB G xf Wx C b)) : PE X (.BinOp ea .Mult eb pos) (TB G xf Wx C (.bin .mul a b)) :=
  pe_weak (pe_op op_mulA ha hb) fun σ H Q ⟨m, e, w, r, q⟩ => by
    rw [ev] at q
    refine two (r2 := rMul X.K) (ta := fun _ _ _ => True) (tb := fun _ _ _ => True) r q fun d d' u v m2 w2 H2 r2 y1 y2 q2 => ?_
    cases d <;> cases d' <;> simp only [binop] at q2 <;> first | exact q2.stk_elim | skip
    · obtain ⟨hl, q2⟩ := q2.grd
      rw [y1.int r2, y2.int r2]
      exact .inl ⟨_, _, rfl, rfl, hl, q2.val r2 ((RX.of rfl).mpr (.int _))⟩
    · rename_i xs k
      obtain ⟨⟨h0, h1, h2, h3⟩, q2⟩ := q2.grd
      obtain ⟨a1, vs, rfl, t1, l1, z1⟩ := y1.tup r2
      rw [y2.int r2]
      have e1 := z1.length
      have hne : vs ≠ [] := fun z => h0 (by subst z; cases z1; rfl)
      by_cases hk : k = 1
      · subst hk
        refine .inr (.inl ⟨a1, vs, rfl, rfl, by rw [hK]; exact t1.sq, hne, q2.val r2 ((RX.of rfl).mpr ?_)⟩)
        rw [show (List.replicate (1 : Int).toNat xs).flatten = xs by simp [List.replicate]]
        exact .tup t1 l1 z1
      · refine .inr (.inr (.inl ⟨a1, k, vs, rfl, rfl, by rw [hK]; exact t1.sq, hne, by omega, h2, by rw [e1]; exact h3, fun p hp => ?_⟩))
        refine q2.newX rfl r2 hp fun r3 => ?_
        refine .tup (.inl ⟨.inl rfl, upd_same⟩) ?_ (RA.ext (r2.new hp _).1 (z1.flat _))
        rw [flat_len, e1]
        have : k.toNat ≤ 1000 := by omega
        calc k.toNat * xs.length ≤ 1000 * 1000 := Nat.mul_le_mul this h3
          _ ≤ SZ := by decide
    · rename_i xs k
      obtain ⟨⟨h0, h1, h2⟩, q2⟩ := q2.grd
      obtain ⟨a1, vs, rfl, t1, l1, z1⟩ := y1.lst r2
      rw [y2.int r2]
      have e1 := z1.length
      refine .inr (.inr (.inr ⟨a1, k, vs, rfl, rfl, t1, h0, h1, by rw [e1, ← SZ_eq]; exact h2, fun p hp => ?_⟩))
      refine q2.newX rfl r2 hp fun r3 => ?_
      refine .lst (.inl rfl) upd_same ?_ (RA.ext (r2.new hp _).1 (z1.flat _))
      rw [flat_len, e1, Nat.mul_comm]
      exact h2
theorem c_sub {ea eb : Expr} {a b : Ev.X} (ha : PE X ea (TB G xf Wx C a)) (hb : PE X eb (TB G xf Wx C b)) : PE X (.BinOp ea .Sub eb pos) (TB G xf Wx C (.bin .sub a b)) :=
  pe_weak (pe_op op_sub ha hb) fun σ H Q ⟨m, e, w, r, q⟩ => by
    rw [ev] at q
    refine two (r2 := rI0 fun i j => .int (i - j)) (ta := fun _ _ _ => True) (tb := fun _ _ _ => True) r q fun d d' u v m2 w2 H2 r2 y1 y2 q2 => ?_
    cases d <;> cases d' <;> simp only [binop] at q2 <;> first | exact q2.stk_elim | skip
    rw [y1.int r2, y2.int r2]
    exact ⟨_, _, rfl, rfl, q2.val r2 ((RX.of rfl).mpr (.int _))⟩
theorem c_fdv {ea eb : Expr} {a b : Ev.X} (ha : PE X ea (TB G xf Wx C a)) (hb : PE X eb (TB G xf Wx C b)) : PE X (.BinOp ea .FloorDiv eb pos) (TB G xf Wx C (.bin .fdv a b)) :=
  pe_weak (pe_op op_fdiv ha hb) fun σ H Q ⟨m, e, w, r, q⟩ => by
    rw [ev] at q
    refine two (r2 := rI CDiv fun i j => .int (i / j)) (ta := fun _ _ _ => True) (tb := fun _ _ _ => True) r q fun d d' u v m2 w2 H2 r2 y1 y2 q2 => ?_
    cases d <;> cases d' <;> simp only [binop] at q2 <;> first | exact q2.stk_elim | skip
    obtain ⟨hl, q2⟩ := q2.grd
    rw [y1.int r2, y2.int r2]
    exact ⟨_, _, rfl, rfl, hl, q2.val r2 ((RX.of rfl).mpr (.int _))⟩
theorem c_mod {ea eb : Expr} {a b : Ev.X} (ha : PE X ea (TB G xf Wx C a)) (hb : PE X eb (TB G xf Wx C b)) : PE X (.BinOp ea .Mod eb pos) (TB G xf Wx C (.bin .mod a b)) :=
  pe_weak (pe_op op_mod ha hb) fun σ H Q ⟨m, e, w, r, q⟩ => by
    rw [ev] at q
    refine two (r2 := rI (fun _ j => 0 < j) fun i j => .int (i % j)) (ta := fun _ _ _ => True) (tb := fun _ _ _ => True) r q fun d d' u v m2 w2 H2 r2 y1 y2 q2 => ?_
    cases d <;> cases d' <;> simp only [binop] at q2 <;> first | exact q2.stk_elim | skip
    obtain ⟨hl, q2⟩ := q2.grd
    rw [y1.int r2, y2.int r2]
    exact ⟨_, _, rfl, rfl, hl, q2.val r2 ((RX.of rfl).mpr (.int _))⟩
theorem c_pow {ea eb : Expr} {a b : Ev.X} (ha : PE X ea (TB G xf Wx C a)) (hb : PE X eb (TB G xf Wx C b)) : PE X (.BinOp ea .Pow eb pos) (TB G xf Wx C (.bin .pow a b)) :=
  pe_weak (pe_op op_pow ha hb) fun σ H Q ⟨m, e, w, r, q⟩ => by
    rw [ev] at q
    refine two (r2 := rI CPow fun i j => .int (i ^ j.toNat)) (ta := fun _ _ _ => True) (tb := fun _ _ _ => True) r q fun d d' u v m2 w2 H2 r2 y1 y2 q2 => ?_
    cases d <;> cases d' <;> simp only [binop] at q2 <;> first | exact q2.stk_elim | skip
    obtain ⟨hl, q2⟩ := q2.grd
    rw [y1.int r2, y2.int r2]
    exact ⟨_, _, rfl, rfl, hl, q2.val r2 ((RX.of rfl).mpr (.int _))⟩
theorem c_neg {ea : Expr} {a : Ev.X} (ha : PE X ea (TB G xf Wx C a)) : PE X (.UnaryOp .USub ea pos) (TB G xf Wx C (.neg a)) :=
  pe_weak (pe_un un_neg ha) fun σ H Q ⟨m, e, w, r, q⟩ => by
    rw [ev] at q
    refine ⟨m, e, w, r, q.step fun d w1 u m1 H1 x1 r1 y1 q1 => ?_⟩
    cases d <;> first | exact PostE.stk_elim (by exact q1) | skip
    rw [y1.int r1]
    exact ⟨_, rfl, PostE.val (by exact q1) r1 ((RX.of rfl).mpr (.int _))⟩

/-! ### tests -/
theorem tst_post {x : Ev.X} {Q : Bool → Hp → Prop} (r : Rel G m e w σ H) (q : PostE G xf Wx m w H e σ RB Q (tst (ev C x e) w)) : PostE G xf Wx m w H e σ (RX G e σ x) (fun v H' => ∃ b, v = .bl b ∧ Q b H') (ev C x e w) := by
  unfold tst at q
  refine q.step fun d w1 u m1 H1 x1 r1 y1 q1 => ?_
  cases d <;> first | exact PostE.stk_elim (by exact q1) | skip
  exact ⟨_, y1.bl r1, PostE.val (by exact q1) r1 rfl⟩
/-- an expression that isn't a chain of tests itself -/
theorem t_of {ex : Expr} {x : Ev.X} (h : PE X ex (TB G xf Wx C x)) (he : ∀ whole, isTrue ex X.env whole = (do let v ← whole; standAt ex.pos; holding [v] (truthy v))) : PT X ex (TT' G xf Wx C x) :=
  pt_weak (pt_val h he) fun σ H Q ⟨m, e, w, r, q⟩ => ⟨m, e, w, r, tst_post r q⟩
theorem c_not {ea : Expr} {a : Ev.X} (ha : PE X ea (TB G xf Wx C a)) : PE X (.UnaryOp .Not ea pos) (TB G xf Wx C (.not a)) :=
  pe_weak (pe_not ha) fun σ H Q ⟨m, e, w, r, q⟩ => by
    rw [ev] at q
    refine ⟨m, e, w, r, tst_post r (q.step fun b w1 u m1 H1 x1 r1 y1 q1 => ?_)⟩
    cases y1
    exact q1.val r1 ((RX.of rfl).mpr (.bl _))
theorem t_not {ea : Expr} {a : Ev.X} (ha : PT X ea (TT' G xf Wx C a)) : PT X (.UnaryOp .Not ea pos) (TT' G xf Wx C (.not a)) :=
  pt_weak (pt_not ha) fun σ H Q ⟨m, e, w, r, q⟩ => by
    rw [ev] at q
    unfold tst at q
    rw [bnd_assoc] at q
    refine ⟨m, e, w, r, PostE.step (r := tst (ev C a e)) q fun b w1 u m1 H1 x1 r1 y1 q1 => ?_⟩
    cases y1
    exact PostE.val (by exact q1) r1 rfl
end
end Ev

set_option maxRecDepth 100000
set_option maxHeartbeats 4000000
/-! Comparisons, items, slices, fields, builtins. -/
namespace Ev
open PySem PySem.Spec PyProof.Rows L2

/-! ### data as the library reads it -/
mutual
theorem dpR {G : GG} {F : Pr} {rho : Nat → Addr} {n : Nat} {H : Hp} : ∀ (d : D) (v : V), R G F rho n H v d → d.shp = true → Dp G.K H v d.py
  | .non, _, h, _ => by cases h; exact .non
  | .bl b, _, h, _ => by cases h; exact .bl b
  | .int i, _, h, _ => by cases h; exact .int i
  | .str x, _, h, _ => by cases h; exact .str x
  | .tup ds, _, h, s => by
    cases h with
    | tup a b c => exact .tup a.sq (dpRA ds _ c (by simpa [D.shp] using s))
  | .lst ds, _, h, s => by
    cases h with
    | lst a b c d => exact .lst (.of b) (dpRA ds _ d (by simpa [D.shp] using s))
  | .dic _, _, _, s => by simp [D.shp] at s
  | .ins _ _, _, _, s => by simp [D.shp] at s
  | .cel _, _, _, s => by simp [D.shp] at s
  | .fn _, _, _, s => by simp [D.shp] at s
  | .scr _, _, _, s => by simp [D.shp] at s
theorem dpRA {G : GG} {F : Pr} {rho : Nat → Addr} {n : Nat} {H : Hp} : ∀ (ds : List D) (vs : List V), RA G F rho n H vs ds → D.shpAll ds = true → DpAll G.K H vs (D.pyAll ds)
  | [], _, h, _ => by cases h; exact .nil
  | d :: ds, _, h, s => by
    cases h with
    | cons a b =>
      have s' : d.shp = true ∧ D.shpAll ds = true := by simpa [D.shpAll] using s
      exact .cons (dpR d _ a s'.1) (dpRA ds _ b s'.2)
end
mutual
theorem canLay_py : ∀ d : D, d.shp = true → d.py.canLay0 = true
  | .non, _ => rfl | .bl _, _ => rfl | .int _, _ => rfl
  | .str x, s => by simpa [D.shp, D.py, PyData.canLay0] using s
  | .tup ds, s => by simpa [D.py, PyData.canLay0] using canLay_pyAll ds (by simpa [D.shp] using s)
  | .lst ds, s => by simpa [D.py, PyData.canLay0] using canLay_pyAll ds (by simpa [D.shp] using s)
  | .dic _, s => by simp [D.shp] at s
  | .ins _ _, s => by simp [D.shp] at s
  | .cel _, s => by simp [D.shp] at s
  | .fn _, s => by simp [D.shp] at s
  | .scr _, s => by simp [D.shp] at s
theorem canLay_pyAll : ∀ ds : List D, D.shpAll ds = true → PyData.canLayAll0 (D.pyAll ds) = true
  | [], _ => rfl
  | d :: ds, s => by
    have s' : d.shp = true ∧ D.shpAll ds = true := by simpa [D.shpAll] using s
    simp [D.pyAll, PyData.canLayAll0, canLay_py d s'.1, canLay_pyAll ds s'.2]
end
mutual
theorem dep_py : ∀ d : D, d.py.depth ≤ d.dep
  | .non => Nat.le_refl _ | .bl _ => Nat.le_refl _ | .int _ => Nat.le_refl _ | .str _ => Nat.le_refl _
  | .tup ds => by simpa [D.py, D.dep, PyData.depth] using dep_pyAll ds
  | .lst ds => by simpa [D.py, D.dep, PyData.depth] using dep_pyAll ds
  | .dic _ => Nat.zero_le _ | .ins _ _ => Nat.zero_le _ | .cel _ => Nat.zero_le _ | .fn _ => Nat.zero_le _ | .scr _ => Nat.zero_le _
theorem dep_pyAll : ∀ ds : List D, PyData.depthAll (D.pyAll ds) ≤ D.depAll ds
  | [] => Nat.le_refl _
  | d :: ds => by
    have h1 := dep_py d
    have h2 := dep_pyAll ds
    simp only [D.pyAll, D.depAll, PyData.depthAll]
    omega
end
theorem shaped_of {d : D} (h : d.shp = true) (hd : d.dep ≤ 60) : SeqAt.shaped d.py = true := by
  unfold SeqAt.shaped
  rw [canLay_py d h, Bool.true_and]
  exact decide_eq_true (Nat.le_trans (dep_py d) (by omega))
theorem shape2_of {a b : D} (h : shape2 a b = true) : (a.shp = true ∧ SeqAt.shaped a.py = true) ∧ b.shp = true ∧ SeqAt.shaped b.py = true := by
  unfold shape2 at h
  simp only [Bool.and_eq_true, decide_eq_true_eq] at h
  obtain ⟨⟨⟨h1, h2⟩, h3⟩, h4⟩ := h
  exact ⟨⟨h1, shaped_of h1 h3⟩, h2, shaped_of h2 h4⟩

section
variable {G : GG} {xf : Nat → Option Str} {Wx : L2.WX} {m m1 : Fm} {w w1 : Wd} {H H1 : Hp} {e : Env} {σ : L2.St} {C : Cfg} {X : Cx} {pos : Pos}
theorem RX.dp {x : Ev.X} (r : Rel G m e w σ H) {v : V} {d : D} (h : RX G e σ x m w H v d) (s : d.shp = true) : Dp G.K H v d.py := by
  rcases h.own r with h | ⟨a, e1, h⟩
  · exact dpR d v h s
  · cases d with
    | lst ds =>
      obtain ⟨vs, h1, h2, h3⟩ := h
      subst e1
      exact .lst (.of h1) (dpRA ds vs h3 (by simpa [D.shp] using s))
    | dic _ => simp [D.shp] at s
    | ins _ _ => simp [D.shp] at s
    | _ => exact h.elim
/-- what a cell holds -/
inductive View (G : GG) (m : Fm) (w : Wd) (H : Hp) : V → D → Prop
  | v {v : V} {d : D} : R G m.F m.rho w.length H v d → View G m w H v d
  | o {a : Addr} {d : D} : Own G m.F m.rho w.length H a d → View G m w H (.ref a) d
theorem RX.view {x : Ev.X} (r : Rel G m e w σ H) {v : V} {d : D} (h : RX G e σ x m w H v d) : View G m w H v d := by
  rcases h.own r with h1 | ⟨a, e1, h1⟩
  · exact .v h1
  · subst e1; exact .o h1
theorem der_post {α β : Type} {Rl : Fm → Wd → Hp → β → α → Prop} {Q : β → Hp → Prop} {x : Ev.X} {k : D → M α} (r : Rel G m e w σ H) {v : V} {d : D} (h : RX G e σ x m w H v d) (q : PostE G xf Wx m w H e σ Rl Q ((der d >>= k) w)) :
    ∃ d', View G m w H v d' ∧ PostE G xf Wx m w H e σ Rl Q (k d' w) ∧ ∀ j, d' = .cel j → False := by
  have gen : (∀ j, d ≠ .cel j) → ∃ d', View G m w H v d' ∧ PostE G xf Wx m w H e σ Rl Q (k d' w) ∧ ∀ j, d' = .cel j → False := fun hn => by
    have e1 : der d = pure d := by
      cases d <;> first | rfl | exact absurd rfl (hn _)
    rw [e1] at q
    exact ⟨d, h.view r, q, hn⟩
  cases d with
  | cel j =>
    obtain ⟨hj, rfl⟩ := h.cel r
    rw [bind_def] at q
    have e1 : der (.cel j) w = .ok w[j] w := by
      unfold der
      simp [hj]
    rw [e1] at q
    have o := (r.cell j w[j] (by simp [hj])).1
    refine ⟨w[j], .o o, q, fun i z => ?_⟩
    rw [z] at o
    exact o
  | _ => exact gen fun _ z => nomatch z
theorem View.tup {v : V} {ds : List D} (h : View G m w H v (.tup ds)) : ∃ a vs, v = .ref a ∧ TupAt G m.F H a vs ∧ vs.length ≤ SZ ∧ RA G m.F m.rho w.length H vs ds := by
  cases h with
  | v h => cases h with
    | tup a b c => exact ⟨_, _, rfl, a, b, c⟩
  | o h => exact h.elim
theorem View.lst {v : V} {ds : List D} (h : View G m w H v (.lst ds)) : ∃ a vs, v = .ref a ∧ H a = some (.lst vs) ∧ vs.length ≤ SZ ∧ RA G m.F m.rho w.length H vs ds := by
  cases h with
  | v h => cases h with
    | lst _ a b c => exact ⟨_, _, rfl, a, b, c⟩
  | o h =>
    obtain ⟨vs, h1, h2, h3⟩ := h
    exact ⟨_, vs, rfl, h1, h2, h3⟩
theorem View.dic {v : V} {ds : List (D × D)} (h : View G m w H v (.dic ds)) : ∃ a vs, v = .ref a ∧ H a = some (.dK vs) ∧ vs.length ≤ SZ ∧ RK G m.F m.rho w.length H vs ds := by
  cases h with
  | v h => cases h with
    | dic _ a b c => exact ⟨_, _, rfl, a, b, c⟩
  | o h =>
    obtain ⟨vs, h1, h2, h3⟩ := h
    exact ⟨_, vs, rfl, h1, h2, h3⟩
theorem View.ins {v : V} {c : Nat} {fs : List (Str × D)} (h : View G m w H v (.ins c fs)) : ∃ a dx vs, v = .ref a ∧ H a = some (.ins (G.cl c) dx vs) ∧ RF G m.F m.rho w.length H vs fs := by
  cases h with
  | v h => cases h with
    | ins _ a b => exact ⟨_, _, _, rfl, a, b⟩
  | o h =>
    obtain ⟨dx, vs, h1, h3⟩ := h
    exact ⟨_, dx, vs, rfl, h1, h3⟩
theorem View.scr {v : V} {ns : List Int} (h : View G m w H v (.scr ns)) : ∃ a, v = .ref a ∧ SqL G.K H a (ns.map V.int) ∧ ns.length ≤ SZ := by
  cases h with
  | v h => cases h with
    | scr _ a b => exact ⟨_, rfl, .inl (.inr ⟨_, a⟩), b⟩
    | scrK a b => exact ⟨_, rfl, .inr a, b⟩
  | o h => exact h.elim
theorem View.flat {v : V} {d : D} (h : View G m w H v d) (f : flatD d = true) : (d = .non ∧ v = .non) ∨ (∃ b, d = .bl b ∧ v = .bl b) ∨ (∃ i, d = .int i ∧ v = .int i) ∨ ∃ s, d = .str s ∧ v = .str s := by
  cases d with
  | non => exact .inl ⟨rfl, by cases h with | v h => (cases h; rfl) | o h => exact h.elim⟩
  | bl b => exact .inr (.inl ⟨b, rfl, by cases h with | v h => (cases h; rfl) | o h => exact h.elim⟩)
  | int b => exact .inr (.inr (.inl ⟨b, rfl, by cases h with | v h => (cases h; rfl) | o h => exact h.elim⟩))
  | str b => exact .inr (.inr (.inr ⟨b, rfl, by cases h with | v h => (cases h; rfl) | o h => exact h.elim⟩))
  | _ => simp [flatD] at f
theorem View.dp {v : V} {d : D} (h : View G m w H v d) (s : d.shp = true) : Dp G.K H v d.py := by
  cases h with
  | v h => exact dpR d v h s
  | o h =>
    cases d with
    | lst ds =>
      obtain ⟨vs, h1, h2, h3⟩ := h
      exact .lst (.of h1) (dpRA ds vs h3 (by simpa [D.shp] using s))
    | dic _ => simp [D.shp] at s
    | ins _ _ => simp [D.shp] at s
    | _ => exact h.elim
theorem RA.view {vs : List V} {ds : List D} (h : RA G m.F m.rho w.length H vs ds) : ∀ v ∈ vs, ∃ d ∈ ds, View G m w H v d := fun v hv => by
  induction vs generalizing ds with
  | nil => cases hv
  | cons u vs ih => cases h with
    | cons a b =>
      rcases List.mem_cons.mp hv with rfl | hv
      · exact ⟨_, List.mem_cons_self, .v a⟩
      · obtain ⟨d, h1, h2⟩ := ih b hv
        exact ⟨d, List.mem_cons_of_mem _ h1, h2⟩
/-! ### in flat items -/
theorem flat_v {v : V} {d : D} (h : View G m w H v d) (f : flatD d = true) : flatV v = true := by
  rcases h.flat f with ⟨_, rfl⟩ | ⟨b, _, rfl⟩ | ⟨b, _, rfl⟩ | ⟨b, _, rfl⟩ <;> rfl
theorem flat_all {vs : List V} {ds : List D} (h : RA G m.F m.rho w.length H vs ds) (f : ds.all flatD = true) : vs.all flatV = true := by
  rw [List.all_eq_true] at f ⊢
  intro v hv
  obtain ⟨d, h1, h2⟩ := RA.view h v hv
  exact flat_v h2 (f d h1)
theorem eqv_flat {u v : V} {d c : D} (h : View G m w H u d) (k : View G m w H v c) (f : flatD d = true) (g : flatD c = true) : eqV u v = D.eqv d c := by
  rcases h.flat f with ⟨rfl, rfl⟩ | ⟨b, rfl, rfl⟩ | ⟨b, rfl, rfl⟩ | ⟨b, rfl, rfl⟩ <;> rcases k.flat g with ⟨rfl, rfl⟩ | ⟨a, rfl, rfl⟩ | ⟨a, rfl, rfl⟩ | ⟨a, rfl, rfl⟩ <;>
    simp [eqV, D.eqv, D.py, PyData.eqv]
theorem in_flat {v : V} {d : D} {vs : List V} {ds : List D} (k : View G m w H v d) (g : flatD d = true) (h : RA G m.F m.rho w.length H vs ds) (f : ds.all flatD = true) : inV v vs = hasD d ds := by
  unfold inV hasD
  induction vs generalizing ds with
  | nil => cases h; rfl
  | cons u vs ih => cases h with
    | cons a b =>
      rw [List.all_cons, Bool.and_eq_true] at f
      rw [List.any_cons, List.any_cons, ih b f.2, eqv_flat (.v a) k f.1 g]
/-! ### keys -/
theorem key_v {v : V} {d : D} (h : View G m w H v d) (f : isKey d = true) : ∃ k : Key, v = kV k ∧ d = keyD k := by
  cases d with
  | int i => cases h with
    | v h => cases h; exact ⟨.inl i, rfl, rfl⟩
    | o h => exact h.elim
  | str i => cases h with
    | v h => cases h; exact ⟨.inr i, rfl, rfl⟩
    | o h => exact h.elim
  | _ => simp [isKey] at f
theorem keyEq_iff (j k : Key) : keyEq (keyD j) (keyD k) = decide (j = k) := by
  cases j with
  | inl i => cases k with
    | inl j => simp [keyD, keyEq]
    | inr y => simp [keyD, keyEq]
  | inr x => cases k with
    | inl j => simp [keyD, keyEq]
    | inr y => simp [keyD, keyEq]
theorem RK.find {vs : List (Key × V)} {ds : List (D × D)} (h : RK G m.F m.rho w.length H vs ds) (k : Key) : (dfind ds (keyD k) = none ∧ valV vs k = none) ∨ ∃ d v, dfind ds (keyD k) = some d ∧ valV vs k = some v ∧ R G m.F m.rho w.length H v d := by
  unfold dfind valV
  induction vs generalizing ds with
  | nil => cases h; exact .inl ⟨rfl, rfl⟩
  | cons p vs ih => cases h with
    | @cons j v d vs ds a b =>
      rw [List.find?_cons, List.find?_cons, keyEq_iff]
      by_cases hj : j = k
      · subst hj
        rw [decide_eq_true rfl]
        exact .inr ⟨d, v, rfl, rfl, a⟩
      · rw [decide_eq_false hj]
        exact ih b
theorem ix_dict (hu : X.A.units + 1 < cLine) : IxR X (fun x y H Q => ∃ a v, x = .ref a ∧ DGet H a y (some v) ∧ Q v H) := by
  intro value slice pins s σ H x y v u Q I rx ry h hs
  obtain ⟨a, z, rfl, g, q⟩ := h
  cases rx
  exact tail_any (dict_typeIs I g) PySem.F.slot_dict_getitem.lookup (d_getItem hu I g ry fun w' s3 I3 rw' => ⟨z, H, I3, rw', q⟩) hs
def rIxA (K : PySem.W.Frag) : R2 := fun x y H Q => rIxL K x y H Q ∨ rIxT K x y H Q ∨ ∃ a v, x = .ref a ∧ DGet H a y (some v) ∧ Q v H
theorem ix_any (hu : X.A.units + 1 < cLine) : IxR X (rIxA X.K) := ix_list.or (ix_tup.or (ix_dict hu))
theorem RA.at {vs : List V} {ds : List D} (h : RA G m.F m.rho w.length H vs ds) {k : Int} {d : D} (q : atI ds k = some d) : ∃ v, atI vs k = some v ∧ R G m.F m.rho w.length H v d := by
  unfold atI at q ⊢
  rw [h.length]
  cases z : ixN ds.length k with
  | none => rw [z] at q; cases q
  | some j =>
    rw [z] at q
    exact h.get q
theorem ofO_post {β : Type} {Rl : Fm → Wd → Hp → β → D → Prop} {Q : β → Hp → Prop} {o : Option D} (h : PostE G xf Wx m w H e σ Rl Q (ofO o w)) : ∃ d, o = some d ∧ PostE G xf Wx m w H e σ Rl Q ((pure d : M D) w) := by
  cases o with
  | none => exact PostE.stk_elim (by exact h)
  | some d => exact ⟨d, rfl, h⟩
theorem idx_post {a b x : Ev.X} {d d' : D} {u v : V} {Q : VK} (hK : X.K = G.K) (hx : ownV e x = false) (r : Rel G m e w σ H) (y1 : RX G e σ a m w H u d) (y2 : RX G e σ b m w H v d') (q : PostE G xf Wx m w H e σ (RX G e σ x) Q ((der d >>= fun z => idxop z d') w)) : rIxA X.K u v H Q := by
  obtain ⟨c, vw, q, nc⟩ := der_post r y1 q
  cases c with
  | tup xs =>
    cases d' <;> simp only [idxop] at q <;> first | exact q.stk_elim | skip
    obtain ⟨z, hz, q⟩ := ofO_post q
    obtain ⟨p, vs, rfl, t1, l1, z1⟩ := vw.tup
    obtain ⟨v1, a1, a2⟩ := z1.at hz
    rw [y2.int r]
    exact .inr (.inl ⟨p, vs, _, v1, rfl, rfl, by rw [hK]; exact t1.sq, a1, q.val r ((RX.of hx).mpr a2)⟩)
  | lst xs =>
    cases d' <;> simp only [idxop] at q <;> first | exact q.stk_elim | skip
    obtain ⟨z, hz, q⟩ := ofO_post q
    obtain ⟨p, vs, rfl, t1, l1, z1⟩ := vw.lst
    obtain ⟨v1, a1, a2⟩ := z1.at hz
    rw [y2.int r]
    exact .inl ⟨p, vs, _, v1, rfl, rfl, .of t1, a1, q.val r ((RX.of hx).mpr a2)⟩
  | dic kvs =>
    simp only [idxop] at q
    by_cases hk : isKey d' = true
    · rw [if_pos hk] at q
      obtain ⟨z, hz, q3⟩ := ofO_post q
      obtain ⟨p, vs, rfl, t1, l1, z1⟩ := vw.dic
      obtain ⟨k, rfl, rfl⟩ := key_v (y2.view r) hk
      rcases z1.find k with ⟨c1, _⟩ | ⟨d2, v2, c1, c2, c3⟩
      · rw [c1] at hz; cases hz
      · rw [c1] at hz
        cases hz
        exact .inr (.inr ⟨p, v2, rfl, by rw [← c2]; exact DGet.k t1, q3.val r ((RX.of hx).mpr c3)⟩)
    · rw [if_neg hk] at q; exact q.stk_elim
  | _ => exact PostE.stk_elim (by exact q)
theorem c_idx {ea eb : Expr} {a b : Ev.X} (hK : X.K = G.K) (hu : X.A.units + 200 < cLine) (ha : PE X ea (TB G xf Wx C a)) (hb : PE X eb (TB G xf Wx C b)) (hs : PlainIx eb) : PE X (.Subscript ea eb pos) (TB G xf Wx C (.idx a b)) :=
  pe_weak (pe_ix (ix_any (by omega)) ha hb hs) fun σ H Q ⟨m, e, w, r, q⟩ => by
    rw [ev] at q
    exact two (r2 := rIxA X.K) (ta := fun _ _ _ => True) (tb := fun _ _ _ => True) (k := fun x y => der x >>= fun z => idxop z y) r q fun d d' u v m2 w2 H2 r2 y1 y2 q2 => idx_post hK rfl r2 y1 y2 q2
end
end Ev

set_option maxRecDepth 100000
set_option maxHeartbeats 4000000
/-! Calls of own defs; comparisons. -/
namespace Ev
open PySem PySem.Spec PyProof.Rows L2

section
variable (G : GG) (xf : Nat → Option Str)
/-- what is wanted behind a call -/
def PostF (m : Fm) (w : Wd) (H : Hp) (Q : VK) (E : XK) : Rs D → Prop
  | .ok d w' => ∀ v m' H', Ext m w H m' w' H' → RelW G m' w' H' → R G m'.F m'.rho w'.length H' v d → Q v H'
  | .exc c x w' => ∀ pn m' H', Ext m w H m' w' H' → RelW G m' w' H' → XAt G xf m' w' H' c x pn → E (.ref (G.cl c)) pn H'
  | .stk => False
/-- the promise: what the machine says -/
def spOf (r : List D → M D) : Sp := fun vs H Q E => ∃ m w ds, RelW G m w H ∧ RA G m.F m.rho w.length H vs ds ∧ PostF G xf m w H Q E (r ds w)
end
structure FnUse (G : GG) (xf : Nat → Option Str) (X : Cx) (j : Nat) (r : List D → M D) : Prop where
  ok : ∃ k fd ps, FnOk X.prog X.w X.K X.mg X.base (L2.CX X.prog X.w) k (G.fa j) fd ps (spOf G xf r) ∧ Room k X.A ∧ Binds X.K fd ps [] ∧ PySem.W.keepIn X.K (.ref (G.fa j)) = true

section
variable {G : GG} {xf : Nat → Option Str} {Wx : L2.WX} {m m' m1 : Fm} {w w' w1 : Wd} {H H' H1 : Hp} {e : Env} {σ : L2.St} {C : Cfg} {X : Cx} {pos : Pos}
/-- a caller's own slots are held apart from the callee -/
def Fm.call (m : Fm) (e : Env) : Fm := { m with P := fun a => m.P a ∨ ∃ i d, e[i]? = some (.own d) ∧ m.oa i = a }
/-- .. and back -/
def Fm.back (m m' : Fm) : Fm := { F := m'.F, P := m.P, oa := m.oa, rho := m'.rho }
theorem Rel.toCall (r : Rel G m e w σ H) : RelW G (m.call e) w H := by
  refine ⟨fun k d h => ?_, r.inj, r.allF, fun a h => ?_, fun a h => ?_⟩
  · obtain ⟨h1, h2, h3⟩ := r.cell k d h
    refine ⟨h1, h2, fun q => ?_⟩
    rcases q with q | ⟨i, d', h4, h5⟩
    · exact h3 q
    · exact (r.sl i _ h4).2.2.2.2 k (List.getElem?_eq_some_iff.mp h).1 h5
  · rcases h with h | ⟨i, d', h4, h5⟩
    · exact r.allP a h
    · rw [← h5]; exact (r.sl i _ h4).2.1.there
  · rcases h with h | ⟨i, d', h4, h5⟩
    · exact r.FP a h
    · rw [← h5]; exact (r.sl i _ h4).2.2.1
theorem Rel.back (r : Rel G m e w σ H) (x : Ext (m.call e) w H m' w' H') (r' : RelW G m' w' H') : Ext m w H (m.back m') w' H' ∧ Rel G (m.back m') e w' σ H' := by
  have hF : ∀ a, m.F a → m'.F a := x.F
  have hH : ∀ a, m.F a → H' a = H a := x.aF
  have hP : ∀ a, m.P a → m'.P a := fun a h => by rw [x.P]; exact .inl h
  have hown : ∀ i d, e[i]? = some (.own d) → m'.P (m.oa i) ∧ H' (m.oa i) = H (m.oa i) := fun i d h => ⟨by rw [x.P]; exact .inr ⟨i, d, h, rfl⟩, x.aP _ (.inr ⟨i, d, h, rfl⟩)⟩
  refine ⟨⟨rfl, hF, hH, fun a h => x.aP a (.inl h), x.wl, x.rho, rfl⟩, ⟨⟨fun k d h => ?_, r'.inj, r'.allF, fun a h => ?_, fun a h => r'.FP a (hP a h)⟩, r.len, fun i s h => ?_, r.oinj⟩⟩
  · obtain ⟨h1, h2, h3⟩ := r'.cell k d h
    exact ⟨h1, h2, fun q => h3 (hP _ q)⟩
  · rw [x.aP a (.inl h)]; exact r.allP a h
  · have q := r.sl i s h
    cases s with
    | un => trivial
    | val d =>
      obtain ⟨v, h1, h2⟩ := q
      exact ⟨v, h1, h2.mono hF hH x.wl x.rho⟩
    | own d =>
      obtain ⟨h1, h2, h3, h4, h5⟩ := q
      obtain ⟨o1, o2⟩ := hown i d h
      refine ⟨h1, h2.mono hF hH x.wl x.rho o2, fun z => r'.FP _ o1 z, h4, fun k hk z => ?_⟩
      obtain ⟨dk, hdk⟩ : ∃ d, w'[k]? = some d := ⟨w'[k], by simp [hk]⟩
      exact (r'.cell k dk hdk).2.2 (by rw [← show m.oa i = m'.rho k from z]; exact o1)
    | exc c x => exact q
theorem XAt.back {c : Nat} {x : Option D} {pn : Option Addr} (h : XAt G xf m' w' H' c x pn) : XAt G xf (m.back m') w' H' c x pn := h
/-- behind the arguments: what the callee's promise is asked -/
theorem call_post {Q : VK} {r : List D → M D} {ds : List D} {vs : List V} (rl : Rel G m e w σ H) (ra : RA G m.F m.rho w.length H vs ds) (q : PostE G xf Wx m w H e σ (RR G) Q (r ds w)) : spOf G xf r vs H Q (WE Wx σ) := by
  refine ⟨m.call e, w, ds, rl.toCall, ra, ?_⟩
  cases z : r ds w with
  | ok d w' =>
    rw [z] at q
    exact fun v m' H' x r' y => by
      obtain ⟨x1, r1⟩ := rl.back x r'
      exact q v _ H' x1 r1 y
  | exc c x w' =>
    rw [z] at q
    exact fun pn m' H' x r' y => by
      obtain ⟨x1, r1⟩ := rl.back x r'
      exact q pn _ H' x1 r1 y
  | stk => rw [z] at q; exact q
theorem calm_post {α β : Type} {Rl : Fm → Wd → Hp → β → α → Prop} {Q : β → Hp → Prop} {k : M α} (h : PostE G xf Wx m w H e σ Rl Q (calm C k w)) : C.hot = false ∧ PostE G xf Wx m w H e σ Rl Q (k w) := by
  unfold Ev.calm at h
  by_cases hc : C.hot = true
  · rw [if_pos hc] at h; exact h.stk_elim
  · rw [if_neg hc] at h; exact ⟨by simpa using hc, h⟩
theorem c_call {x : Str} {p : Pos} {j : Nat} {a : Expr} {as : List Expr} {xs : Xs} (hh : C.hot = false → FnUse G xf X j (C.cf j)) (tk : Takes X Wx) (hg : Gl X x) (hm : X.mg x = some (.ref (G.fa j))) (ha : PA X (a :: as) (TS' G xf Wx C xs))
    (hdb : (x == ("__debug__" : Str)) = false) (he : starEach (a :: as) X.env = (false, eval a X.env) :: starEach as X.env) (hpl : (backTo pos (starEach as X.env)).any (·.1) = false) : PE X (.Call (.Name x p) (a :: as) [] pos) (TB G xf Wx C (.call j xs)) := by
  by_cases hc : C.hot = true
  · refine ⟨fun pins s σ H Q I ⟨m, e, w, r, q⟩ => ?_⟩
    rw [ev] at q
    have := (calm_post q).1
    rw [hc] at this; cases this
  · obtain ⟨k, fd, ps, F, hr, hb, hk⟩ := (hh (by simpa using hc)).ok
    refine pe_weak (pe_callS F hr hg hm hk hb (passAt tk) ha hdb he hpl) fun σ H Q ⟨m, e, w, r, q⟩ => ?_
    rw [ev] at q
    obtain ⟨_, q⟩ := calm_post q
    exact ⟨m, e, w, r, q.step fun ds w1 vs m1 H1 x1 r1 y1 q1 => call_post r1 y1 ((PostE.rx rfl).mp q1)⟩

/-! ### comparisons -/
/-- own ==: what the layer is asked of a class -/
structure EqUse (G : GG) (X : Cx) (c j : Nat) : Prop where
  find : PySem.W.findIn X.K (.ref (G.cl c)) "__eq__" = some (some (.ref (G.fa j)))
  fn : PySem.W.isFn X.K (.ref (G.fa j)) = true
  tup : PySem.W.notFirst X.K (G.cl c) (.type "tuple") = true
def rOwn (G : GG) (xf : Nat → Option Str) (K : PySem.W.Frag) (c : Nat) (r : List D → M D) : R2 := fun x y H Q => ∃ a dx fs b, x = .ref a ∧ y = .ref b ∧ H a = some (.ins (G.cl c) dx fs) ∧ ((∃ dy gs, H b = some (.ins (G.cl c) dy gs)) ∨ ∃ ys, SqT K H b ys) ∧
  spOf G xf r [x, y] H Q (fun _ _ _ => False)
theorem op_own {c j : Nat} {r : List D → M D} (u : EqUse G X c j) (f : FnUse G xf X j r) : OpR X (compareOp .Eq) (rOwn G xf X.K c r) := by
  intro pins s σ H x y v u' Q I rx ry h
  obtain ⟨k, fd, ps, F, hr, hb, hk⟩ := f.ok
  obtain ⟨a, dx, fs, b, rfl, rfl, ha, hy, hsp⟩ := h
  cases rx
  cases ry
  obtain ⟨mA, J, _⟩ := ins_get I.hok ha
  obtain ⟨od, J, _⟩ := J.look
  obtain ⟨m, hF⟩ := I.fr
  show wpAny (model X.prog X.w) X.A (richCompare .Eq (.ref a) (.ref b)) (EP X pins σ Q) X.xe s
  have fin : wpAny (model X.prog X.w) X.A (call (.ref (G.fa j)) [.ref a, .ref b]) (PySem.W.CmpBack (EP X pins σ Q)) X.xe s := by
    have r2 : Vals [V.ref a, V.ref b] [Value.ref a, Value.ref b] := .cons rfl (.cons rfl .nil)
    refine wpAny_mono (run_fnS (E := fun _ _ _ _ => False) F hr hb (fun pins H s e s' I c => passL pins σ H s e s' I c) I r2 hsp) (fun z s' hz => ?_) fun _ _ x => x
    obtain ⟨v, H', I', rv, q⟩ := id hz
    cases z <;> first | exact hz | skip
    cases v <;> first | (obtain ⟨_, e⟩ := rv; cases e) | cases rv
  rcases hy with ⟨dy, gs, hy⟩ | ⟨ys, hy⟩
  · obtain ⟨mB, J', _⟩ := ins_get I.hok hy
    obtain ⟨od', J', _⟩ := J'.look
    exact PySem.W.cmp_K (op := .Eq) (tb := .ref (G.cl c)) hr.units0 hF I.ok.mod.kin J J'.type (by simp [PySem.W.notFirst]) u.find u.fn fin
  · obtain ⟨its, rv, ⟨o, ho, hc, n, hd⟩, _⟩ := I.tuple hy
    exact PySem.W.cmp_K (op := .Eq) (tb := .type "tuple") hr.units0 hF I.ok.mod.kin J (hc ▸ (PySem.W.Looks.ld ho).andThen .now) u.tup u.find u.fn fin
/-- a call that raises nothing -/
theorem noX_post {β : Type} {Rl : Fm → Wd → Hp → β → D → Prop} {Q : β → Hp → Prop} {k : M D} (h : PostE G xf Wx m w H e σ Rl Q (noX k w)) : ∃ d w', k w = .ok d w' ∧ PostE G xf Wx m w H e σ Rl Q (.ok d w') := by
  unfold noX at h
  cases q : k w with
  | ok d w' => rw [q] at h; exact ⟨d, w', rfl, h⟩
  | exc c x w' => rw [q] at h; exact False.elim h
  | stk => rw [q] at h; exact False.elim h
theorem own_post {Q : VK} {r : List D → M D} {ds : List D} {vs : List V} (rl : Rel G m e w σ H) (ra : RA G m.F m.rho w.length H vs ds) (q : PostE G xf Wx m w H e σ (RR G) Q (noX (r ds) w)) : spOf G xf r vs H Q (fun _ _ _ => False) := by
  obtain ⟨d, w', z, q⟩ := noX_post q
  refine ⟨m.call e, w, ds, rl.toCall, ra, ?_⟩
  rw [z]
  exact fun v m' H' x r' y => by
    obtain ⟨x1, r1⟩ := rl.back x r'
    exact q v _ H' x1 r1 y
/-- what == asks: data, or a class's own -/
def rEqA (G : GG) (xf : Nat → Option Str) (C : Cfg) (K : PySem.W.Frag) : R2 := fun x y H Q => rEqD K x y H Q ∨ ∃ c j, C.hot = false ∧ C.ce c = some j ∧ rOwn G xf K c (C.cf j) x y H Q
theorem op_eqA (hu : X.A.units + 200 < cLine) (he : ∀ c j, C.hot = false → C.ce c = some j → EqUse G X c j ∧ FnUse G xf X j (C.cf j)) : OpR X (compareOp .Eq) (rEqA G xf C X.K) := by
  intro pins s σ H x y v u Q I rx ry h
  rcases h with h | ⟨c, j, h1, h2, h⟩
  · exact op_eqD (by omega) pins s σ H x y v u Q I rx ry h
  · exact op_own (he c j h1 h2).1 (he c j h1 h2).2 pins s σ H x y v u Q I rx ry h
def Co.op : Co → CmpOp
  | .eq => .Eq | .ne => .NotEq | .lt => .Lt | .le => .LtE | .gt => .Gt | .ge => .GtE | .is => .Is | .nis => .IsNot | .isin => .In | .nin => .NotIn
def rIs (n : Bool) : R2 := fun x y H Q => (y = .non ∧ Q (.bl (if n then !decide (x = .non) else decide (x = .non))) H) ∨ ∃ a b : Bool, x = .bl a ∧ y = .bl b ∧ Q (.bl (if n then !decide (a = b) else decide (a = b))) H
theorem op_isA : OpR X (compareOp .Is) (rIs false) := op_isN.or op_isBl
theorem op_nisA : OpR X (compareOp .IsNot) (rIs true) := op_notN.or op_notBl
theorem op_inDict (hu : X.A.units + 1 < cLine) : OpR X (compareOp .In) (fun x y H Q => ∃ a o, y = .ref a ∧ DGet H a x o ∧ Q (.bl o.isSome) H) := by
  intro pins s σ H x y v u Q I rx ry h
  obtain ⟨a, o, rfl, g, q⟩ := h
  cases ry
  exact d_in hu I g rx fun s3 I3 => ⟨.bl o.isSome, H, I3, rfl, q⟩
theorem op_ninDict (hu : X.A.units + 1 < cLine) : OpR X (compareOp .NotIn) (fun x y H Q => ∃ a o, y = .ref a ∧ DGet H a x o ∧ Q (.bl (!o.isSome)) H) := by
  intro pins s σ H x y v u Q I rx ry h
  obtain ⟨a, o, rfl, g, q⟩ := h
  cases ry
  exact d_notIn hu I g rx fun s3 I3 => ⟨.bl (!o.isSome), H, I3, rfl, q⟩
def rInA (K : PySem.W.Frag) (n : Bool) : R2 := fun x y H Q => rIn K n x y H Q ∨ (if n then rNotInD K x y H Q else rInD K x y H Q) ∨ ∃ a o, y = .ref a ∧ DGet H a x o ∧ Q (.bl (if n then !o.isSome else o.isSome)) H
theorem op_inA (hu : X.A.units + 200 < cLine) : OpR X (compareOp .In) (rInA X.K false) := op_in_seq.or ((op_inD (by omega)).or (op_inDict (by omega)))
theorem op_ninA (hu : X.A.units + 200 < cLine) : OpR X (compareOp .NotIn) (rInA X.K true) := op_notIn_seq.or ((op_notInD (by omega)).or (op_ninDict (by omega)))
/-- the rule of each comparison -/
def rCo (G : GG) (xf : Nat → Option Str) (C : Cfg) (K : PySem.W.Frag) : Co → R2
  | .eq => rEqA G xf C K
  | .ne => rNeD K
  | .lt => rI0 fun i j => .bl (decide (i < j))
  | .le => rI0 fun i j => .bl (decide (i ≤ j))
  | .gt => rI0 fun i j => .bl (decide (j < i))
  | .ge => rI0 fun i j => .bl (decide (j ≤ i))
  | .is => rIs false
  | .nis => rIs true
  | .isin => rInA K false
  | .nin => rInA K true
theorem op_co (hu : X.A.units + 200 < cLine) (he : ∀ c j, C.hot = false → C.ce c = some j → EqUse G X c j ∧ FnUse G xf X j (C.cf j)) : ∀ o : Co, OpR X (compareOp o.op) (rCo G xf C X.K o)
  | .eq => op_eqA hu he
  | .ne => op_neD (by omega)
  | .lt => op_lt
  | .le => op_le
  | .gt => op_gt
  | .ge => op_ge
  | .is => op_isA
  | .nis => op_nisA
  | .isin => op_inA hu
  | .nin => op_ninA hu
theorem any_py (a : D) : ∀ xs : List D, ((D.pyAll xs).any fun z => PyData.eqv z a.py) = hasD a xs
  | [] => rfl
  | x :: xs => by
    have ih := any_py a xs
    unfold hasD at ih ⊢
    rw [D.pyAll, List.any_cons, List.any_cons, ih]
    rfl
theorem shapes_of {a : D} {xs : List D} (h : shapes a xs = true) : (a.shp = true ∧ SeqAt.shaped a.py = true) ∧ (D.lst xs).shp = true ∧ SeqAt.shaped (.list (D.pyAll xs)) = true := by
  unfold shapes at h
  simp only [Bool.and_eq_true, decide_eq_true_eq] at h
  obtain ⟨⟨⟨h1, h2⟩, h3⟩, h4⟩ := h
  refine ⟨⟨h1, shaped_of h1 h2⟩, by simpa [D.shp] using h3, ?_⟩
  unfold SeqAt.shaped
  have e1 : (PyData.list (D.pyAll xs)).canLay0 = true := by simpa [PyData.canLay0] using canLay_pyAll xs h3
  rw [e1, Bool.true_and]
  refine decide_eq_true ?_
  have := dep_pyAll xs
  simp only [PyData.depth]
  omega
theorem non_iff {v : V} {d : D} (h : View G m w H v d) : decide (v = .non) = isNon d := by
  cases h with
  | v h => cases h <;> simp [isNon]
  | o h => cases d <;> first | exact h.elim | simp [isNon]
/-- a comparison's answer -/
theorem co_post {x : Ev.X} {o : Co} {d d' : D} {u v : V} {Q : VK} (hK : X.K = G.K) (hx : ownV e x = false) (r : Rel G m e w σ H) (y1 : View G m w H u d) (y2 : View G m w H v d') (q : PostE G xf Wx m w H e σ (RX G e σ x) Q (cmpop o d d' w)) : rCo G xf C X.K o u v H Q := by
  have bl : ∀ b : Bool, PostE G xf Wx m w H e σ (RX G e σ x) Q ((pure (.bl b) : M D) w) → Q (.bl b) H := fun b q => q.val r ((RX.of hx).mpr (.bl _))
  have hint : ∀ {u : V} {i : Int}, View G m w H u (.int i) → u = .int i := fun h => by
    rcases h.flat rfl with ⟨z, _⟩ | ⟨b, z, _⟩ | ⟨b, z, h⟩ | ⟨b, z, _⟩ <;> cases z
    exact h
  cases o
  case eq =>
    simp only [cmpop] at q
    split at q
    · rename_i hs
      obtain ⟨⟨h1, h2⟩, h3, h4⟩ := shape2_of hs
      exact .inl ⟨_, _, by rw [hK]; exact y1.dp h1, by rw [hK]; exact y2.dp h3, h2, h4, bl _ q⟩
    · exact q.stk_elim
  case ne =>
    simp only [cmpop] at q
    split at q
    · rename_i hs
      obtain ⟨⟨h1, h2⟩, h3, h4⟩ := shape2_of hs
      exact ⟨_, _, by rw [hK]; exact y1.dp h1, by rw [hK]; exact y2.dp h3, h2, h4, bl _ q⟩
    · exact q.stk_elim
  case lt =>
    cases d <;> cases d' <;> simp only [cmpop] at q <;> first | exact q.stk_elim | skip
    rw [hint y1, hint y2]; exact ⟨_, _, rfl, rfl, bl _ q⟩
  case le =>
    cases d <;> cases d' <;> simp only [cmpop] at q <;> first | exact q.stk_elim | skip
    rw [hint y1, hint y2]; exact ⟨_, _, rfl, rfl, bl _ q⟩
  case gt =>
    cases d <;> cases d' <;> simp only [cmpop] at q <;> first | exact q.stk_elim | skip
    rw [hint y1, hint y2]; exact ⟨_, _, rfl, rfl, bl _ q⟩
  case ge =>
    cases d <;> cases d' <;> simp only [cmpop] at q <;> first | exact q.stk_elim | skip
    rw [hint y1, hint y2]; exact ⟨_, _, rfl, rfl, bl _ q⟩
  case is =>
    have hn : ∀ {v : V}, View G m w H v .non → v = .non := fun h => by
      rcases h.flat rfl with ⟨_, h⟩ | ⟨b, z, _⟩ | ⟨b, z, _⟩ | ⟨b, z, _⟩
      · exact h
      all_goals cases z
    by_cases h' : d' = .non
    · subst h'
      have q2 : PostE G xf Wx m w H e σ (RX G e σ x) Q ((pure (.bl (isNon d)) : M D) w) := by
        cases d <;> exact q
      rw [← non_iff y1] at q2
      exact .inl ⟨hn y2, bl _ q2⟩
    · cases d' <;> first | exact absurd rfl h' | skip
      all_goals cases d <;> simp only [cmpop] at q <;> first | exact q.stk_elim | skip
      rename_i b c
      rcases y1.flat rfl with ⟨z, _⟩ | ⟨_, z, h1⟩ | ⟨_, z, _⟩ | ⟨_, z, _⟩ <;> cases z
      rcases y2.flat rfl with ⟨z, _⟩ | ⟨_, z, h2⟩ | ⟨_, z, _⟩ | ⟨_, z, _⟩ <;> cases z
      refine .inr ⟨_, _, h1, h2, bl _ ?_⟩
      have : (decide (c = b)) = (c == b) := by cases c <;> cases b <;> rfl
      simp only [Bool.false_eq_true, if_false]
      rw [this]
      exact q
  case nis =>
    have hn : ∀ {v : V}, View G m w H v .non → v = .non := fun h => by
      rcases h.flat rfl with ⟨_, h⟩ | ⟨b, z, _⟩ | ⟨b, z, _⟩ | ⟨b, z, _⟩
      · exact h
      all_goals cases z
    by_cases h' : d' = .non
    · subst h'
      have q2 : PostE G xf Wx m w H e σ (RX G e σ x) Q ((pure (.bl (!isNon d)) : M D) w) := by
        cases d <;> exact q
      rw [← non_iff y1] at q2
      exact .inl ⟨hn y2, bl _ q2⟩
    · cases d' <;> first | exact absurd rfl h' | skip
      all_goals cases d <;> simp only [cmpop] at q <;> first | exact q.stk_elim | skip
      rename_i b c
      rcases y1.flat rfl with ⟨z, _⟩ | ⟨_, z, h1⟩ | ⟨_, z, _⟩ | ⟨_, z, _⟩ <;> cases z
      rcases y2.flat rfl with ⟨z, _⟩ | ⟨_, z, h2⟩ | ⟨_, z, _⟩ | ⟨_, z, _⟩ <;> cases z
      refine .inr ⟨_, _, h1, h2, bl _ ?_⟩
      have : (decide (c = b)) = (c == b) := by cases c <;> cases b <;> rfl
      simp only [if_true]
      rw [this]
      exact q
  case isin =>
    cases d' <;> simp only [cmpop] at q <;> first | exact PostE.stk_elim (by exact q) | skip
    · rename_i xs
      split at q
      · rename_i hs
        rw [Bool.and_eq_true] at hs
        obtain ⟨p, vs, rfl, t1, l1, z1⟩ := y2.tup
        refine .inl ⟨p, vs, rfl, .inr (by rw [hK]; exact t1.sq), flat_v y1 hs.1, flat_all z1 hs.2, ?_⟩
        rw [in_flat y1 hs.1 z1 hs.2]
        exact bl _ q
      · exact q.stk_elim
    · rename_i xs
      split at q
      · rename_i hs
        obtain ⟨⟨h1, h2⟩, h3, h4⟩ := shapes_of hs
        have dp := y2.dp h3
        refine .inr (.inl ⟨_, _, by rw [hK]; exact y1.dp h1, by rw [hK]; exact dp, h2, h4, ?_⟩)
        rw [any_py]
        exact bl _ q
      · exact q.stk_elim
    · rename_i kvs
      split at q
      · rename_i hs
        obtain ⟨p, vs, rfl, t1, l1, z1⟩ := y2.dic
        obtain ⟨k, rfl, rfl⟩ := key_v y1 hs
        refine .inr (.inr ⟨p, _, rfl, DGet.k t1, ?_⟩)
        rcases z1.find k with ⟨c1, c2⟩ | ⟨d2, v2, c1, c2, _⟩
        · rw [c1] at q; rw [c2]; exact bl _ q
        · rw [c1] at q; rw [c2]; exact bl _ q
      · exact q.stk_elim
  case nin =>
    cases d' <;> simp only [cmpop] at q <;> first | exact PostE.stk_elim (by exact q) | skip
    · rename_i xs
      split at q
      · rename_i hs
        rw [Bool.and_eq_true] at hs
        obtain ⟨p, vs, rfl, t1, l1, z1⟩ := y2.tup
        refine .inl ⟨p, vs, rfl, .inr (by rw [hK]; exact t1.sq), flat_v y1 hs.1, flat_all z1 hs.2, ?_⟩
        rw [in_flat y1 hs.1 z1 hs.2]
        exact bl _ q
      · exact q.stk_elim
    · rename_i xs
      split at q
      · rename_i hs
        obtain ⟨⟨h1, h2⟩, h3, h4⟩ := shapes_of hs
        have dp := y2.dp h3
        refine .inr (.inl ⟨_, _, by rw [hK]; exact y1.dp h1, by rw [hK]; exact dp, h2, h4, ?_⟩)
        rw [any_py]
        exact bl _ q
      · exact q.stk_elim
    · rename_i kvs
      split at q
      · rename_i hs
        obtain ⟨p, vs, rfl, t1, l1, z1⟩ := y2.dic
        obtain ⟨k, rfl, rfl⟩ := key_v y1 hs
        refine .inr (.inr ⟨p, _, rfl, DGet.k t1, ?_⟩)
        rcases z1.find k with ⟨c1, c2⟩ | ⟨d2, v2, c1, c2, _⟩
        · rw [c1] at q; rw [c2]; exact bl _ q
        · rw [c1] at q; rw [c2]; exact bl _ q
      · exact q.stk_elim
def inMark (o : Co) (b : Expr) : Bool := behindInMarks o.op b
theorem cmp_post {x a b : Ev.X} {o : Co} {d d' : D} {u v : V} {Q : VK} (hK : X.K = G.K) (hx : ownV e x = false) (r : Rel G m e w σ H) (y1 : RX G e σ a m w H u d) (y2 : RX G e σ b m w H v d')
    (q : PostE G xf Wx m w H e σ (RX G e σ x) Q ((if isIns d && o == .eq then eqIns C e a b d d' else der d' >>= fun y => cmpop o d y) w)) : rCo G xf C X.K o u v H Q := by
  by_cases hi : (isIns d && o == .eq) = true
  · rw [if_pos hi] at q
    rw [Bool.and_eq_true] at hi
    obtain ⟨hi, ho⟩ := hi
    have ho : o = .eq := by simpa using ho
    subst ho
    unfold eqIns at q
    obtain ⟨hc, q⟩ := calm_post q
    obtain ⟨c, fs, rfl⟩ : ∃ c fs, d = .ins c fs := by cases d <;> simp [isIns] at hi ⊢
    have fin : ∀ {j : Nat}, C.ce c = some j → PostE G xf Wx m w H e σ (RX G e σ x) Q (nb e a (nb e b (noX (C.cf j [.ins c fs, d']))) w) → (∀ a', v = .ref a' → (∃ dy gs, H a' = some (.ins (G.cl c) dy gs)) ∨ ∃ ys, SqT X.K H a' ys) → (∃ a', v = .ref a') → rCo G xf C X.K .eq u v H Q := fun {j} hj q hy hv => by
      obtain ⟨n1, q⟩ := nb_post q
      obtain ⟨n2, q⟩ := nb_post q
      have z1 := (RX.of n1).mp y1
      have z2 := (RX.of n2).mp y2
      obtain ⟨a1, dx, vs, rfl, t1, _⟩ := y1.ins r
      obtain ⟨a', rfl⟩ := hv
      exact .inr ⟨c, j, hc, hj, a1, dx, vs, a', rfl, rfl, t1, hy a' rfl, own_post r (.cons z1 (.cons z2 .nil)) ((PostE.rx hx).mp q)⟩
    cases d' <;> first | exact PostE.stk_elim (by exact q) | skip
    · rename_i ys
      cases hj : C.ce c with
      | none => simp only [hj] at q; exact PostE.stk_elim (by exact q)
      | some j =>
        simp only [hj] at q
        obtain ⟨a2, vs2, rfl, t2, _, _⟩ := y2.tup r
        exact fin hj q (fun a' z => by cases z; exact .inr ⟨vs2, by rw [hK]; exact t2.sq⟩) ⟨a2, rfl⟩
    · rename_i c2 gs _
      cases hj : C.ce c with
      | none => simp only [hj] at q; exact PostE.stk_elim (by exact q)
      | some j =>
        by_cases hcc : c2 = c
        · obtain ⟨a2, dy, vs2, rfl, t2, _⟩ := y2.ins r
          simp only [hj, decide_eq_true hcc] at q
          exact fin hj q (fun a' z => by cases z; exact .inl ⟨dy, vs2, by rw [← hcc]; exact t2⟩) ⟨a2, rfl⟩
        · simp only [hj, decide_eq_false hcc] at q
          exact PostE.stk_elim (by exact q)
  · rw [if_neg hi] at q
    obtain ⟨c, vw, q, _⟩ := der_post r y2 q
    exact co_post hK hx r (y1.view r) vw q
theorem c_cmp {ea eb : Expr} {a b : Ev.X} {o : Co} (hK : X.K = G.K) (hu : X.A.units + 200 < cLine) (he : ∀ c j, C.hot = false → C.ce c = some j → EqUse G X c j ∧ FnUse G xf X j (C.cf j)) (ha : PE X ea (TB G xf Wx C a)) (hb : PE X eb (TB G xf Wx C b))
    (hm : behindInMarks o.op eb = false) : PE X (.Compare ea [o.op] [eb] pos) (TB G xf Wx C (.cmp o a b)) :=
  pe_weak (pe_cmpR (op_co hu he o) ha hb hm) fun σ H Q ⟨m, e, w, r, q⟩ => by
    rw [ev] at q
    exact two (r2 := rCo G xf C X.K o) (ta := fun _ _ _ => True) (tb := fun _ _ _ => True) (k := fun x y => if isIns x && o == .eq then eqIns C e a b x y else der y >>= fun y => cmpop o x y) r q fun d d' u v m2 w2 H2 r2 y1 y2 q2 => cmp_post hK rfl r2 y1 y2 q2
theorem bl_post {Q : VK} {x : Ev.X} {Q' : Bool → Hp → Prop} (r : Rel G m e w σ H) {k : M D} (q : PostE G xf Wx m w H e σ RB Q' (tst k w)) : PostE G xf Wx m w H e σ (RX G e σ x) (fun v H' => ∃ b, v = .bl b ∧ Q' b H') (k w) := by
  unfold tst at q
  refine q.step fun d w1 u m1 H1 x1 r1 y1 q1 => ?_
  cases d <;> first | exact PostE.stk_elim (by exact q1) | skip
  exact ⟨_, y1.bl r1, PostE.val (by exact q1) r1 rfl⟩
theorem t_cmp {ea eb : Expr} {a b : Ev.X} {o : Co} (hK : X.K = G.K) (hu : X.A.units + 200 < cLine) (he : ∀ c j, C.hot = false → C.ce c = some j → EqUse G X c j ∧ FnUse G xf X j (C.cf j)) (ha : PE X ea (TB G xf Wx C a)) (hb : PE X eb (TB G xf Wx C b))
    (hm : behindInMarks o.op eb = false) : PT X (.Compare ea [o.op] [eb] pos) (TT' G xf Wx C (.cmp o a b)) :=
  pt_weak (pt_cmpR (op_co hu he o) ha hb hm) fun σ H Q ⟨m, e, w, r, q⟩ => by
    have q2 := tst_post r q
    rw [ev] at q2
    exact two (r2 := rCo G xf C X.K o) (ta := fun _ _ _ => True) (tb := fun _ _ _ => True) (k := fun x y => if isIns x && o == .eq then eqIns C e a b x y else der y >>= fun y => cmpop o x y) r q2 fun d d' u v m2 w2 H2 r2 y1 y2 q2 => cmp_post hK rfl r2 y1 y2 q2
end
end Ev

set_option maxRecDepth 100000
set_option maxHeartbeats 4000000
/-! Chains of tests, choices, slices, fields, builtins. -/
namespace Ev
open PySem PySem.Spec PyProof.Rows L2
theorem mem_ddup (k : Int) : ∀ l : List Int, k ∈ ddup l ↔ k ∈ l
  | [] => Iff.rfl
  | a :: r => by
    have ih := mem_ddup k r
    unfold ddup
    by_cases h : a ∈ r
    · rw [if_pos h, ih, List.mem_cons]
      exact ⟨.inr, fun q => q.elim (fun e => by rw [e]; exact h) id⟩
    · rw [if_neg h, List.mem_cons, List.mem_cons, ih]
theorem nodup_ddup : ∀ l : List Int, (ddup l).Nodup
  | [] => List.nodup_nil
  | a :: r => by
    unfold ddup
    by_cases h : a ∈ r
    · rw [if_pos h]; exact nodup_ddup r
    · rw [if_neg h]
      exact List.nodup_cons.mpr ⟨fun q => h ((mem_ddup a r).mp q), nodup_ddup r⟩
theorem ddup_len {l m : List Int} (hn : m.Nodup) (hm : ∀ k, k ∈ m ↔ k ∈ l) : m.length = (ddup l).length :=
  ((List.perm_ext_iff_of_nodup hn (nodup_ddup l)).mpr fun k => (hm k).trans (mem_ddup k l).symm).length_eq
theorem fold_dedup : ∀ (l acc : List Int), acc.Nodup → (l.foldl step_dedup acc).Nodup ∧ ∀ k, k ∈ l.foldl step_dedup acc ↔ k ∈ acc ∨ k ∈ l
  | [], acc, h => ⟨h, fun k => by simp⟩
  | a :: r, acc, h => by
    have hs : (step_dedup acc a).Nodup ∧ ∀ k, k ∈ step_dedup acc a ↔ k ∈ acc ∨ k = a := by
      unfold step_dedup
      by_cases hc : acc.any (· == a) = true
      · rw [if_pos hc]
        refine ⟨h, fun k => ⟨.inl, fun q => q.elim id fun e => ?_⟩⟩
        obtain ⟨x, hx, e2⟩ := List.any_eq_true.mp hc
        rw [e, ← (beq_iff_eq.mp e2)]
        exact hx
      · rw [if_neg hc]
        have hn : a ∉ acc := fun q => hc (List.any_eq_true.mpr ⟨a, q, by simp⟩)
        refine ⟨?_, fun k => by simp⟩
        rw [List.nodup_append]
        refine ⟨h, by simp, fun x hx y hy e => ?_⟩
        simp at hy
        exact hn (by rw [← hy, ← e]; exact hx)
    obtain ⟨i1, i2⟩ := fold_dedup r (step_dedup acc a) hs.1
    refine ⟨i1, fun k => ?_⟩
    rw [List.foldl_cons, i2 k, hs.2 k, List.mem_cons, or_assoc]
theorem firstMet_ddup (ns : List Int) : (firstMet (fun i => ns.getD i 0) ns.length).length = (ddup ns).length := by
  unfold firstMet
  have e : (List.range ns.length).map (fun i => ns.getD i 0) = ns := by
    apply List.ext_getElem
    · simp
    · intro i h1 h2
      simp only [List.getElem_map, List.getElem_range]
      rw [List.getD_eq_getElem?_getD, List.getElem?_eq_getElem h2]
      rfl
  rw [e]
  obtain ⟨h1, h2⟩ := fold_dedup ns [] List.nodup_nil
  exact ddup_len h1 fun k => by rw [h2 k]; simp
section
variable {X : Cx} {p p2 q pos : Pos} {a : Expr} {ta : TE}
def tLenSet (K : PySem.W.Frag) (ta : TE) : TE := fun σ H Q => ta σ H fun x H1 => ∃ (l : Addr) (ns : List Int), x = V.ref l ∧ (SqL K H1 l (ns.map V.int) ∨ SqT K H1 l (ns.map V.int)) ∧ ns.length ≤ 1000 ∧ Q (.int (ddup ns).length) H1
theorem pe_lenSet (hc : X.calm = true) (hg : Gl X "len") (hm : X.mg "len" = none) (hg2 : Gl X "set") (hm2 : X.mg "set" = none) (ha : PE X a ta)
    (na : starEach [a] X.env = (false, eval a X.env) :: starEach [] X.env) : PE X (.Call (.Name "len" p) [.Call (.Name "set" p2) [a] [] q] [] pos) (tLenSet X.K ta) := by
  refine ⟨fun pins s σ H Q I h => ?_⟩
  refine Call_ (ld_blt I hg hm PySem.boot_len ?_)
  refine PyProof.Rows.callWith_builtin1 (PyProof.Rows.args_cons ?_ rfl) rfl rfl
  refine Call_ (ld_blt I hg2 hm2 PyProof.Rows.boot_set ?_)
  refine PyProof.Rows.callWith_type1 (PyProof.Rows.args_cons (thn (ha.run pins s σ H _ I h) fun v s1 ⟨x, H1, I1, r1, q1⟩ => PyProof.Rows.args_nil ?_) na) na rfl
  obtain ⟨l, ns, rfl, hq, h1, q1⟩ := q1
  cases r1
  rcases hq with hq | hq
  · obtain ⟨its, r, pl, hz⟩ := I1.list hq
    have hl : its.toArray.size = ns.length := by rw [List.size_toArray, ← r.length, List.length_map]
    refine call_set_list (I1.ok.hd hc) pl.isList (ns := ns) (by simpa using r.ints) (by unfold scanBound; omega) fun h' tk hS hk => ?_
    rw [hl, firstMet_ddup] at hS
    refine PyProof.Rows.args_nil ?_
    obtain ⟨o, es, ep, t, ho, hex, hd, _, _, _, hf, hn⟩ := hS
    have I2 : L2.Inv X pins σ H1 { s1 with heap := h', toks := tk } := I1.kept fun b o e => hk b o (Heap.lt_size e) e
    have hle : (ddup ns).length ≤ 1000 := by
      rw [← firstMet_ddup]
      exact Nat.le_trans (firstMet_length_le _ _) h1
    refine call_len_set ho hex hd hf (by rw [hn] <;> omega) ⟨.int (ddup ns).length, H1, I2.tok _, ⟨_, by rw [hn]⟩, q1⟩
  · obtain ⟨its, r, pt, hz⟩ := I1.tuple hq
    have hi : IntsAre its.toArray.toList ns := by simpa using r.ints
    refine call_set_tupI ns (I1.ok.hd hc) (show s1.heap.IsTuple l its.toArray from pt) hi (by unfold scanBound; omega) fun h' tk c R1 hcn k => ?_
    obtain ⟨o, es, ep, t, ho, hex, hdt, g, nd, hm2, hb, hf, hn, hr, hl2⟩ := R1
    refine PyProof.Rows.args_nil ?_
    have I2 : L2.Inv X pins σ H1 { s1 with heap := h', toks := tk } := I1.kept k
    have e : c = (ddup ns).length := by
      rw [← hn, ← Array.length_toList, ← List.length_map (f := keyOf)]
      refine ddup_len nd fun j => ?_
      rw [← hm2 j, decide_eq_true_eq]
    refine call_len_set ho hex hdt hf (by rw [hn] <;> omega) ⟨.int (ddup ns).length, H1, I2.tok _, ⟨_, by rw [hn, e]⟩, q1⟩
end
end Ev

set_option maxRecDepth 100000
set_option maxHeartbeats 4000000
namespace Ev
open PySem PySem.Spec PyProof.Rows L2

section
variable {G : GG} {xf : Nat → Option Str} {Wx : L2.WX} {m m1 : Fm} {w w1 : Wd} {H H1 : Hp} {e : Env} {σ : L2.St} {C : Cfg} {X : Cx} {pos : Pos}
variable (G xf Wx) in
def TAnd (C : Cfg) (x : Xs) : TE := fun σ H Q => ∃ m e w, Rel G m e w σ H ∧ PostE G xf Wx m w H e σ (RR G) Q (evAnd C x e w)
variable (G xf Wx) in
def TAndT (C : Cfg) (x : Xs) : TT := fun σ H Q => ∃ m e w, Rel G m e w σ H ∧ PostE G xf Wx m w H e σ RB Q (tst (evAnd C x e) w)
variable (G xf Wx) in
def TOr (C : Cfg) (x : Xs) : TE := fun σ H Q => ∃ m e w, Rel G m e w σ H ∧ PostE G xf Wx m w H e σ (RR G) Q (evOr C x e w)
variable (G xf Wx) in
def TOrT (C : Cfg) (x : Xs) : TT := fun σ H Q => ∃ m e w, Rel G m e w σ H ∧ PostE G xf Wx m w H e σ RB Q (tst (evOr C x e) w)
theorem tst_nb {x : Ev.X} {Q : Bool → Hp → Prop} (r : Rel G m e w σ H) (q : PostE G xf Wx m w H e σ RB Q (tst (nb e x (ev C x e)) w)) : PostE G xf Wx m w H e σ RB Q (tst (ev C x e) w) := by
  unfold nb at q
  by_cases ho : ownV e x = true
  · rw [if_pos ho] at q; exact PostE.stk_elim (by exact q)
  · rw [if_neg ho] at q; exact q
theorem and_one {a : Expr} {x : Ev.X} (ha : PE X a (TB G xf Wx C x)) : PE X (.BoolOp .And [a] pos) (TAnd G xf Wx C (.cons x .nil)) :=
  pe_weak (pe_one (tn_of ha)) fun σ H Q ⟨m, e, w, r, q⟩ => ⟨m, e, w, r, by rw [evAnd] at q; exact q⟩
theorem or_one {a : Expr} {x : Ev.X} (ha : PE X a (TB G xf Wx C x)) : PE X (.BoolOp .Or [a] pos) (TOr G xf Wx C (.cons x .nil)) :=
  pe_weak (pe_one (tn_of ha)) fun σ H Q ⟨m, e, w, r, q⟩ => ⟨m, e, w, r, by rw [evOr] at q; exact q⟩
theorem and_oneT {a : Expr} {x : Ev.X} (ha : PT X a (TT' G xf Wx C x)) : PW X (.BoolOp .And [a] pos) (TAndT G xf Wx C (.cons x .nil)) :=
  pw_weak (pw_and1 ha) fun σ H Q ⟨m, e, w, r, q⟩ => ⟨m, e, w, r, tst_nb r (by rw [evAnd] at q; exact q)⟩
theorem or_oneT {a : Expr} {x : Ev.X} (ha : PT X a (TT' G xf Wx C x)) : PW X (.BoolOp .Or [a] pos) (TOrT G xf Wx C (.cons x .nil)) :=
  pw_weak (pw_or1 ha) fun σ H Q ⟨m, e, w, r, q⟩ => ⟨m, e, w, r, tst_nb r (by rw [evOr] at q; exact q)⟩
theorem and_cons {a b : Expr} {rest : List Expr} {x y : Ev.X} {ys : Xs} (ha : PE X a (TB G xf Wx C x)) (hb : PE X (.BoolOp .And (b :: rest) pos) (TAnd G xf Wx C (.cons y ys))) :
    PE X (.BoolOp .And (a :: b :: rest) pos) (TAnd G xf Wx C (.cons x (.cons y ys))) :=
  pe_weak (pe_and ha hb) fun σ H Q ⟨m, e, w, r, q⟩ => by
    rw [evAnd] at q
    refine ⟨m, e, w, r, tst_post r (q.step fun kk w1 u m1 H1 x1 r1 y1 q1 => ?_)⟩
    cases y1
    cases kk with
    | true => exact ⟨m1, e, w1, r1, q1⟩
    | false => exact PostE.val (d := D.bl _) (v := V.bl _) (by exact q1) r1 (R.bl _)
theorem or_cons {a b : Expr} {rest : List Expr} {x y : Ev.X} {ys : Xs} (ha : PE X a (TB G xf Wx C x)) (hb : PE X (.BoolOp .Or (b :: rest) pos) (TOr G xf Wx C (.cons y ys))) :
    PE X (.BoolOp .Or (a :: b :: rest) pos) (TOr G xf Wx C (.cons x (.cons y ys))) :=
  pe_weak (pe_or ha hb) fun σ H Q ⟨m, e, w, r, q⟩ => by
    rw [evOr] at q
    refine ⟨m, e, w, r, tst_post r (q.step fun kk w1 u m1 H1 x1 r1 y1 q1 => ?_)⟩
    cases y1
    cases kk with
    | true => exact PostE.val (d := D.bl _) (v := V.bl _) (by exact q1) r1 (R.bl _)
    | false => exact ⟨m1, e, w1, r1, q1⟩
theorem and_consT {a b : Expr} {rest : List Expr} {x y : Ev.X} {ys : Xs} (ha : PT X a (TT' G xf Wx C x)) (hb : PW X (.BoolOp .And (b :: rest) pos) (TAndT G xf Wx C (.cons y ys))) :
    PW X (.BoolOp .And (a :: b :: rest) pos) (TAndT G xf Wx C (.cons x (.cons y ys))) :=
  pw_weak (pw_and ha hb) fun σ H Q ⟨m, e, w, r, q⟩ => by
    rw [evAnd] at q
    unfold tst at q
    rw [bnd_assoc] at q
    refine ⟨m, e, w, r, PostE.step (r := tst (ev C x e)) q fun kk w1 u m1 H1 x1 r1 y1 q1 => ?_⟩
    cases y1
    cases kk with
    | true => exact ⟨m1, e, w1, r1, q1⟩
    | false => exact PostE.val (by exact q1) r1 rfl
theorem or_consT {a b : Expr} {rest : List Expr} {x y : Ev.X} {ys : Xs} (ha : PT X a (TT' G xf Wx C x)) (hb : PW X (.BoolOp .Or (b :: rest) pos) (TOrT G xf Wx C (.cons y ys))) :
    PW X (.BoolOp .Or (a :: b :: rest) pos) (TOrT G xf Wx C (.cons x (.cons y ys))) :=
  pw_weak (pw_or ha hb) fun σ H Q ⟨m, e, w, r, q⟩ => by
    rw [evOr] at q
    unfold tst at q
    rw [bnd_assoc] at q
    refine ⟨m, e, w, r, PostE.step (r := tst (ev C x e)) q fun kk w1 u m1 H1 x1 r1 y1 q1 => ?_⟩
    cases y1
    cases kk with
    | true => exact PostE.val (by exact q1) r1 rfl
    | false => exact ⟨m1, e, w1, r1, q1⟩
theorem c_and {es : List Expr} {xs : Xs} (h : PE X (.BoolOp .And es pos) (TAnd G xf Wx C xs)) : PE X (.BoolOp .And es pos) (TB G xf Wx C (.and xs)) :=
  pe_weak h fun σ H Q ⟨m, e, w, r, q⟩ => ⟨m, e, w, r, (PostE.rx rfl).mp (by rw [ev] at q; exact q)⟩
theorem c_or {es : List Expr} {xs : Xs} (h : PE X (.BoolOp .Or es pos) (TOr G xf Wx C xs)) : PE X (.BoolOp .Or es pos) (TB G xf Wx C (.or xs)) :=
  pe_weak h fun σ H Q ⟨m, e, w, r, q⟩ => ⟨m, e, w, r, (PostE.rx rfl).mp (by rw [ev] at q; exact q)⟩
theorem t_and {es : List Expr} {xs : Xs} (h : PW X (.BoolOp .And es pos) (TAndT G xf Wx C xs)) : PT X (.BoolOp .And es pos) (TT' G xf Wx C (.and xs)) :=
  pt_weak h.pt fun σ H Q ⟨m, e, w, r, q⟩ => ⟨m, e, w, r, by unfold tst at q ⊢; rw [ev] at q; exact q⟩
theorem t_or {es : List Expr} {xs : Xs} (h : PW X (.BoolOp .Or es pos) (TOrT G xf Wx C xs)) : PT X (.BoolOp .Or es pos) (TT' G xf Wx C (.or xs)) :=
  pt_weak h.pt fun σ H Q ⟨m, e, w, r, q⟩ => ⟨m, e, w, r, by unfold tst at q ⊢; rw [ev] at q; exact q⟩
theorem c_ite {ec ea eb : Expr} {c a b : Ev.X} (hc : PT X ec (TT' G xf Wx C c)) (ha : PE X ea (TB G xf Wx C a)) (hb : PE X eb (TB G xf Wx C b)) : PE X (.IfExp ec ea eb pos) (TB G xf Wx C (.ite c a b)) :=
  pe_weak (pe_ifExp hc (tn_of ha) (tn_of hb)) fun σ H Q ⟨m, e, w, r, q⟩ => by
    rw [ev] at q
    refine ⟨m, e, w, r, q.step fun kk w1 u m1 H1 x1 r1 y1 q1 => ?_⟩
    cases y1
    cases kk with
    | true => exact ⟨m1, e, w1, r1, (PostE.rx rfl).mp q1⟩
    | false => exact ⟨m1, e, w1, r1, (PostE.rx rfl).mp q1⟩
theorem pt_ifExp {c a b : Expr} {tA ta tb : TT} (hc : PT X c tA) (ha : PT X a ta) (hb : PT X b tb) : PT X (.IfExp c a b pos) (fun σ H Q => tA σ H fun k H1 => if k = true then ta σ H1 Q else tb σ H1 Q) := by
  refine ⟨fun pins s σ H Q I h => ?_⟩
  show wpAny _ _ (isTrue c X.env (eval c X.env) >>= fun k => if k = true then isTrue a X.env (eval a X.env) else isTrue b X.env (eval b X.env)) _ _ _
  refine wpAny_bind (thn (hc.run pins s σ H _ I h) fun d s1 ⟨H1, I1, q1⟩ => ?_)
  cases d with
  | true => exact ha.run pins s1 σ H1 Q I1 q1
  | false => exact hb.run pins s1 σ H1 Q I1 q1
theorem t_ite {ec ea eb : Expr} {c a b : Ev.X} (hc : PT X ec (TT' G xf Wx C c)) (ha : PT X ea (TT' G xf Wx C a)) (hb : PT X eb (TT' G xf Wx C b)) : PT X (.IfExp ec ea eb pos) (TT' G xf Wx C (.ite c a b)) :=
  pt_weak (pt_ifExp hc ha hb) fun σ H Q ⟨m, e, w, r, q⟩ => by
    rw [ev] at q
    unfold tst at q
    rw [bnd_assoc] at q
    refine ⟨m, e, w, r, PostE.step (r := tst (ev C c e)) q fun kk w1 u m1 H1 x1 r1 y1 q1 => ?_⟩
    cases y1
    cases kk with
    | true => exact ⟨m1, e, w1, r1, tst_nb r1 q1⟩
    | false => exact ⟨m1, e, w1, r1, tst_nb r1 q1⟩
theorem chain_post {o o' : Co} {x a b c : Ev.X} {Q : VK} (hK : X.K = G.K) (hx : ownV e x = false) (r : Rel G m e w σ H)
    (q : PostE G xf Wx m w H e σ (RX G e σ x) Q ((ev C a e >>= fun x => ev C b e >>= fun y => tst (cmpop o x y) >>= fun r => match r with | true => ev C c e >>= fun z => cmpop o' y z | false => pure (.bl false)) w)) :
    tChain (rCo G xf C X.K o) (rCo G xf C X.K o') (TB G xf Wx C a) (TB G xf Wx C b) (TB G xf Wx C c) σ H Q := by
  refine ⟨m, e, w, r, q.step fun d w1 u m1 H1 x1 r1 y1 q1 => ⟨m1, e, w1, r1, q1.step fun d' w2 v m2 H2 x2 r2 y2 q2 => ?_⟩⟩
  unfold tst at q2
  rw [bnd_assoc] at q2
  have q3 : PostE G xf Wx m2 w2 H2 e σ (RX G e σ (.k .non)) (fun z H3 => ∃ k, z = .bl k ∧ (if k = true then TB G xf Wx C c σ H3 fun w' H4 => rCo G xf C X.K o' v w' H4 Q else Q (.bl false) H3)) (cmpop o d d' w2) := by
    refine q2.step fun d2 w3 z m3 H3 x3 r3 y3 q3 => ?_
    cases d2 <;> first | exact PostE.stk_elim (by exact q3) | skip
    rename_i k
    refine ⟨k, y3.bl r3, ?_⟩
    cases k with
    | true =>
      simp only [if_true]
      exact ⟨m3, e, w3, r3, PostE.step (r := ev C c e) q3 fun d4 w4 v4 m4 H4 x4 r4 y4 q4 => co_post hK hx r4 ((y2.mono (x3.trans x4)).view r4) (y4.view r4) q4⟩
    | false =>
      simp only [Bool.false_eq_true, if_false]
      exact PostE.val (by exact q3) r3 ((RX.of hx).mpr (.bl _))
  exact co_post hK rfl r2 ((y1.mono x2).view r2) (y2.view r2) q3
theorem c_cmp2 {ea eb ec : Expr} {a b c : Ev.X} {o o' : Co} (hK : X.K = G.K) (hu : X.A.units + 200 < cLine) (he : ∀ c j, C.hot = false → C.ce c = some j → EqUse G X c j ∧ FnUse G xf X j (C.cf j)) (ha : PE X ea (TB G xf Wx C a)) (hb : PE X eb (TB G xf Wx C b)) (hc : PE X ec (TB G xf Wx C c))
    (hm : lastMarks [o.op, o'.op] [eb, ec] = false) : PE X (.Compare ea [o.op, o'.op] [eb, ec] pos) (TB G xf Wx C (.cmp2 o o' a b c)) :=
  pe_weak (pe_chain (op_co hu he o) (op_co hu he o') ha hb hc hm) fun σ H Q ⟨m, e, w, r, q⟩ => by
    rw [ev] at q
    exact chain_post hK rfl r q
theorem t_cmp2 {ea eb ec : Expr} {a b c : Ev.X} {o o' : Co} (hK : X.K = G.K) (hu : X.A.units + 200 < cLine) (he : ∀ c j, C.hot = false → C.ce c = some j → EqUse G X c j ∧ FnUse G xf X j (C.cf j)) (ha : PE X ea (TB G xf Wx C a)) (hb : PE X eb (TB G xf Wx C b)) (hc : PE X ec (TB G xf Wx C c))
    (hm : lastMarks [o.op, o'.op] [eb, ec] = false) : PT X (.Compare ea [o.op, o'.op] [eb, ec] pos) (TT' G xf Wx C (.cmp2 o o' a b c)) :=
  pt_weak (pt_chain (op_co hu he o) (op_co hu he o') ha hb hc hm) fun σ H Q ⟨m, e, w, r, q⟩ => by
    have q2 := tst_post r q
    rw [ev] at q2
    exact chain_post hK rfl r q2

/-! ### slices -/
variable (G xf Wx) in
def TO' (C : Cfg) (x : Xo) : TO := fun σ H Q => ∃ m e w, Rel G m e w σ H ∧ PostE G xf Wx m w H e σ (fun _ _ _ v d => v = d) Q (evo C x e w)
theorem po_no : PO X none (TO' G xf Wx C .no) := ⟨fun pins s σ H Q I ⟨m, e, w, r, q⟩ => po_none.run pins s σ H Q I (by rw [evo] at q; exact PostE.val q r rfl)⟩
theorem po_so {ea : Expr} {a : Ev.X} (h : PE X ea (TB G xf Wx C a)) : PO X (some ea) (TO' G xf Wx C (.so a)) := ⟨fun pins s σ H Q I ⟨m, e, w, r, q⟩ => (po_some h).run pins s σ H Q I (by
  rw [evo] at q
  refine ⟨m, e, w, r, q.step fun d w1 u m1 H1 x1 r1 y1 q1 => ?_⟩
  cases d <;> first | exact PostE.stk_elim (by exact q1) | skip
  exact ⟨_, y1.int r1, PostE.val (by exact q1) r1 rfl⟩)⟩
theorem cut_RA {vs : List V} {ds : List D} (h : RA G m.F m.rho w.length H vs ds) (lo hi : Option Int) : RA G m.F m.rho w.length H (cutV vs lo hi) (cut ds lo hi) := by
  unfold cutV cut
  rw [h.length]
  exact (h.drop _).take _
theorem c_sli {ea : Expr} {lo hi : Option Expr} {a : Ev.X} {xl xh : Xo} {p2 : Pos} (hK : X.K = G.K) (ha : PE X ea (TB G xf Wx C a)) (hl : PO X lo (TO' G xf Wx C xl)) (hh : PO X hi (TO' G xf Wx C xh)) : PE X (.Subscript ea (.Slice lo hi none p2) pos) (TB G xf Wx C (.sli a xl xh)) :=
  pe_weak (pe_slice (sl_list.or sl_tupA) ha hl hh) fun σ H Q ⟨m, e, w, r, q⟩ => by
    rw [ev] at q
    refine ⟨m, e, w, r, q.step fun d w1 u m1 H1 x1 r1 y1 q1 => ⟨m1, e, w1, r1, q1.step fun l w2 l' m2 H2 x2 r2 y2 q2 => ⟨m2, e, w2, r2, q2.step fun h w3 h' m3 H3 x3 r3 y3 q3 => ?_⟩⟩⟩
    have y2' : l' = l := y2
    have y3' : h' = h := y3
    subst y2' y3'
    obtain ⟨c, vw, q4, -⟩ := der_post r3 (y1.mono (x2.trans x3)) q3
    cases c <;> simp only [sliop] at q4 <;> first | exact PostE.stk_elim (by exact q4) | skip
    · obtain ⟨p, vs, rfl, t1, l1, z1⟩ := vw.tup
      refine .inr ⟨p, vs, rfl, by rw [hK]; exact t1.sq, fun hw => ?_, fun _ p' hp => ?_⟩
      · refine PostE.val q4 r3 ((RX.of rfl).mpr ?_)
        rename_i xs
        have e1 : cut xs l' h' = xs := by
          unfold cut
          rw [z1.length] at hw
          rw [hw.1, hw.2, List.drop_zero, Nat.sub_zero, List.take_length]
        rw [e1]
        exact .tup t1 l1 z1
      · refine q4.newX rfl r3 hp fun r4 => ?_
        exact .tup (.inl ⟨.inl rfl, upd_same⟩) (Nat.le_trans (cutV_length _ _ _) l1) (RA.ext (r3.new hp _).1 (cut_RA z1 _ _))
    · obtain ⟨p, vs, rfl, t1, l1, z1⟩ := vw.lst
      refine .inl ⟨p, vs, rfl, .of t1, fun p' hp => ?_⟩
      refine q4.newX rfl r3 hp fun r4 => ?_
      exact .lst (.inl rfl) upd_same (Nat.le_trans (cutV_length _ _ _) l1) (RA.ext (r3.new hp _).1 (cut_RA z1 _ _))
    · obtain ⟨p, rfl, t1, l1⟩ := vw.scr
      refine .inl ⟨p, _, rfl, by rw [hK]; exact t1, fun p' hp => ?_⟩
      refine q4.newX rfl r3 hp fun r4 => ?_
      exact .lst (.inl rfl) upd_same (Nat.le_trans (cutV_length _ _ _) (by rw [List.length_map]; exact l1)) (RA.ext (r3.new hp _).1 (cut_RA (RA.ofInts _) _ _))
theorem c_rev {ea : Expr} {a : Ev.X} {k : Nat} {p1 p2 p3 : Pos} (hK : X.K = G.K) (ha : PE X ea (TB G xf Wx C a)) : PE X (.Subscript ea (.Slice none none (some (.UnaryOp .USub (.Constant (.int 1) k p1) p2)) p3) pos) (TB G xf Wx C (.rev a)) :=
  pe_weak (pe_revL ha) fun σ H Q ⟨m, e, w, r, q⟩ => by
    rw [ev] at q
    refine ⟨m, e, w, r, q.step fun d w1 u m1 H1 x1 r1 y1 q1 => ?_⟩
    cases d <;> first | exact PostE.stk_elim (by exact q1) | skip
    obtain ⟨p, vs, rfl, t1, l1, z1⟩ := y1.lst r1
    refine ⟨p, vs, rfl, .of t1, fun p' hp => ?_⟩
    refine PostE.newX (d := .lst _) rfl (by exact q1) r1 hp fun r4 => ?_
    exact .lst (.inl rfl) upd_same (by rw [List.length_reverse]; exact l1) (RA.ext (r1.new hp _).1 z1.reverse)

/-! ### fields -/
theorem xv_none {a : Ev.X} (r : Rel G m e w σ H) : ownX e a = none := by
  cases a <;> first | rfl | skip
  rename_i i
  unfold ownX
  cases z : e[i]? with
  | none => simp [z]
  | some s => cases s with
    | exc c x => exact (r.sl i _ z).elim
    | _ => simp [z]
theorem c_fld {ea : Expr} {a : Ev.X} {f : Str} (hf : ∀ c, c < C.nc → Cls X.K (G.cl c) ∧ NoAttr X.K (G.cl c) f) (hb : attributeBase ea f X.env (eval ea X.env) = eval ea X.env) (ha : PE X ea (TB G xf Wx C a)) : PE X (.Attribute ea f pos) (TB G xf Wx C (.fld a f)) :=
  pe_weak (pe_fld ha hb) fun σ H Q ⟨m, e, w, r, q⟩ => by
    rw [ev] at q
    rw [xv_none r] at q
    refine ⟨m, e, w, r, q.step fun d w1 u m1 H1 x1 r1 y1 q1 => ?_⟩
    obtain ⟨c, vw, q2, -⟩ := der_post r1 y1 q1
    cases c <;> first | exact PostE.stk_elim (by exact q2) | skip
    rename_i c fs
    obtain ⟨p, dx, vs, rfl, t1, z1⟩ := vw.ins
    by_cases hc : c < C.nc
    · simp only [if_pos hc] at q2
      obtain ⟨d, hd, q3⟩ := ofO_post q2
      obtain ⟨v, h1, h2⟩ := z1.look hd
      exact ⟨p, _, dx, vs, v, rfl, t1, (hf c hc).1, (hf c hc).2, h1, PostE.val q3 r1 ((RX.of rfl).mpr h2)⟩
    · simp only [if_neg hc] at q2
      exact PostE.stk_elim (by exact q2)
end
end Ev

set_option maxRecDepth 100000
set_option maxHeartbeats 4000000
namespace Ev
open PySem PySem.Spec PyProof.Rows L2

theorem insI_perm (a : Int) : ∀ l : List Int, (insI a l).Perm (a :: l)
  | [] => .refl _
  | b :: r => by
    unfold insI
    by_cases h : a ≤ b
    · rw [if_pos h]
    · rw [if_neg h]
      exact ((insI_perm a r).cons b).trans (.swap a b r)
theorem sortI_perm : ∀ l : List Int, (sortI l).Perm l
  | [] => .refl _
  | a :: r => (insI_perm a (sortI r)).trans ((sortI_perm r).cons a)
theorem insI_sorted (a : Int) : ∀ l : List Int, l.Pairwise (· ≤ ·) → (insI a l).Pairwise (· ≤ ·)
  | [], _ => by simp [insI]
  | b :: r, h => by
    unfold insI
    have hb := List.pairwise_cons.mp h
    by_cases hab : a ≤ b
    · rw [if_pos hab]
      exact List.pairwise_cons.mpr ⟨fun x hx => (List.mem_cons.mp hx).elim (fun e => e ▸ hab) fun hx => Int.le_trans hab (hb.1 x hx), h⟩
    · rw [if_neg hab]
      refine List.pairwise_cons.mpr ⟨fun x hx => ?_, insI_sorted a r hb.2⟩
      rcases List.mem_cons.mp ((insI_perm a r).mem_iff.mp hx) with e | e
      · rw [e]; omega
      · exact hb.1 x e
theorem sortI_sorted : ∀ l : List Int, (sortI l).Pairwise (· ≤ ·)
  | [] => .nil
  | a :: r => insI_sorted a _ (sortI_sorted r)
theorem sortI_eq {l k : List Int} (hp : k.Perm l) (hs : k.Pairwise (· ≤ ·)) : k = sortI l :=
  List.Perm.eq_of_pairwise (fun x y _ _ h1 h2 => Int.le_antisymm h1 h2) hs (sortI_sorted l) (hp.trans (sortI_perm l).symm)
theorem foldMax (l : List Int) : ∀ a : Int, (l.foldl (fun x y => if x < y then y else x) a ∈ a :: l) ∧ ∀ y ∈ a :: l, y ≤ l.foldl (fun x y => if x < y then y else x) a := by
  induction l with
  | nil => intro a; simp
  | cons b r ih =>
    intro a
    rw [List.foldl_cons]
    have hc : (if a < b then b else a) = a ∨ (if a < b then b else a) = b := by split <;> simp
    have hg : a ≤ (if a < b then b else a) ∧ b ≤ (if a < b then b else a) := by split <;> omega
    generalize (if a < b then b else a) = c at hc hg ⊢
    obtain ⟨h1, h2⟩ := ih c
    have hm := h2 c List.mem_cons_self
    refine ⟨?_, fun y hy => ?_⟩
    · rcases List.mem_cons.mp h1 with e | e
      · rw [e]; rcases hc with e | e <;> rw [e] <;> simp
      · exact List.mem_cons_of_mem _ (List.mem_cons_of_mem _ e)
    · rcases List.mem_cons.mp hy with e | e
      · subst e; omega
      · rcases List.mem_cons.mp e with e | e
        · subst e; omega
        · exact h2 y (List.mem_cons_of_mem _ e)
theorem foldMin (l : List Int) : ∀ a : Int, (l.foldl (fun x y => if y < x then y else x) a ∈ a :: l) ∧ ∀ y ∈ a :: l, l.foldl (fun x y => if y < x then y else x) a ≤ y := by
  induction l with
  | nil => intro a; simp
  | cons b r ih =>
    intro a
    rw [List.foldl_cons]
    have hc : (if b < a then b else a) = a ∨ (if b < a then b else a) = b := by split <;> simp
    have hg : (if b < a then b else a) ≤ a ∧ (if b < a then b else a) ≤ b := by split <;> omega
    generalize (if b < a then b else a) = c at hc hg ⊢
    obtain ⟨h1, h2⟩ := ih c
    have hm := h2 c List.mem_cons_self
    refine ⟨?_, fun y hy => ?_⟩
    · rcases List.mem_cons.mp h1 with e | e
      · rw [e]; rcases hc with e | e <;> rw [e] <;> simp
      · exact List.mem_cons_of_mem _ (List.mem_cons_of_mem _ e)
    · rcases List.mem_cons.mp hy with e | e
      · subst e; omega
      · rcases List.mem_cons.mp e with e | e
        · subst e; omega
        · exact h2 y (List.mem_cons_of_mem _ e)

section
variable {G : GG} {xf : Nat → Option Str} {Wx : L2.WX} {m m1 : Fm} {w w1 : Wd} {H H1 : Hp} {e : Env} {σ : L2.St} {C : Cfg} {X : Cx} {pos : Pos}
theorem RA.ints_of {n : Nat} {F : Pr} {rho : Nat → Addr} {vs : List V} {ds : List D} {ns : List Int} (h : RA G F rho n H vs ds) (q : intsD ds = some ns) : vs = ns.map V.int := by
  induction vs generalizing ds ns with
  | nil => cases h; cases q; rfl
  | cons v vs ih => cases h with
    | @cons _ d _ ds a b =>
      cases d <;> simp only [intsD] at q <;> first | cases q | skip
      cases a
      cases z : intsD ds with
      | none => rw [z] at q; cases q
      | some k =>
        rw [z] at q
        cases q
        rw [List.map_cons, ih b z]
theorem RA.bls_of {n : Nat} {F : Pr} {rho : Nat → Addr} {vs : List V} {ds : List D} {ns : List Bool} (h : RA G F rho n H vs ds) (q : boolsD ds = some ns) : vs = ns.map V.bl := by
  induction vs generalizing ds ns with
  | nil => cases h; cases q; rfl
  | cons v vs ih => cases h with
    | @cons _ d _ ds a b =>
      cases d <;> simp only [boolsD] at q <;> first | cases q | skip
      cases a
      cases z : boolsD ds with
      | none => rw [z] at q; cases q
      | some k =>
        rw [z] at q
        cases q
        rw [List.map_cons, ih b z]
theorem RK.ints_of {n : Nat} {F : Pr} {rho : Nat → Addr} {vs : List (Key × V)} {ds : List (D × D)} {ns : List Int} (h : RK G F rho n H vs ds) (q : intsD (ds.map (·.1)) = some ns) : vs.map (·.1) = ns.map Sum.inl := by
  induction vs generalizing ds ns with
  | nil => cases h; cases q; rfl
  | cons v vs ih => cases h with
    | @cons k _ d _ ds a b =>
      cases k with
      | inr x => simp [intsD, keyD] at q
      | inl i =>
        simp only [List.map_cons, keyD, intsD] at q
        cases z : intsD (ds.map (·.1)) with
        | none => rw [z] at q; cases q
        | some k =>
          rw [z] at q
          cases q
          rw [List.map_cons, List.map_cons, ih b z]
theorem onInts_post {α β : Type} {Rl : Fm → Wd → Hp → β → D → Prop} {Q : β → Hp → Prop} {xs : List D} {f : List Int → M D} (h : PostE G xf Wx m w H e σ Rl Q (onInts xs f w)) : ∃ ns, intsD xs = some ns ∧ PostE G xf Wx m w H e σ Rl Q (f ns w) := by
  unfold onInts at h
  cases z : intsD xs with
  | none => rw [z] at h; exact PostE.stk_elim (by exact h)
  | some ns => rw [z] at h; exact ⟨ns, rfl, h⟩
/-- the rule of each builtin of one argument -/
def rLenA (K : PySem.W.Frag) : List V → Hp → VK → Prop := fun xs H Q => (∃ x n, xs = [x] ∧ LenV K x H n ∧ Q (.int n) H) ∨ ∃ a kvs, xs = [V.ref a] ∧ H a = some (.dK kvs) ∧ Q (.int kvs.length) H
theorem CallR.or {X : Cx} {f : Value} {r r' : List V → Hp → VK → Prop} (h : CallR X f r) (h' : CallR X f r') : CallR X f (fun xs H Q => r xs H Q ∨ r' xs H Q) := by
  intro pins s σ H xs us Q I rs q
  rcases q with q | q
  · exact h pins s σ H xs us Q I rs q
  · exact h' pins s σ H xs us Q I rs q
def rSortA (K : PySem.W.Frag) : List V → Hp → VK → Prop := fun xs H Q => rSorted K xs H Q ∨ ∃ (a : Addr) (kvs : List (Key × V)) (ks : List Int), xs = [.ref a] ∧ Rd H a (.dK kvs) ∧ kvs.map (·.1) = ks.map Sum.inl ∧ ks.length < 64 ∧
    ∀ (ys : List Int) (p : Addr), ys.Perm ks → ys.Pairwise (· ≤ ·) → H p = none → Q (.ref p) (upd H p (.lst (ys.map V.int)))
/-- which builtin it is -/
def B1.at : B1 → Option (String × Value)
  | .len => some ("len", .builtin "len") | .tuple => some ("tuple", .type "tuple") | .list => some ("list", .type "list") | .int => some ("int", .type "int") | .abs => some ("abs", .builtin "abs")
  | .all => some ("all", .builtin "all") | .any => some ("any", .builtin "any") | .sum => some ("sum", .builtin "sum") | .max => some ("max", .builtin "max") | .min => some ("min", .builtin "min") | .sorted => some ("sorted", .builtin "sorted")
  | _ => none
/-- may stand within an except suite -/
def B1.hot : B1 → Bool
  | .len => true | .tuple => true | .list => true | .int => true | .abs => true | _ => false
theorem RF_int (n : List Int) {F : Pr} {rho : Nat → Addr} {k : Nat} : RA G F rho k H (n.map V.int) (n.map D.int) := RA.ofInts n
def rB1 (K : PySem.W.Frag) : B1 → List V → Hp → VK → Prop
  | .len => rLenA K
  | .tuple => fun xs H Q => ∃ p ys, xs = [.ref p] ∧ ((SqL K H p ys ∧ ∀ l, H l = none → Q (.ref l) (upd H l (.tup ys))) ∨ (SqT K H p ys ∧ Q (.ref p) H))
  | .list => fun xs H Q => ∃ p ys, xs = [.ref p] ∧ (SqL K H p ys ∨ SqT K H p ys) ∧ ∀ l, H l = none → Q (.ref l) (upd H l (.lst ys))
  | .int => fun xs H Q => (∃ i, xs = [.int i] ∧ Q (.int i) H) ∨ ∃ k, xs = [.bl k] ∧ Q (.int (if k then 1 else 0)) H
  | .abs => fun xs H Q => ∃ i, xs = [.int i] ∧ Q (.int (if i < 0 then -i else i)) H
  | .all => rAll K
  | .any => rAny K
  | .sum => rSum K
  | .max => rMax K
  | .min => rMin K
  | .sorted => rSortA K
  | _ => fun _ _ _ => False
theorem b1_rule {b : B1} {p : String × Value} (h : b.at = some p) (hc : b.hot = true ∨ X.calm = true) : CallR X p.2 (rB1 X.K b) := by
  cases b <;> cases h
  · exact call_len.or call_lenD
  · exact call_tuple_of
  · exact call_list_of
  · exact call_int1
  · exact call_abs
  · exact cr_all (hc.elim (fun z => nomatch z) id)
  · exact cr_any (hc.elim (fun z => nomatch z) id)
  · exact cr_sum (hc.elim (fun z => nomatch z) id)
  · exact cr_max (hc.elim (fun z => nomatch z) id)
  · exact cr_min (hc.elim (fun z => nomatch z) id)
  · exact cr_sorted.or (call_sortedDI (hc.elim (fun z => nomatch z) id))
theorem b1_post {b : B1} {x : Ev.X} {d : D} {v : V} {Q : VK} (hK : X.K = G.K) (hx : ownV e x = false) (r : Rel G m e w σ H) (vw : View G m w H v d) (q : PostE G xf Wx m w H e σ (RX G e σ x) Q (b1op b d w)) : rB1 X.K b [v] H Q := by
  have hint : ∀ {u : V} {i : Int}, View G m w H u (.int i) → u = .int i := fun h => by
    rcases h.flat rfl with ⟨z, _⟩ | ⟨b, z, _⟩ | ⟨b, z, h⟩ | ⟨b, z, _⟩ <;> cases z
    exact h
  cases b <;> cases d <;> simp only [b1op] at q <;> first | exact PostE.stk_elim (by exact q) | skip
  -- len
  · obtain ⟨p, vs, rfl, t1, l1, z1⟩ := vw.tup
    refine .inl ⟨_, vs.length, rfl, .inr ⟨vs, by rw [hK]; exact t1.sq, rfl⟩, ?_⟩
    rw [z1.length]
    exact PostE.val q r ((RX.of hx).mpr (.int _))
  · obtain ⟨p, vs, rfl, t1, l1, z1⟩ := vw.lst
    refine .inl ⟨_, vs.length, rfl, .inl ⟨vs, .of t1, rfl⟩, ?_⟩
    rw [z1.length]
    exact PostE.val q r ((RX.of hx).mpr (.int _))
  · obtain ⟨p, vs, rfl, t1, l1, z1⟩ := vw.dic
    refine .inr ⟨_, vs, rfl, t1, ?_⟩
    rw [z1.length]
    exact PostE.val q r ((RX.of hx).mpr (.int _))
  · obtain ⟨p, rfl, t1, l1⟩ := vw.scr
    refine .inl ⟨_, _, rfl, .inl ⟨_, by rw [hK]; exact t1, rfl⟩, ?_⟩
    rw [List.length_map]
    exact PostE.val q r ((RX.of hx).mpr (.int _))
  -- tuple
  · obtain ⟨p, vs, rfl, t1, l1, z1⟩ := vw.tup
    exact ⟨p, vs, rfl, .inr ⟨by rw [hK]; exact t1.sq, PostE.val q r ((RX.of hx).mpr (.tup t1 l1 z1))⟩⟩
  · obtain ⟨p, vs, rfl, t1, l1, z1⟩ := vw.lst
    refine ⟨p, vs, rfl, .inl ⟨.of t1, fun p' hp => q.newX hx r hp fun r4 => ?_⟩⟩
    exact .tup (.inl ⟨.inl rfl, upd_same⟩) l1 (RA.ext (r.new hp _).1 z1)
  -- list
  · obtain ⟨p, vs, rfl, t1, l1, z1⟩ := vw.tup
    refine ⟨p, vs, rfl, .inr (by rw [hK]; exact t1.sq), fun p' hp => q.newX hx r hp fun r4 => ?_⟩
    exact .lst (.inl rfl) upd_same l1 (RA.ext (r.new hp _).1 z1)
  · obtain ⟨p, vs, rfl, t1, l1, z1⟩ := vw.lst
    refine ⟨p, vs, rfl, .inl (.of t1), fun p' hp => q.newX hx r hp fun r4 => ?_⟩
    exact .lst (.inl rfl) upd_same l1 (RA.ext (r.new hp _).1 z1)
  · obtain ⟨p, rfl, t1, l1⟩ := vw.scr
    refine ⟨p, _, rfl, .inl (by rw [hK]; exact t1), fun p' hp => q.newX hx r hp fun r4 => ?_⟩
    exact .lst (.inl rfl) upd_same (by rw [List.length_map]; exact l1) (RF_int _)
  -- int
  · rw [hint vw]
    exact .inl ⟨_, rfl, PostE.val q r ((RX.of hx).mpr (.int _))⟩
  -- abs
  · rw [hint vw]
    exact ⟨_, rfl, PostE.val q r ((RX.of hx).mpr (.int _))⟩
  -- all
  · rename_i xs
    obtain ⟨p, vs, rfl, t1, l1, z1⟩ := vw.lst
    cases z : boolsD xs with
    | none => rw [z] at q; exact PostE.stk_elim (by exact q)
    | some bs =>
      rw [z] at q
      have e1 := z1.bls_of z
      subst e1
      exact ⟨p, bs, rfl, .of t1, PostE.val q r ((RX.of hx).mpr (.bl _))⟩
  -- any
  · rename_i xs
    obtain ⟨p, vs, rfl, t1, l1, z1⟩ := vw.lst
    cases z : boolsD xs with
    | none => rw [z] at q; exact PostE.stk_elim (by exact q)
    | some bs =>
      rw [z] at q
      have e1 := z1.bls_of z
      subst e1
      exact ⟨p, bs, rfl, .of t1, PostE.val q r ((RX.of hx).mpr (.bl _))⟩
  -- sum
  · obtain ⟨p, vs, rfl, t1, l1, z1⟩ := vw.lst
    obtain ⟨ns, hn, q⟩ := onInts_post (α := D) q
    have e1 := z1.ints_of hn
    subst e1
    exact ⟨p, ns, rfl, .of t1, PostE.val q r ((RX.of hx).mpr (.int _))⟩
  -- max
  · obtain ⟨p, vs, rfl, t1, l1, z1⟩ := vw.lst
    obtain ⟨ns, hn, q⟩ := onInts_post (α := D) q
    have e1 := z1.ints_of hn
    subst e1
    obtain ⟨d, hd, q⟩ := ofO_post q
    cases ns with
    | nil => cases hd
    | cons a l =>
      obtain ⟨f1, f2⟩ := foldMax l a
      cases hd
      refine ⟨p, a :: l, rfl, .of t1, by simp, fun k h1 h2 => ?_⟩
      have : k = l.foldl (fun x y => if x < y then y else x) a := Int.le_antisymm (f2 k h1) (h2 _ f1)
      rw [this]
      exact PostE.val q r ((RX.of hx).mpr (.int _))
  -- min
  · obtain ⟨p, vs, rfl, t1, l1, z1⟩ := vw.lst
    obtain ⟨ns, hn, q⟩ := onInts_post (α := D) q
    have e1 := z1.ints_of hn
    subst e1
    obtain ⟨d, hd, q⟩ := ofO_post q
    cases ns with
    | nil => cases hd
    | cons a l =>
      obtain ⟨f1, f2⟩ := foldMin l a
      cases hd
      refine ⟨p, a :: l, rfl, .of t1, by simp, fun k h1 h2 => ?_⟩
      have : k = l.foldl (fun x y => if y < x then y else x) a := Int.le_antisymm (h2 _ f1) (f2 k h1)
      rw [this]
      exact PostE.val q r ((RX.of hx).mpr (.int _))
  -- sorted
  · obtain ⟨p, vs, rfl, t1, l1, z1⟩ := vw.lst
    obtain ⟨ns, hn, q⟩ := onInts_post (α := D) q
    obtain ⟨h64, q⟩ := q.grd
    have e1 := z1.ints_of hn
    subst e1
    refine .inl ⟨p, ns, rfl, .of t1, h64, fun ns' p' hp hs hn' => ?_⟩
    have e2 := sortI_eq hp hs
    subst e2
    refine q.newX hx r hn' fun r4 => ?_
    exact .lst (.inl rfl) upd_same (by rw [List.length_map, (sortI_perm ns).length_eq]; exact Nat.le_of_lt (Nat.lt_of_lt_of_le h64 (by decide))) (RF_int _)
  · obtain ⟨p, vs, rfl, t1, l1, z1⟩ := vw.dic
    obtain ⟨ns, hn, q⟩ := onInts_post (α := D) q
    obtain ⟨h64, q⟩ := q.grd
    refine .inr ⟨p, vs, ns, rfl, .of t1, z1.ints_of hn, h64, fun ns' p' hp hs hn' => ?_⟩
    have e2 := sortI_eq hp hs
    subst e2
    refine q.newX hx r hn' fun r4 => ?_
    exact .lst (.inl rfl) upd_same (by rw [List.length_map, (sortI_perm ns).length_eq]; exact Nat.le_of_lt (Nat.lt_of_lt_of_le h64 (by decide))) (RF_int _)
theorem TB1 {a x : Ev.X} {Q : VK} {k : D → M D} {rr : List V → Hp → VK → Prop} (r : Rel G m e w σ H) (q : PostE G xf Wx m w H e σ (RX G e σ x) Q ((ev C a e >>= fun d => der d >>= k) w))
    (h : ∀ d v m2 w2 H2, Rel G m2 e w2 σ H2 → View G m2 w2 H2 v d → PostE G xf Wx m2 w2 H2 e σ (RX G e σ x) Q (k d w2) → rr [v] H2 Q) : TB G xf Wx C a σ H fun v H1 => rr [v] H1 Q :=
  ⟨m, e, w, r, q.step fun d w1 u m1 H1 x1 r1 y1 q1 => by
    obtain ⟨c, vw, q2, _⟩ := der_post r1 y1 q1
    exact h c u m1 w1 H1 r1 vw q2⟩
theorem c_b1 {b : B1} {ea : Expr} {a : Ev.X} {n : String} {f : Value} {p : Pos} (hb : b.at = some (n, f)) (hK : X.K = G.K) (hc : b.hot = true ∨ X.calm = true) (hg : Gl X n) (hm : X.mg n = none) (ha : PE X ea (TB G xf Wx C a))
    (hs : starEach [ea] X.env = (false, eval ea X.env) :: starEach [] X.env) : PE X (.Call (.Name n p) [ea] [] pos) (TB G xf Wx C (.b1 b a)) := by
  have go : ∀ σ H Q, TB G xf Wx C (.b1 b a) σ H Q → tCB (rB1 X.K b) (tCons (TB G xf Wx C a) tNil) σ H Q := fun σ H Q ⟨m, e, w, r, q⟩ => by
    rw [ev] at q
    exact TB1 (rr := rB1 X.K b) r q fun d v m2 w2 H2 r2 vw q2 => b1_post hK rfl r2 vw q2
  have rule := b1_rule (X := X) hb hc
  have pa : PA X [ea] (tCons (TB G xf Wx C a) tNil) := pa_cons ha pa_nil hs
  cases b <;> cases hb <;> refine pe_weak ?_ go <;>
    first
    | exact pe_callB rule hg hm (by decide +kernel) pa (hn := by decide) (hdb := by decide) (he := hs)
    | exact pe_callTy rule hg hm (by decide +kernel) pa (hn := by decide) (hdb := by decide) (he := hs)
end
end Ev

set_option maxRecDepth 100000
set_option maxHeartbeats 4000000
namespace Ev
open PySem PySem.Spec PyProof.Rows L2

section
variable (G : GG) (xf : Nat → Option Str)
def PostI (m : Fm) (w : Wd) (H : Hp) (x : Addr) (Q : VK) (E : XK) : Rs D → Prop
  | .ok d w' => ∀ m' H', Ext m w H m' w' H' → RelW G m' w' H' → Own G m'.F m'.rho w'.length H' x d → ¬ m'.F x → ¬ m'.P x → (∀ k, k < w'.length → m'.rho k ≠ x) → Q .non H'
  | .exc c x w' => ∀ pn m' H', Ext m w H m' w' H' → RelW G m' w' H' → XAt G xf m' w' H' c x pn → E (.ref (G.cl c)) pn H'
  | .stk => False
/-- the promise of an __init__ -/
def spIni (c : Nat) (r : List D → M D) : Sp := fun vs H Q E => ∃ m w ds x dx vs', vs = .ref x :: vs' ∧ RelW G m w H ∧ RA G m.F m.rho w.length H vs' ds ∧ H x = some (.ins (G.cl c) dx []) ∧ ¬ m.F x ∧ ¬ m.P x ∧ (∀ k, k < w.length → m.rho k ≠ x) ∧
  PostI G xf m w H x Q E (r ds w)
end
structure MkUse (G : GG) (xf : Nat → Option Str) (X : Cx) (c : Nat) (r : List D → M D) : Prop where
  ok : ∃ k f fd ps, Mk X.K (G.cl c) f ∧ FnOk X.prog X.w X.K X.mg X.base (L2.CX X.prog X.w) k f fd ps (spIni G xf c r) ∧ Room (k + 1) X.A ∧ Binds X.K fd ps []

section
variable {X : Cx} {k : Nat} {C f : Addr} {fd : FuncData} {ps : List Str} {sp : Sp} {E : L2.St → XK} {x : Str} {p pos : Pos} {e : Expr} {es : List Expr} {t : TA}
/-- pe_make, what is raised wished for at the slots -/
def tMakeS (C : Addr) (sp : Sp) (E : L2.St → XK) (t : TA) : TE := fun σ H Q => t σ H fun vs H1 => ∀ x dx, H1 x = none → H1 dx = none → dx ≠ x →
  sp (.ref x :: vs) (upd (upd H1 dx (.own x)) x (.ins C dx [])) (fun v H2 => v = .non ∧ Q (.ref x) H2) (E σ)
theorem run_makeS {pins : List (Addr × Obj)} {σ : L2.St} {H : Hp} {s : Shared} {Q : VK} {us : List Value} {vs : List V} (M : Mk X.K C f) (F : FnOk X.prog X.w X.K X.mg X.base (L2.CX X.prog X.w) k f fd ps sp) (hr : Room (k + 1) X.A) (hb : Binds X.K fd ps [])
    (hx : PassesAt (L2.CX X.prog X.w) X σ (E σ)) (I : L2.Inv X pins σ H s) (r : Vals vs us)
    (h : ∀ x dx, H x = none → H dx = none → dx ≠ x → sp (.ref x :: vs) (upd (upd H dx (.own x)) x (.ins C dx [])) (fun v H2 => v = .non ∧ Q (.ref x) H2) (E σ)) :
    wpAny (model X.prog X.w) X.A (call (.ref C) us) (EP X pins σ Q) X.xe s := by
  have hq := h (s.heap.objs.size + 1) s.heap.objs.size (I.hok.fresh (Nat.le_succ _)) (I.hok.fresh (Nat.le_refl _)) (Nat.ne_of_lt (Nat.lt_succ_self _))
  have I2 := Inv.made (C := C) I
  have r2 : Vals (V.ref (s.heap.objs.size + 1) :: vs) (Value.ref (s.heap.objs.size + 1) :: us) := .cons rfl r
  have hl : (Value.ref (s.heap.objs.size + 1) :: us ++ []).length = ps.length := by
    have e := r2.length
    rw [F.len _ _ _ _ hq] at e
    rw [List.append_nil]
    exact e.symm
  have bb := hb _ (Value.ref (s.heap.objs.size + 1) :: us) I2.kIn hl
  rw [List.append_nil] at bb
  refine wpAny_call (make_map (f := f) I.kIn M.makes M.init (beq_iff_eq.mp M.fn) (codeAny_mono (F.run _ X.stack _ _ ⟨Value.ref (s.heap.objs.size + 1) :: us, []⟩ (Value.ref (s.heap.objs.size + 1) :: us) _ _ (E σ) (hr.make C us [])
    (I2.env0.make C us []) bb r2 hq) fun r s' hq' => ?_))
  cases r with
  | error e => exact hx pins _ _ e s' I2 hq'
  | ok fl =>
    cases fl with
    | ret u =>
      obtain ⟨v, H', I3, rv, ev, q3⟩ := I2.after hq'
      subst ev
      exact ⟨rv, ⟨V.ref (s.heap.objs.size + 1), H', I3, rfl, q3⟩⟩
    | next => exact False.elim hq'
    | brk => exact False.elim hq'
    | cont => exact False.elim hq'
theorem pe_makeS (M : Mk X.K C f) (F : FnOk X.prog X.w X.K X.mg X.base (L2.CX X.prog X.w) k f fd ps sp) (hr : Room (k + 1) X.A) (hg : Gl X x) (hm : X.mg x = some (.ref C)) (hb : Binds X.K fd ps []) (hx : ∀ σ, PassesAt (L2.CX X.prog X.w) X σ (E σ))
    (ha : PA X (e :: es) t) (hdb : (x == ("__debug__" : Str)) = false) (he : starEach (e :: es) X.env = (false, eval e X.env) :: starEach es X.env) (hpl : (backTo pos (starEach es X.env)).any (·.1) = false) :
    PE X (.Call (.Name x p) (e :: es) [] pos) (tMakeS C sp E t) := by
  refine ⟨fun pins s σ H Q I h => ?_⟩
  refine wpAny_Call_Name_kw (ld_glob I hg hm ?_ hdb)
  refine PySem.W.callWith_K (h₀ := X.base) I.ok.mod.kin M.kp (thn (ha.run pos pins s σ H _ I h) fun us s1 ⟨vs, H1, I1, r, q⟩ => ⟨I1.kIn, ?_⟩) he hpl
  exact run_makeS M F hr hb (hx σ) I1 r q
end

section
variable {G : GG} {xf : Nat → Option Str} {Wx : L2.WX} {m m' m1 : Fm} {w w' w1 : Wd} {H H' H1 : Hp} {e : Env} {σ : L2.St} {C : Cfg} {X : Cx} {pos : Pos}
/-- an object that nobody holds is named by values from now on -/
theorem Rel.hand (r : Rel G m e w σ H) {x : Addr} (h0 : H x ≠ none) (hP : ¬ m.P x) (hr : ∀ k, k < w.length → m.rho k ≠ x) (ho : ∀ i d, e[i]? = some (.own d) → m.oa i ≠ x) : Ext m w H (m.add x) w H ∧ Rel G (m.add x) e w σ H := by
  have hF : ∀ a, m.F a → (m.add x).F a := fun a h => .inr h
  refine ⟨⟨rfl, hF, fun _ _ => rfl, fun _ _ => rfl, Nat.le_refl _, fun _ _ => rfl, rfl⟩, ⟨⟨fun k d h => ?_, r.inj, fun a h => ?_, r.allP, fun a h q => ?_⟩, r.len, fun i s h => ?_, r.oinj⟩⟩
  · obtain ⟨h1, h2, h3⟩ := r.cell k d h
    refine ⟨h1.mono hF (fun _ _ => rfl) (Nat.le_refl _) (fun _ _ => rfl) rfl, fun q => ?_, h3⟩
    rcases q with q | q
    · exact hr k (List.getElem?_eq_some_iff.mp h).1 q
    · exact h2 q
  · rcases h with rfl | h
    · exact h0
    · exact r.allF a h
  · rcases q with rfl | q
    · exact hP h
    · exact r.FP a h q
  · have q := r.sl i s h
    cases s with
    | un => trivial
    | val d =>
      obtain ⟨v, h1, h2⟩ := q
      exact ⟨v, h1, h2.mono hF (fun _ _ => rfl) (Nat.le_refl _) fun _ _ => rfl⟩
    | own d =>
      obtain ⟨h1, h2, h3, h4, h5⟩ := q
      refine ⟨h1, h2.mono hF (fun _ _ => rfl) (Nat.le_refl _) (fun _ _ => rfl) rfl, fun z => ?_, h4, h5⟩
      rcases z with z | z
      · exact ho i d h z
      · exact h3 z
    | exc c x => exact q
theorem c_mk {x : Str} {p : Pos} {c : Nat} {a : Expr} {as : List Expr} {xs : Xs} (hh : C.hot = false → MkUse G xf X c (C.cm c)) (tk : Takes X Wx) (hg : Gl X x) (hm : X.mg x = some (.ref (G.cl c))) (ha : PA X (a :: as) (TS' G xf Wx C xs))
    (hdb : (x == ("__debug__" : Str)) = false) (he : starEach (a :: as) X.env = (false, eval a X.env) :: starEach as X.env) (hpl : (backTo pos (starEach as X.env)).any (·.1) = false) : PE X (.Call (.Name x p) (a :: as) [] pos) (TB G xf Wx C (.mk c xs)) := by
  by_cases hc : C.hot = true
  · refine ⟨fun pins s σ H Q I ⟨m, e, w, r, q⟩ => ?_⟩
    rw [ev] at q
    have := (calm_post q).1
    rw [hc] at this; cases this
  · obtain ⟨k, f, fd, ps, M, F, hr, hb⟩ := (hh (by simpa using hc)).ok
    refine pe_weak (pe_makeS M F hr hg hm hb (passAt tk) ha hdb he hpl) fun σ H Q ⟨m, e, w, r, q⟩ => ?_
    rw [ev] at q
    obtain ⟨_, q⟩ := calm_post q
    refine ⟨m, e, w, r, q.step fun ds w1 vs m1 H1 x1 r1 y1 q1 => fun x dx hx hdx hne => ?_⟩
    have q1 := (PostE.rx rfl).mp q1
    obtain ⟨xa, ra⟩ := r1.lay hdx (.own x)
    have hx2 : upd H1 dx (.own x) x = none := by rw [upd_ne hne.symm]; exact hx
    obtain ⟨xb, rb⟩ := ra.lay hx2 (.ins (G.cl c) dx [])
    obtain ⟨f1, f2, f3⟩ := ra.toRelW.free hx2
    have f4 : ∀ i d, e[i]? = some (.own d) → m1.oa i ≠ x := fun i d h => ra.oaNe hx2 h
    refine ⟨m1.call e, w1, ds, x, dx, vs, rfl, rb.toCall, RA.ext (xa.trans xb) y1, upd_same, f1, fun z => ?_, f3, ?_⟩
    · rcases z with z | ⟨i, d, h4, h5⟩
      · exact f2 z
      · exact f4 i d h4 h5
    · cases z : C.cm c ds w1 with
      | ok d w' =>
        rw [z] at q1
        intro m' H' x' r' o nF nP nr
        obtain ⟨xc, rc⟩ := rb.back x' r'
        have nP' : ¬ (m1.back m').P x := f2
        obtain ⟨xd, rd⟩ := rc.hand (x := x) o.there nP' nr f4
        refine ⟨rfl, q1 (.ref x) _ H' (((xa.trans xb).trans xc).trans xd) rd ?_⟩
        exact Own.frz (.inl rfl) (o.mono (fun a h => .inr h) (fun _ _ => rfl) (Nat.le_refl _) (fun _ _ => rfl) rfl)
      | exc c' x' w' =>
        rw [z] at q1
        intro pn m' H' x2 r' y
        obtain ⟨xc, rc⟩ := rb.back x2 r'
        exact q1 pn _ H' ((xa.trans xb).trans xc) rc y
      | stk => rw [z] at q1; exact q1

/-! ### a def that a name holds -/
theorem c_cav {x : Str} {p : Pos} {i : Nat} {a : Expr} {as : List Expr} {xs : Xs} (hh : C.hot = false → ∀ j, j < C.nf → FnUse G xf X j (C.cf j)) (tk : Takes X Wx) (hN : X.N[i]? = some x) (hv : Vis X.env.scope x) (hcd : (x == ("__classdict__" : Str)) = false)
    (ha : PA X (a :: as) (TS' G xf Wx C xs)) (hdb : (x == ("__debug__" : Str)) = false) (he : starEach (a :: as) X.env = (false, eval a X.env) :: starEach as X.env) (hpl : (backTo pos (starEach as X.env)).any (·.1) = false) :
    PE X (.Call (.Name x p) (a :: as) [] pos) (TB G xf Wx C (.cav i xs)) := by
  refine ⟨fun pins s σ H Q I ⟨m, e, w, r, q⟩ => ?_⟩
  rw [ev] at q
  obtain ⟨hc, q⟩ := calm_post q
  have q0 : PostE G xf Wx m w H e σ (RX G e σ (.v i)) (fun v H1 => ∃ j, v = .ref (G.fa j) ∧ FnUse G xf X j (C.cf j) ∧ TS' G xf Wx C xs σ H1 fun vs H2 => spOf G xf (C.cf j) vs H2 Q (WE Wx σ)) (getV e i w) := by
    refine q.step fun d w1 u m1 H1 x1 r1 y1 q1 => ?_
    cases d <;> first | exact PostE.stk_elim (by exact q1) | skip
    rename_i j
    by_cases hj : j < C.nf
    · simp only [if_pos hj] at q1
      exact ⟨j, y1.fn r1, hh hc j hj, m1, e, w1, r1, q1.step fun ds w2 vs m2 H2 x2 r2 y2 q2 => call_post r2 y2 ((PostE.rx rfl).mp q2)⟩
    · simp only [if_neg hj] at q1
      exact PostE.stk_elim (by exact q1)
  refine wpAny_Call_Name_kw (thn ((pe_var hN hv hdb hcd).run pins s σ H _ I (getV_post r q0)) fun f s1 ⟨v, H1, I1, rv, j, ev', U, t⟩ => ?_)
  subst ev'
  obtain ⟨k, fd, ps, F, hr, hb, hk⟩ := U.ok
  cases rv
  refine PySem.W.callWith_K (h₀ := X.base) I1.ok.mod.kin hk (thn (ha.run pos pins s1 σ H1 _ I1 t) fun us s2 ⟨vs, H2, I2, rs, q2⟩ => ⟨I2.kIn, ?_⟩) he hpl
  exact run_fnS F hr hb (passAt tk σ) I2 rs q2

/-! ### isinstance -/
def Ty.nm : Ty → Option String
  | .int => some "int" | .bool => some "bool" | .str => some "str" | .tuple => some "tuple" | .list => some "list" | .dict => some "dict" | .cls _ => none
def Ty.v (G : GG) : Ty → V
  | .cls c => .ref (G.cl c)
  | t => .ty (t.nm.getD "")
def Ty.u (G : GG) : Ty → Value
  | .cls c => .ref (G.cl c)
  | t => .type (t.nm.getD "")
theorem Ty.clsV (t : Ty) : ClsV (t.v G) (t.u G) := by cases t <;> first | exact .ty _ | exact .own _
def kindN : D → Option String
  | .non => some "NoneType" | .bl _ => some "bool" | .int _ => some "int" | .str _ => some "str" | .tup _ => some "tuple" | .lst _ => some "list" | .dic _ => some "dict" | _ => none
structure IsaUse (G : GG) (X : Cx) (nc : Nat) : Prop where
  ins : ∀ c, c < nc → Cls X.K (G.cl c) ∧ PySem.W.findIn X.K (.ref (G.cl c)) "__class__" = some (some (.builtin "object.__class__")) ∧ PySem.W.specialIn X.K (.builtin "object.__class__") "__get__" = some (some (.builtin "getset_descriptor.__get__")) ∧
    PySem.W.takesIn X.K (.builtin "object.__class__") = some true ∧ PySem.W.mroIn X.K (G.cl c) (.type "object") = some true
  bc : ∀ n ∈ (["NoneType", "bool", "int", "str", "tuple", "list", "dict"] : List String), ∀ c, c < nc → PySem.W.kitOne X.K (.type n) (.ref (G.cl c)) = some false
  cb : ∀ c, c < nc → ∀ n ∈ (["bool", "int", "str", "tuple", "list", "dict"] : List String), PySem.W.kitOne X.K (.ref (G.cl c)) (.type n) = some false
  cc : ∀ c d, c < nc → d < nc → PySem.W.kitOne X.K (.ref (G.cl c)) (.ref (G.cl d)) = some (c == d)
theorem isa_view {v : V} {d : D} {t : Ty} {b : Bool} (hK : X.K = G.K) (U : IsaUse G X C.nc) (vw : View G m w H v d) (ht : ∀ c, t = .cls c → c < C.nc) (q : isaT C.nc d t = some b) :
    ∃ tv, TyX X.K H v tv ∧ PySem.W.kitOne X.K tv (t.u G) = some b ∧ ∀ t' b', (∀ c, t' = .cls c → c < C.nc) → isaT C.nc d t' = some b' → PySem.W.kitOne X.K tv (t'.u G) = some b' := by
  have base : ∀ n : String, kindN d = some n → n ∈ (["NoneType", "bool", "int", "str", "tuple", "list", "dict"] : List String) → ∀ t' b', (∀ c, t' = .cls c → c < C.nc) → isaT C.nc d t' = some b' → PySem.W.kitOne X.K (.type n) (t'.u G) = some b' := fun n hk hn t' b' hc q' => by
    cases t' with
    | cls c =>
      have h2 := U.bc n hn c (hc c rfl)
      cases d <;> simp [kindN] at hk <;> simp [isaT] at q' <;> subst q' <;> exact h2
    | _ => cases d <;> simp [kindN] at hk <;> simp [isaT] at q' <;> subst hk <;> subst q' <;> exact kit_ty (by decide +kernel)
  cases d with
  | non =>
    rcases vw.flat rfl with ⟨_, rfl⟩ | ⟨_, z, _⟩ | ⟨_, z, _⟩ | ⟨_, z, _⟩
    · exact ⟨_, .base .non, base _ rfl (by decide) t b ht q, base _ rfl (by decide)⟩
    all_goals cases z
  | bl k =>
    rcases vw.flat rfl with ⟨z, _⟩ | ⟨_, z, rfl⟩ | ⟨_, z, _⟩ | ⟨_, z, _⟩ <;> cases z
    exact ⟨_, .base (.bl _), base _ rfl (by decide) t b ht q, base _ rfl (by decide)⟩
  | int k =>
    rcases vw.flat rfl with ⟨z, _⟩ | ⟨_, z, _⟩ | ⟨_, z, rfl⟩ | ⟨_, z, _⟩ <;> cases z
    exact ⟨_, .base (.int _), base _ rfl (by decide) t b ht q, base _ rfl (by decide)⟩
  | str k =>
    rcases vw.flat rfl with ⟨z, _⟩ | ⟨_, z, _⟩ | ⟨_, z, _⟩ | ⟨_, z, rfl⟩ <;> cases z
    exact ⟨_, .base (.str _), base _ rfl (by decide) t b ht q, base _ rfl (by decide)⟩
  | tup ds =>
    obtain ⟨p, vs, rfl, t1, _, _⟩ := vw.tup
    rcases t1 with ⟨_, t1⟩ | ⟨o, its, n, h1, h2, _⟩
    · exact ⟨_, .base (.tup t1), base _ rfl (by decide) t b ht q, base _ rfl (by decide)⟩
    · exact ⟨_, .kTuple (by rw [hK]; exact h1) h2, base _ rfl (by decide) t b ht q, base _ rfl (by decide)⟩
  | lst ds =>
    obtain ⟨p, vs, rfl, t1, _, _⟩ := vw.lst
    exact ⟨_, .base (.lst t1), base _ rfl (by decide) t b ht q, base _ rfl (by decide)⟩
  | dic ds =>
    obtain ⟨p, vs, rfl, t1, _, _⟩ := vw.dic
    exact ⟨_, .base (.dK t1), base _ rfl (by decide) t b ht q, base _ rfl (by decide)⟩
  | ins c fs =>
    obtain ⟨p, dx, vs, rfl, t1, _⟩ := vw.ins
    have hcn : c < C.nc := by
      cases t <;> simp only [isaT] at q <;> first | (split at q <;> first | assumption | cases q)
    obtain ⟨u1, u2, u3, u4, u5⟩ := U.ins c hcn
    have all : ∀ t' b', (∀ c, t' = .cls c → c < C.nc) → isaT C.nc (.ins c fs) t' = some b' → PySem.W.kitOne X.K (.ref (G.cl c)) (t'.u G) = some b' := fun t' b' hc q' => by
      cases t' with
      | cls k =>
        simp only [isaT, if_pos hcn, Option.some.injEq] at q'
        rw [← q']
        exact U.cc c k hcn (hc k rfl)
      | _ =>
        simp only [isaT, if_pos hcn, Option.some.injEq] at q'
        rw [← q']
        exact U.cb c hcn _ (by decide)
    exact ⟨_, .base (.ins t1 u1 u2 u3 u4 u5), all t b ht q, all⟩
  | cel _ => simp [isaT] at q
  | fn _ => simp [isaT] at q
  | scr _ => simp [isaT] at q
theorem isa_any {d : D} {tv : Value} (all : ∀ t' b', (∀ c, t' = .cls c → c < C.nc) → isaT C.nc d t' = some b' → PySem.W.kitOne X.K tv (t'.u G) = some b') : ∀ (ts : List Ty) (b : Bool), (∀ t ∈ ts, ∀ c, t = .cls c → c < C.nc) → isaTs C.nc d ts = some b →
    PySem.W.kitAny X.K tv (ts.map (Ty.u G)) = some b
  | [], b, _, q => by cases q; rfl
  | t :: r, b, ht, q => by
    unfold isaTs at q
    rw [List.map_cons]
    cases z : isaT C.nc d t with
    | none => rw [z] at q; cases q
    | some k =>
      rw [z] at q
      have h1 := all t k (ht t List.mem_cons_self) z
      cases k with
      | true => cases q; exact kitAny_cons h1 (fun z => nomatch z) fun _ => rfl
      | false => exact kitAny_cons h1 (fun _ => isa_any all r b (fun t' h' => ht t' (List.mem_cons_of_mem _ h')) q) fun z => nomatch z
theorem c_isa {ea et : Expr} {a : Ev.X} {t : Ty} {p : Pos} (hK : X.K = G.K) (U : IsaUse G X C.nc) (ht : ∀ c, t = .cls c → c < C.nc) (hg : Gl X "isinstance") (hm : X.mg "isinstance" = none) (ha : PE X ea (TB G xf Wx C a)) (he : PE X et (tC (t.v G)))
    (hs : starEach [ea, et] X.env = (false, eval ea X.env) :: starEach [et] X.env) (hs2 : starEach [et] X.env = (false, eval et X.env) :: starEach [] X.env) : PE X (.Call (.Name "isinstance" p) [ea, et] [] pos) (TB G xf Wx C (.isa a [t])) :=
  pe_weak (pe_callB call_isi hg hm (by decide +kernel) (pa_cons ha (pa_cons he pa_nil hs2) hs) (he := hs) (hpl := by rw [hs2]; rfl)) fun σ H Q ⟨m, e, w, r, q⟩ => by
    rw [ev, xv_none r] at q
    refine ⟨m, e, w, r, PostE.step (r := ev C a e) q fun d w1 u m1 H1 x1 r1 y1 q1 => ?_⟩
    cases z : isaTs C.nc d [t] with
    | none => simp only [z] at q1; exact PostE.stk_elim (by exact q1)
    | some b =>
      simp only [z] at q1
      have z' : isaT C.nc d t = some b := by
        unfold isaTs at z
        cases k : isaT C.nc d t with
        | none => rw [k] at z; cases z
        | some k' => rw [k] at z; cases k' <;> (cases z; rfl)
      obtain ⟨tv, h1, h2, _⟩ := isa_view hK U (y1.view r1) ht z'
      exact ⟨_, _, tv, _, b, rfl, t.clsV, h1, h2, PostE.val q1 r1 ((RX.of rfl).mpr (.bl _))⟩
/-- a tuple of classes, written -/
def tTys (G : GG) : List Ty → TA
  | [] => tNil
  | t :: r => tCons (tC (t.v G)) (tTys G r)
theorem tTys_val {ts : List Ty} {Q : List V → Hp → Prop} (h : Q (ts.map (Ty.v G)) H) : tTys G ts σ H Q := by
  induction ts generalizing Q with
  | nil => exact h
  | cons t r ih => exact ih h
theorem tys_paired : ∀ ts : List Ty, Paired ClsV (ts.map (Ty.v G)) (ts.map (Ty.u G))
  | [] => .nil
  | t :: r => .cons t.clsV (tys_paired r)
theorem c_isaT {ea : Expr} {a : Ev.X} {ts : List Ty} {es : List Expr} {p p2 : Pos} {k : Nat} (hK : X.K = G.K) (U : IsaUse G X C.nc) (ht : ∀ t ∈ ts, ∀ c, t = .cls c → c < C.nc) (hl : ts.length ≤ 10) (hg : Gl X "isinstance") (hm : X.mg "isinstance" = none) (ha : PE X ea (TB G xf Wx C a)) (he : PA X es (tTys G ts)) (hne : ts ≠ [])
    (hs : starEach [ea, .Tuple es k p2] X.env = (false, eval ea X.env) :: starEach [.Tuple es k p2] X.env) (hs2 : starEach [.Tuple es k p2] X.env = (false, eval (.Tuple es k p2) X.env) :: starEach [] X.env) :
    PE X (.Call (.Name "isinstance" p) [ea, .Tuple es k p2] [] pos) (TB G xf Wx C (.isa a ts)) :=
  pe_weak (pe_callB call_isiT hg hm (by decide +kernel) (pa_cons ha (pa_cons (pe_tup he) pa_nil hs2) hs) (he := hs) (hpl := by rw [hs2]; rfl)) fun σ H Q ⟨m, e, w, r, q⟩ => by
    rw [ev, xv_none r] at q
    refine ⟨m, e, w, r, PostE.step (r := ev C a e) q fun d w1 u m1 H1 x1 r1 y1 q1 => tTys_val ⟨by rw [List.length_map]; exact Nat.le_trans hl (by decide), fun p' hp => ?_⟩⟩
    cases z : isaTs C.nc d ts with
    | none => simp only [z] at q1; exact PostE.stk_elim (by exact q1)
    | some b =>
      simp only [z] at q1
      obtain ⟨xl, rl⟩ := r1.lay hp (.tup (ts.map (Ty.v G)))
      obtain ⟨tv, h1, h2⟩ : ∃ tv, TyX X.K (upd H1 p' (.tup (ts.map (Ty.v G)))) u tv ∧ PySem.W.kitAny X.K tv (ts.map (Ty.u G)) = some b := by
        cases ts with
        | nil => exact absurd rfl hne
        | cons t r' =>
          have z1 := z
          unfold isaTs at z1
          cases k : isaT C.nc d t with
          | none => rw [k] at z1; cases z1
          | some k' =>
            obtain ⟨tv, h1, _, h3⟩ := isa_view hK U ((y1.mono xl).view rl) (ht t List.mem_cons_self) k
            exact ⟨tv, h1, isa_any h3 (t :: r') b ht z⟩
      refine ⟨u, p', _, tv, _, b, rfl, upd_same, tys_paired ts, h1, h2, (q1.shift xl).val rl ((RX.of rfl).mpr (.bl _))⟩

/-! ### small ones -/
theorem c_lenset {ea : Expr} {a : Ev.X} {p p2 q2 : Pos} (hK : X.K = G.K) (hc : C.hot = false → X.calm = true) (hg : Gl X "len") (hm : X.mg "len" = none) (hg2 : Gl X "set") (hm2 : X.mg "set" = none) (ha : PE X ea (TB G xf Wx C a)) (hs : starEach [ea] X.env = (false, eval ea X.env) :: starEach [] X.env) :
    PE X (.Call (.Name "len" p) [.Call (.Name "set" p2) [ea] [] q2] [] pos) (TB G xf Wx C (.lenset a)) := by
  by_cases hh : C.hot = true
  · refine ⟨fun pins s σ H Q I ⟨m, e, w, r, q⟩ => ?_⟩
    rw [ev] at q
    have := (calm_post q).1
    rw [hh] at this; cases this
  · refine pe_weak (pe_lenSet (hc (by simpa using hh)) hg hm hg2 hm2 ha hs) fun σ H Q ⟨m, e, w, r, q⟩ => ?_
    rw [ev] at q
    obtain ⟨_, q⟩ := calm_post q
    refine ⟨m, e, w, r, q.step fun d w1 u m1 H1 x1 r1 y1 q1 => ?_⟩
    cases d <;> first | exact PostE.stk_elim (by exact q1) | skip
    · obtain ⟨l, vs, rfl, t1, _, z1⟩ := y1.tup r1
      obtain ⟨ns, hn, q1⟩ := onInts_post (α := D) q1
      obtain ⟨hl, q1⟩ := q1.grd
      have e1 := z1.ints_of hn
      subst e1
      exact ⟨l, ns, rfl, .inr (by rw [hK]; exact t1.sq), hl, PostE.val q1 r1 ((RX.of rfl).mpr (.int _))⟩
    · obtain ⟨l, vs, rfl, t1, _, z1⟩ := y1.lst r1
      obtain ⟨ns, hn, q1⟩ := onInts_post (α := D) q1
      obtain ⟨hl, q1⟩ := q1.grd
      have e1 := z1.ints_of hn
      subst e1
      exact ⟨l, ns, rfl, .inl (.of t1), hl, PostE.val q1 r1 ((RX.of rfl).mpr (.int _))⟩
theorem ddup_mem (j : Int) : ∀ l : List Int, j ∈ ddup l ↔ j ∈ l
  | [] => Iff.rfl
  | a :: r => by
    have ih := ddup_mem j r
    rw [ddup]
    split
    · rename_i h
      rw [ih, List.mem_cons]
      exact ⟨.inr, fun q => q.elim (fun e => e ▸ h) id⟩
    · rw [List.mem_cons, List.mem_cons, ih]
theorem ddup_nd : ∀ l : List Int, (ddup l).Nodup
  | [] => List.nodup_nil
  | a :: r => by
    rw [ddup]
    split
    · exact ddup_nd r
    · rename_i h
      exact List.nodup_cons.mpr ⟨fun q => h ((ddup_mem a r).mp q), ddup_nd r⟩
theorem srt_post {ns : List Int} {l : Addr} {x : Ev.X} {Q : VK} (hx : ownV e x = false) (r : Rel G m e w σ H) (hs : SqL X.K H l (ns.map V.int) ∨ SqT X.K H l (ns.map V.int))
    (q : PostE G xf Wx m w H e σ (RX G e σ x) Q (grd (ns.length ≤ 4000 ∧ (ddup ns).length < 64) (pure (.lst ((sortI (ddup ns)).map .int))) w)) : rSetI X [.ref l] H fun v H1 => rSortedSet X.w [v] H1 Q := by
  obtain ⟨⟨h1, h2⟩, q⟩ := q.grd
  refine ⟨l, ns, rfl, hs, h1, fun p ds nd mem hp => ?_⟩
  have pe : ds.Perm (ddup ns) := (List.perm_ext_iff_of_nodup nd (ddup_nd ns)).mpr fun j => by rw [mem j, ddup_mem]
  obtain ⟨xl, rl⟩ := r.lay hp (SetO X.w p (fun j => decide (j ∈ ns)) ds.length)
  refine ⟨p, _, _, rfl, upd_same, by rw [pe.length_eq]; exact h2, fun ns' p' hlt hm hl hp' => ?_⟩
  have nd' : ns'.Nodup := hlt.imp fun h => Int.ne_of_lt h
  have pe' : ns'.Perm (ddup ns) := (List.perm_ext_iff_of_nodup nd' (ddup_nd ns)).mpr fun j => by rw [hm j, ddup_mem, decide_eq_true_eq]
  have e2 := sortI_eq pe' (hlt.imp fun h => Int.le_of_lt h)
  subst e2
  refine (q.shift xl).newX hx rl hp' fun r4 => ?_
  exact .lst (.inl rfl) upd_same (by rw [List.length_map, (sortI_perm (ddup ns)).length_eq]; exact Nat.le_of_lt (Nat.lt_of_lt_of_le h2 (by decide))) (RF_int _)
theorem c_srtset {ea : Expr} {a : Ev.X} {p p2 q2 : Pos} (hK : X.K = G.K) (hc : C.hot = false → X.calm = true) (hg : Gl X "sorted") (hm : X.mg "sorted" = none) (hg2 : Gl X "set") (hm2 : X.mg "set" = none) (ha : PE X ea (TB G xf Wx C a)) (hs : starEach [ea] X.env = (false, eval ea X.env) :: starEach [] X.env) :
    PE X (.Call (.Name "sorted" p) [.Call (.Name "set" p2) [ea] [] q2] [] pos) (TB G xf Wx C (.srtset a)) := by
  by_cases hh : C.hot = true
  · refine ⟨fun pins s σ H Q I ⟨m, e, w, r, q⟩ => ?_⟩
    rw [ev] at q
    have := (calm_post q).1
    rw [hh] at this; cases this
  · have nc := hc (by simpa using hh)
    refine pe_weak (pe_callB (cr_sortedSet nc) hg hm (by decide +kernel) (pa_cons (pe_callTy (cr_setI nc) hg2 hm2 (by decide +kernel) (pa_cons ha pa_nil hs) (hn := by decide) (hdb := by decide) (he := hs)) pa_nil rfl) (hn := by decide) (hdb := by decide)) fun σ H Q ⟨m, e, w, r, q⟩ => ?_
    rw [ev] at q
    obtain ⟨_, q⟩ := calm_post q
    refine ⟨m, e, w, r, q.step fun d w1 u m1 H1 x1 r1 y1 q1 => ?_⟩
    cases d <;> first | exact PostE.stk_elim (by exact q1) | skip
    · obtain ⟨l, vs, rfl, t1, _, z1⟩ := y1.tup r1
      obtain ⟨ns, hn, q1⟩ := onInts_post (α := D) q1
      have e1 := z1.ints_of hn
      subst e1
      exact srt_post rfl r1 (.inr (by rw [hK]; exact t1.sq)) q1
    · obtain ⟨l, vs, rfl, t1, _, z1⟩ := y1.lst r1
      obtain ⟨ns, hn, q1⟩ := onInts_post (α := D) q1
      have e1 := z1.ints_of hn
      subst e1
      exact srt_post rfl r1 (.inl (.of t1)) q1
theorem c_dict0 : PE X (.Dict [] [] pos) (TB G xf Wx C .dict0) :=
  pe_weak pe_dnewK fun σ H Q ⟨m, e, w, r, q⟩ => fun p hp => by
    rw [ev] at q
    refine PostE.newX (d := .dic []) rfl q r hp fun r4 => ?_
    exact .dic (.inl rfl) upd_same (Nat.zero_le _) .nil
theorem c_max2 {ea eb : Expr} {a b : Ev.X} {p : Pos} (hc : C.hot = false → X.calm = true) (hg : Gl X "max") (hm : X.mg "max" = none) (ha : PE X ea (TB G xf Wx C a)) (hb : PE X eb (TB G xf Wx C b))
    (hs : starEach [ea, eb] X.env = (false, eval ea X.env) :: starEach [eb] X.env) (hs2 : starEach [eb] X.env = (false, eval eb X.env) :: starEach [] X.env) : PE X (.Call (.Name "max" p) [ea, eb] [] pos) (TB G xf Wx C (.max2 a b)) := by
  by_cases hh : C.hot = true
  · refine ⟨fun pins s σ H Q I ⟨m, e, w, r, q⟩ => ?_⟩
    rw [ev] at q
    have := (calm_post q).1
    rw [hh] at this; cases this
  · refine pe_weak (pe_callB (call_max2 (hc (by simpa using hh))) hg hm (by decide +kernel) (pa_cons ha (pa_cons hb pa_nil hs2) hs) (he := hs) (hpl := by rw [hs2]; rfl)) fun σ H Q ⟨m, e, w, r, q⟩ => ?_
    rw [ev] at q
    obtain ⟨_, q⟩ := calm_post q
    refine ⟨m, e, w, r, q.step fun d w1 u m1 H1 x1 r1 y1 q1 => ⟨m1, e, w1, r1, q1.step fun d' w2 u' m2 H2 x2 r2 y2 q2 => ?_⟩⟩
    cases d <;> cases d' <;> first | exact PostE.stk_elim (by exact q2) | skip
    have e1 := (y1.mono x2).int r2
    have e2 := y2.int r2
    subst e1 e2
    exact ⟨_, _, rfl, PostE.val (by exact q2) r2 ((RX.of rfl).mpr (.int _))⟩
theorem c_min2 {ea eb : Expr} {a b : Ev.X} {p : Pos} (hc : C.hot = false → X.calm = true) (hg : Gl X "min") (hm : X.mg "min" = none) (ha : PE X ea (TB G xf Wx C a)) (hb : PE X eb (TB G xf Wx C b))
    (hs : starEach [ea, eb] X.env = (false, eval ea X.env) :: starEach [eb] X.env) (hs2 : starEach [eb] X.env = (false, eval eb X.env) :: starEach [] X.env) : PE X (.Call (.Name "min" p) [ea, eb] [] pos) (TB G xf Wx C (.min2 a b)) := by
  by_cases hh : C.hot = true
  · refine ⟨fun pins s σ H Q I ⟨m, e, w, r, q⟩ => ?_⟩
    rw [ev] at q
    have := (calm_post q).1
    rw [hh] at this; cases this
  · refine pe_weak (pe_callB (call_min2 (hc (by simpa using hh))) hg hm (by decide +kernel) (pa_cons ha (pa_cons hb pa_nil hs2) hs) (he := hs) (hpl := by rw [hs2]; rfl)) fun σ H Q ⟨m, e, w, r, q⟩ => ?_
    rw [ev] at q
    obtain ⟨_, q⟩ := calm_post q
    refine ⟨m, e, w, r, q.step fun d w1 u m1 H1 x1 r1 y1 q1 => ⟨m1, e, w1, r1, q1.step fun d' w2 u' m2 H2 x2 r2 y2 q2 => ?_⟩⟩
    cases d <;> cases d' <;> first | exact PostE.stk_elim (by exact q2) | skip
    have e1 := (y1.mono x2).int r2
    have e2 := y2.int r2
    subst e1 e2
    exact ⟨_, _, rfl, PostE.val (by exact q2) r2 ((RX.of rfl).mpr (.int _))⟩
theorem c_get {ed ea eb : Expr} {d a b : Ev.X} {apos : Pos} (hu : X.A.units + 200 < cLine) (hd : PE X ed (TB G xf Wx C d)) (ha : PE X ea (TB G xf Wx C a)) (hb : PE X eb (TB G xf Wx C b)) (mm : M2 X ed "get" apos ea eb pos) :
    PE X (.Call (.Attribute ed "get" apos) [ea, eb] [] pos) (TB G xf Wx C (.get d a b)) :=
  pe_weak (pe_dget2 (by omega) hd ha (tn_of hb) mm) fun σ H Q ⟨m, e, w, r, q⟩ => by
    rw [ev] at q
    refine ⟨m, e, w, r, q.step fun dd w1 u m1 H1 x1 r1 y1 q1 => ?_⟩
    cases dd <;> first | exact PostE.stk_elim (by exact q1) | skip
    rename_i kvs
    obtain ⟨p, vs, rfl, t1, _, _⟩ := y1.dic r1
    refine ⟨p, rfl, .inl ⟨vs, .of t1⟩, m1, e, w1, r1, PostE.step (r := ev C a e) q1 fun k w2 u2 m2 H2 x2 r2 y2 q2 => ⟨m2, e, w2, r2, q2.step fun z w3 u3 m3 H3 x3 r3 y3 q3 => ?_⟩⟩
    by_cases hk : isKey k = true
    · rw [if_pos hk] at q3
      obtain ⟨p', vs', e1, t3, _, z3⟩ := (y1.mono (x2.trans x3)).dic r3
      cases e1
      obtain ⟨kk, rfl, rfl⟩ := key_v ((y2.mono x3).view r3) hk
      refine ⟨_, DGet.k t3, ?_⟩
      rcases z3.find kk with ⟨c1, c2⟩ | ⟨d2, v2, c1, c2, c3⟩
      · rw [c1] at q3; rw [c2]
        exact PostE.val q3 r3 ((RX.of rfl).mpr y3)
      · rw [c1] at q3; rw [c2]
        exact PostE.val q3 r3 ((RX.of rfl).mpr c3)
    · rw [if_neg hk] at q3
      exact PostE.stk_elim (by exact q3)
end
end Ev

set_option maxRecDepth 100000
set_option maxHeartbeats 4000000
/-! What loops and comprehensions go over; targets. -/
namespace Ev
open PySem PySem.Spec PyProof.Rows L2

/-- what values name stays -/
structure Sub (m : Fm) (w : Wd) (H : Hp) (m' : Fm) (w' : Wd) (H' : Hp) : Prop where
  F : ∀ a, m.F a → m'.F a
  aF : ∀ a, m.F a → H' a = H a
  wl : w.length ≤ w'.length
  rho : ∀ k, k < w.length → m'.rho k = m.rho k
  oa0 : m'.oa 0 = m.oa 0
section
variable {G : GG} {xf : Nat → Option Str} {Wx : L2.WX} {m m' m1 : Fm} {w w' w1 : Wd} {H H' H1 : Hp} {e : Env} {σ : L2.St} {C : Cfg} {X : Cx} {pos : Pos}
theorem Ext.sub (x : Ext m w H m' w' H') : Sub m w H m' w' H' := ⟨x.F, x.aF, x.wl, x.rho, x.oa0⟩
theorem Sub.trans {m1 m2 m3 : Fm} {w1 w2 w3 : Wd} {H1 H2 H3 : Hp} (a : Sub m1 w1 H1 m2 w2 H2) (b : Sub m2 w2 H2 m3 w3 H3) : Sub m1 w1 H1 m3 w3 H3 :=
  ⟨fun x h => b.F x (a.F x h), fun x h => (b.aF x (a.F x h)).trans (a.aF x h), Nat.le_trans a.wl b.wl, fun k h => (b.rho k (Nat.lt_of_lt_of_le h a.wl)).trans (a.rho k h), b.oa0.trans a.oa0⟩
theorem R.sub (x : Sub m w H m' w' H') {v : V} {d : D} (h : R G m.F m.rho w.length H v d) : R G m'.F m'.rho w'.length H' v d := h.mono x.F x.aF x.wl x.rho
theorem RA.sub (x : Sub m w H m' w' H') {v : List V} {d : List D} (h : RA G m.F m.rho w.length H v d) : RA G m'.F m'.rho w'.length H' v d := h.mono x.F x.aF x.wl x.rho

/-- what J yields are the items ds -/
def WalkD (G : GG) (m : Fm) (w : Wd) (H : Hp) (J : L2.It) (ds : List D) : Prop := ∀ m2 w2 H2, Sub m w H m2 w2 H2 → RelW G m2 w2 H2 →
  (∀ i d, ds[i]? = some d → J.go i H2 ∧ ∀ x H3, J.yld i H2 x H3 → ∃ m3, Ext m2 w2 H2 m3 w2 H3 ∧ (∀ e σ, Rel G m2 e w2 σ H2 → Rel G m3 e w2 σ H3) ∧ R G m3.F m3.rho w2.length H3 x d) ∧ ∀ i, ds.length ≤ i → J.stop i H2
variable (G xf Wx) in
def TI' (C : Cfg) (it : Ev.It) : TI := fun σ H Q => ∃ m e w, Rel G m e w σ H ∧ PostE G xf Wx m w H e σ (fun m' w' H' J ds => WalkD G m' w' H' J ds) Q (evI C it e w)
theorem walk_list {a : Addr} {vs : List V} {ds : List D} (hK : X.K = G.K) (hF : m.F a) (ha : H a = some (.lst vs)) (ra : RA G m.F m.rho w.length H vs ds) : WalkD G m w H (Itl X.K a) ds := fun m2 w2 H2 x r2 => by
  have h2 : H2 a = some (.lst vs) := (x.aF a hF).trans ha
  have r3 := ra.sub x
  refine ⟨fun i d hd => ?_, fun i hi => ⟨vs, .of h2, by rw [ra.length]; exact hi⟩⟩
  obtain ⟨v, hv, rv⟩ := r3.get hd
  refine ⟨⟨vs, v, .of h2, hv⟩, fun y H3 hy => ?_⟩
  obtain ⟨rfl, hy⟩ := hy
  have e := hy vs (.of h2)
  rw [hv] at e
  cases e
  exact ⟨m2, .refl _ _ _, fun _ _ h => h, rv⟩
theorem walk_tup {a : Addr} {vs : List V} {ds : List D} (hK : X.K = G.K) (ta : TupAt G m.F H a vs) (ra : RA G m.F m.rho w.length H vs ds) : WalkD G m w H (Itt X.K a) ds := fun m2 w2 H2 x r2 => by
  have h2 : SqT X.K H2 a vs := by
    rw [hK]
    rcases ta with ⟨h1, h2⟩ | h1
    · exact .of ((x.aF a h1).trans h2)
    · exact .inr h1
  have r3 := ra.sub x
  refine ⟨fun i d hd => ?_, fun i hi => ⟨vs, h2, by rw [ra.length]; exact hi⟩⟩
  obtain ⟨v, hv, rv⟩ := r3.get hd
  refine ⟨⟨vs, v, h2, hv⟩, fun y H3 hy => ?_⟩
  obtain ⟨rfl, hy⟩ := hy
  have e := hy vs h2
  rw [hv] at e
  cases e
  exact ⟨m2, .refl _ _ _, fun _ _ h => h, rv⟩
theorem walk_range {lo : Int} {n : Nat} : WalkD G m w H (Itr lo n) (rngD lo n) := fun m2 w2 H2 x r2 => by
  refine ⟨fun i d hd => ?_, fun i hi => ?_⟩
  · unfold rngD at hd
    rw [List.getElem?_map] at hd
    by_cases hi : i < n
    · rw [List.getElem?_range hi] at hd
      simp only [Option.map_some, Option.some.injEq] at hd
      refine ⟨hi, fun y H3 hy => ?_⟩
      obtain ⟨rfl, rfl⟩ := hy
      rw [← hd]
      exact ⟨m2, .refl _ _ _, fun _ _ h => h, .int _⟩
    · rw [List.getElem?_eq_none (by simpa using hi)] at hd
      cases hd
  · show n ≤ i
    unfold rngD at hi
    simpa using hi
def Xs.len : Xs → Nat
  | .nil => 0
  | .cons _ r => r.len + 1
theorem evs_len : ∀ (xs : Xs) (w : Wd) (ds : List D) (w' : Wd), evs C xs e w = .ok ds w' → ds.length = xs.len
  | .nil, w, ds, w', h => by
    rw [evs] at h
    cases h
    rfl
  | .cons x r, w, ds, w', h => by
    rw [evs] at h
    rw [bind_def] at h
    cases q : nb e x (ev C x e) w with
    | ok d w1 =>
      rw [q] at h
      simp only at h
      rw [bind_def] at h
      cases q2 : evs C r e w1 with
      | ok ds1 w2 =>
        rw [q2] at h
        cases h
        have := evs_len r w1 ds1 _ q2
        simp [this, Xs.len]
      | exc c x w2 => rw [q2] at h; cases h
      | stk => rw [q2] at h; cases h
    | exc c x w2 => rw [q] at h; cases h
    | stk => rw [q] at h; cases h
theorem ev_len {α β : Type} {Rl : Fm → Wd → Hp → β → α → Prop} {Q : β → Hp → Prop} {Q1 : List V → Hp → Prop} {xs : Xs} {k : List D → M α} (r : Rel G m e w σ H) (h : PostE G xf Wx m w H e σ Rl Q ((evs C xs e >>= k) w))
    (hk : ∀ ds w1 vs m1 H1, Ext m w H m1 w1 H1 → Rel G m1 e w1 σ H1 → RA G m1.F m1.rho w1.length H1 vs ds → ds.length = xs.len → PostE G xf Wx m1 w1 H1 e σ Rl Q (k ds w1) → Q1 vs H1) : PostE G xf Wx m w H e σ (RRs G) Q1 (evs C xs e w) := by
  have l := evs_len (C := C) (e := e) xs w
  rw [bind_def] at h
  cases q : evs C xs e w with
  | ok ds w' =>
    rw [q] at h
    exact fun v m' H' x r y => hk ds w' v m' H' x r y (l ds w' q) (h.shift x)
  | exc c x w' => rw [q] at h; exact h
  | stk => rw [q] at h; exact h
theorem len1 {ds : List D} (h : ds.length = 1) : ∃ d, ds = [d] := by
  match ds, h with
  | [d], _ => exact ⟨d, rfl⟩
theorem len2 {ds : List D} (h : ds.length = 2) : ∃ d d', ds = [d, d'] := by
  match ds, h with
  | [d, d'], _ => exact ⟨d, d', rfl⟩
def iSeq (K : PySem.W.Frag) (tl : TE) : TI := fun σ H R => tl σ H fun x H1 => ∃ a, x = .ref a ∧ (((∃ xs, SqL K H1 a xs) ∧ R (Itl K a) H1) ∨ ((∃ xs, SqT K H1 a xs) ∧ R (Itt K a) H1))
theorem pi_seq {l : Expr} {tl : TE} {tg : Expr} (hl : PE X l tl) : PI X tg l (iSeq X.K tl) := by
  refine ⟨fun pins s σ H R I h => ?_⟩
  refine thn (hl.run pins s σ H _ I h) fun v s1 ⟨x, H1, I1, r1, q1⟩ => ?_
  obtain ⟨a, e, q⟩ := q1
  subst e
  cases r1
  have fr : ∀ b ∈ [s1.heap.objs.size], FpOk X pins H1 b := fun b hb => by
    have e : b = s1.heap.objs.size := by simpa using hb
    subst e
    exact I1.fpOk (Nat.le_refl _) (I1.hok.fresh (Nat.le_refl _))
  rcases q with ⟨⟨xs, hq⟩, q⟩ | ⟨⟨xs, hq⟩, q⟩
  · obtain ⟨its, rv, p, hz⟩ := I1.list hq
    refine wpAny_pyIter_list p.isList ?_
    exact ⟨s1.heap.objs.size, [s1.heap.objs.size], _, _, H1, rfl, I1.kept (t' := s1.toks) fun b o e => Heap.get?_push_of_some _ e, turn_list a _, ⟨_, Heap.get?_push_size _ rfl, rfl, rfl⟩, fr, q⟩
  · obtain ⟨its, rv, p, hz⟩ := I1.tuple hq
    refine wpAny_pyIter_tuple (show s1.heap.IsTuple a its.toArray from p) ?_
    exact ⟨s1.heap.objs.size, [s1.heap.objs.size], _, _, H1, rfl, I1.kept (t' := s1.toks) fun b o e => Heap.get?_push_of_some _ e, turn_tuple a _, ⟨_, Heap.get?_push_size _ rfl, rfl, rfl⟩, fr, q⟩
theorem i_x {ea tg : Expr} {a : Ev.X} (hK : X.K = G.K) (ha : PE X ea (TB G xf Wx C a)) : PI X tg ea (TI' G xf Wx C (.x a)) := by
  refine ⟨fun pins s σ H R I ⟨m, e, w, r, q⟩ => (pi_seq (tn_of ha)).run pins s σ H R I ?_⟩
  rw [evI] at q
  refine ⟨m, e, w, r, q.step fun d w1 u m1 H1 x1 r1 y1 q1 => ?_⟩
  cases d <;> first | exact PostE.stk_elim (by exact q1) | skip
  · cases y1 with
    | tup t1 l1 z1 => exact ⟨_, rfl, .inr ⟨⟨_, by rw [hK]; exact t1.sq⟩, PostE.val (by exact q1) r1 (walk_tup hK t1 z1)⟩⟩
  · cases y1 with
    | lst f1 t1 l1 z1 => exact ⟨_, rfl, .inl ⟨⟨_, .of t1⟩, PostE.val (by exact q1) r1 (walk_list hK f1 t1 z1)⟩⟩
theorem i_rng1 {ea tg : Expr} {p : Pos} {xs : Xs} (hg : Gl X "range") (hm : X.mg "range" = none) (ha : PA X [ea] (TS' G xf Wx C xs)) (hs : starEach [ea] X.env = [(false, eval ea X.env)]) (h1 : xs.len = 1) : PI X tg (.Call (.Name "range" p) [ea] [] pos) (TI' G xf Wx C (.rng xs)) := by
  refine ⟨fun pins s σ H R I ⟨m, e, w, r, q⟩ => (pi_range1 hg hm ha hs).run pins s σ H R I ?_⟩
  rw [evI] at q
  refine ⟨m, e, w, r, ev_len r q fun ds w1 vs m1 H1 x1 r1 y1 hl q1 => ?_⟩
  rw [h1] at hl
  obtain ⟨d, rfl⟩ := len1 hl
  cases y1 with
  | cons y t =>
    cases t
    cases d <;> first | exact PostE.stk_elim (by exact q1) | skip
    cases y
    rename_i j
    by_cases hj : rngOk j
    · simp only [rngOf, if_pos hj] at q1
      exact ⟨j, rfl, hj.1, hj.2, PostE.val (by exact q1) r1 walk_range⟩
    · simp only [rngOf, if_neg hj] at q1
      exact PostE.stk_elim (by exact q1)
theorem i_rng2 {ea eb tg : Expr} {p : Pos} {xs : Xs} (hg : Gl X "range") (hm : X.mg "range" = none) (ha : PA X [ea, eb] (TS' G xf Wx C xs)) (hs : starEach [ea, eb] X.env = [(false, eval ea X.env), (false, eval eb X.env)]) (hs2 : starEach [eb] X.env = [(false, eval eb X.env)]) (h1 : xs.len = 2) : PI X tg (.Call (.Name "range" p) [ea, eb] [] pos) (TI' G xf Wx C (.rng xs)) := by
  refine ⟨fun pins s σ H R I ⟨m, e, w, r, q⟩ => (pi_range2 hg hm ha hs hs2).run pins s σ H R I ?_⟩
  rw [evI] at q
  refine ⟨m, e, w, r, ev_len r q fun ds w1 vs m1 H1 x1 r1 y1 hl q1 => ?_⟩
  rw [h1] at hl
  obtain ⟨d, d', rfl⟩ := len2 hl
  cases y1 with
  | cons y t => cases t with
    | cons y' t =>
      cases t
      cases d <;> first | exact PostE.stk_elim (by exact q1) | skip
      cases d' <;> first | exact PostE.stk_elim (by exact q1) | skip
      cases y
      cases y'
      rename_i i j
      by_cases hj : rngOk i ∧ rngOk j
      · simp only [rngOf, if_pos hj] at q1
        exact ⟨i, j, rfl, ⟨hj.1.1, hj.1.2, hj.2.1, hj.2.2⟩, PostE.val (by exact q1) r1 walk_range⟩
      · simp only [rngOf, if_neg hj] at q1
        exact PostE.stk_elim (by exact q1)

/-! ### enumerate of a tuple -/
def IteT (K : PySem.W.Frag) (a : Addr) : L2.It :=
  ⟨fun i H => ∃ (xs : List V) (x : V), SqT K H a xs ∧ xs[i]? = some x, fun i H v H' => ∃ T x, v = .ref T ∧ H T = none ∧ H' = upd H T (.tup [.int (i : Nat), x]) ∧ ∀ xs, SqT K H a xs → xs[i]? = some x, fun i H => ∃ xs : List V, SqT K H a xs ∧ xs.length ≤ i⟩
theorem turn_enumT {P : Program} {w : World} {K : PySem.W.Frag} {elts : List Expr} {kk : Nat} {tpos : Pos} (a e it : Addr) (hai : a ≠ it) (hea : e ≠ a) :
    Turn P w K (.Tuple elts kk tpos) (IteT K a) [e, it] e (fun i h => (∃ old, IsEnum h e it ((i : Nat) : Int) old) ∧ h.IsTupleIter it a i ∧ e ≠ it) where
  mem := by simp
  obj := fun i h st b hb => by
    obtain ⟨⟨old, he⟩, ⟨o, ho, hc, hd⟩, _⟩ := st
    have e' : b = e ∨ b = it := by simpa using hb
    rcases e' with z | z
    · rw [z]; exact ⟨_, he, fun v q => nomatch q⟩
    · rw [z]; exact ⟨o, ho, fun v q => by rw [hd] at q; cases q⟩
  keep := fun i h h' st k => let ⟨⟨old, he⟩, hi, hne⟩ := st; ⟨⟨old, k e (by simp) _ he⟩, hi.at fun o q => k it (by simp) o q, hne⟩
  item := by
    intro X hP hw hK hc i pins s σ H E I hf st hg
    subst hP hw hK
    obtain ⟨⟨old, he⟩, hit, hne⟩ := st
    obtain ⟨xs, x, hq, hx⟩ := hg
    obtain ⟨its, rv, p, hz⟩ := I.tuple hq
    have p' : s.heap.IsTuple a its.toArray := p
    have hli : i < its.length := by
      rw [← rv.length]
      exact (List.getElem?_eq_some_iff.mp hx).1
    have hel : e < s.heap.objs.size := Heap.lt_size he
    have hil : it < s.heap.objs.size := by obtain ⟨_, q, _⟩ := hit; exact Heap.lt_size q
    have DT := Draws.tuple (prog := X.prog) (w := X.w) (A := X.A.in1) (I.ok.hd hc) it a hai its.toArray
    refine wpAny_pyNext_enum_itemC DT he ⟨hit, p'⟩ (by simpa using hli) hne (by simp [hne, hea]) fun u h' tk hu ho hit' hT hsz hk => ?_
    obtain ⟨u', hu', ru⟩ := rv.get hx
    have hu : its[i]? = some u := by simpa using hu
    have hq1 : u' = u := by rw [hu'] at hu; exact Option.some.inj hu
    subst hq1
    refine ⟨_, rfl, wpAny_letOwnedTupleGo_enum (s := { s with heap := h', toks := tk + 1 }) ho fun h'' he' sb => ?_⟩
    have hT2 : h''.get? s.heap.objs.size = some { cls := .type "tuple", data := .seq #[.int i tk, u'] } := (sb.2 _ (Nat.ne_of_gt hel)).trans hT
    have new : ObjOk X.prog X.w (upd H s.heap.objs.size (.tup [.int (i : Nat), x])) h'' s.heap.objs.size (.tup [.int (i : Nat), x]) :=
      ⟨by show 2 ≤ sizeLine; decide, [.int i tk, u'], .cons ⟨_, rfl⟩ (.cons ru .nil), ⟨_, hT2, rfl, _, rfl⟩⟩
    have I1 : Inv X pins σ (upd H s.heap.objs.size (.tup [.int (i : Nat), x])) { s with heap := h'', toks := tk + 1 } :=
      I.turnedNew (ch := [e, it]) (fun b ob hb q => (sb.2 b (fun z => hb (by simp [z]))).trans (hk b ob (fun z => hb (by simp [z])) (fun z => hb (by simp [z])) q)) hf (Nat.le_refl _) new
    refine ⟨.ref s.heap.objs.size, _, I1, rfl, ⟨_, x, rfl, I.hok.fresh (Nat.le_refl _), rfl, fun ys hy => by rw [I.tuple_inj hy hq]; exact hx⟩, ⟨⟨u', ?_⟩, hit'.1.at fun o q => (sb.2 it (Ne.symm hne)).trans q, hne⟩, fun b hb => ?_⟩
    · have e1 : ((i + 1 : Nat) : Int) = (i : Int) + 1 := by omega
      rw [e1]; exact he'
    · have hb' : b < s.heap.objs.size := by
        have e' : b = e ∨ b = it := by simpa using hb
        rcases e' with z | z
        · rw [z]; exact hel
        · rw [z]; exact hil
      rw [upd_ne (Nat.ne_of_lt hb')]
      exact (hf b hb).1
  done := by
    intro X hP hw hK hc i pins s σ H E I hf st hg
    subst hP hw hK
    obtain ⟨⟨old, he⟩, hit, hne⟩ := st
    obtain ⟨xs, hq, hx⟩ := hg
    obtain ⟨its, rv, p, hz⟩ := I.tuple hq
    obtain ⟨f0, f1, f2, f3, f4, f5⟩ := hf it (by simp)
    have hl := rv.length
    have p' : s.heap.IsTuple a its.toArray := p
    have hT : s.TypeIs (.ref e) "enumerate" := ⟨_, he, rfl⟩
    unfold pyNext
    refine wpAny_bind (wpAny_attempt (wpAny_callSpecial?_slot (name := Str.ofString "__next__") hT F.slot_enumerate_next
      (wpAny_call_entry F.slot_enumerate_next hT F.entry_enumerate_next ?_ (F.args_enumerate_next_1 _))))
    show wpAny _ _ (field (.ref e) 2 >>= _) _ _ _
    refine wpAny_bind (wpAny_field he rfl (x := .ref it) rfl ?_)
    refine wpAny_bind (wpAny_nextOf_tuple_end (I.ok.hd hc) hit p' (by simp; omega) fun h' x he' hx' => ?_)
    obtain ⟨o, ho, hc'⟩ := hx'
    refine wpAny_bind (wpAny_isInstance (T := "StopIteration") (b := true) ⟨o, ho, hc'⟩ isSubtype_stop ?_)
    exact wpAny_pure ⟨rfl, I.turned (t' := s.toks) (fun b o hb q => he' b o hb q) f0 f1 f3 f4 f5⟩
  self := fun A i s Q E st h => let ⟨⟨_, he⟩, _⟩ := st; wpAny_pyIter_enum he h
theorem meets_enumT (a : Addr) (items : Array Value) (n : Nat) (dct : Option Addr) (sl : Array (Option Value)) :
    Meets (Builtin.«enumerate.__new__» ⟨[.type "enumerate", .ref a], []⟩) (fun _ R s => s.heap.get? a = some { cls := .type "tuple", dict := dct, data := .seq items n, slots := sl } ∧
      R (.ok (.ret (.ref (s.heap.push { cls := .type "tuple_iterator", data := .fields #[.ref a, .int 0 0] }).objs.size)))
        { s with heap := (s.heap.push { cls := .type "tuple_iterator", data := .fields #[.ref a, .int 0 0] }).push { cls := .type "enumerate", data := .fields #[.none, .bool false, .ref s.heap.objs.size, rawInt 0, .none, .none] } }) :=
  .of_wp fun prog w A R s h => by
    obtain ⟨hp, g, d, tk, os⟩ := s; obtain ⟨hl, h⟩ := h
    have hsub := sub_enumerate
    have hT : Heap.IsTuple (Shared.heap ⟨hp, g, d, tk, os⟩) a items := ⟨_, hl, rfl, n, rfl⟩
    have ld := @AutoSeq1.wpAny_loadPart'
    wp_walk using AutoSeq1.wpAny_loadPart' hl
    refine wpAny_stack_any fun st => wpAny_pure ?_
    split
    · rename_i c _ _ _ _ _
      cases (c == Value.type "enumerate")
      · wp_walk using AutoSeq1.wpAny_loadPart' hl, wpAny_pyIter_tuple hT
        exact ⟨_, rfl, h⟩
      · wp_walk using AutoSeq1.wpAny_loadPart' hl, wpAny_pyIter_tuple hT
        exact ⟨_, rfl, h⟩
    · wp_walk using AutoSeq1.wpAny_loadPart' hl, wpAny_pyIter_tuple hT
      exact ⟨_, rfl, h⟩
theorem call_enumT {prog : Program} {w : World} {A : Around} {E : Value → Shared → Prop} {s : Shared} {a : Addr} {items : Array Value} {Q : Value → Shared → Prop} (hL : s.heap.IsTuple a items)
    (h : ∀ h', IsEnum h' (s.heap.objs.size + 1) s.heap.objs.size 0 .none → h'.IsTupleIter s.heap.objs.size a 0 → h'.objs.size = s.heap.objs.size + 2 →
      (∀ b o, s.heap.get? b = some o → h'.get? b = some o) → Q (.ref (s.heap.objs.size + 1)) { s with heap := h' }) :
    wpAny (model prog w) A (call (.type "enumerate") [.ref a]) Q E s := by
  obtain ⟨⟨c, dct, dt, sl⟩, hl, hc, n, hd⟩ := hL
  replace hc : c = .type "tuple" := hc
  replace hd : dt = .seq items n := hd
  subst hc hd
  refine callType_new F.called_enumerate (by decide) (F.typeCall_enumerate_1 _) (F.newCall_enumerate_1 _) (fun obj => F.args_object_init_2 obj _) F.entry_enumerate_new
    (meets_enumT a items n dct sl) ⟨hl, ?_⟩
  have hz : (s.heap.push { cls := .type "tuple_iterator", data := .fields #[.ref a, .int 0 0] }).objs.size = s.heap.objs.size + 1 := Heap.size_push ..
  show _ ∧ _
  rw [hz]
  have he : IsEnum ((s.heap.push { cls := .type "tuple_iterator", data := .fields #[.ref a, .int 0 0] }).push
      { cls := .type "enumerate", data := .fields #[.none, .bool false, .ref s.heap.objs.size, rawInt 0, .none, .none] }) (s.heap.objs.size + 1) s.heap.objs.size 0 .none := by
    have := Heap.get?_push_size (s.heap.push { cls := .type "tuple_iterator", data := .fields #[.ref a, .int 0 0] })
      (o := { cls := .type "enumerate", data := .fields #[.none, .bool false, .ref s.heap.objs.size, rawInt 0, .none, .none] }) rfl
    rw [hz] at this; exact this
  refine ⟨⟨_, he, rfl⟩, h _ he ⟨_, Heap.get?_push_of_some _ (Heap.get?_push_size _ rfl), rfl, rfl⟩ (by rw [Heap.size_push, hz]) fun b o x => Heap.get?_push_of_some _ (Heap.get?_push_of_some _ x)⟩
def iEnumA (K : PySem.W.Frag) (ta : TA) : TI := fun σ H R => ta σ H fun vs H1 => ∃ a xs, vs = [.ref a] ∧ ((SqL K H1 a xs ∧ R (Ite K a) H1) ∨ (SqT K H1 a xs ∧ R (IteT K a) H1))
theorem pi_enumA {ea : Expr} {ta : TA} {p tpos : Pos} {elts : List Expr} {kk : Nat} (hg : Gl X "enumerate") (hm : X.mg "enumerate" = none) (ha : PA X [ea] ta) (hs : starEach [ea] X.env = [(false, eval ea X.env)]) :
    PI X (.Tuple elts kk tpos) (.Call (.Name "enumerate" p) [ea] [] pos) (iEnumA X.K ta) := by
  refine ⟨fun pins s σ H R I h => ?_⟩
  refine Call_ (ld_blt I hg hm boot_enumerate (PyProof.Rows.callWith_type1 (thn (ha.run pos pins s σ H _ I h) fun us s1 ⟨vs, H1, I1, r1, q1⟩ => ?_) hs rfl))
  obtain ⟨a, xs, ex, q⟩ := q1
  subst ex
  cases r1 with
  | cons r rr =>
    cases rr
    cases r
    have fr : ∀ b ∈ [s1.heap.objs.size + 1, s1.heap.objs.size], FpOk X pins H1 b := fun b hb => by
      have e' : b = s1.heap.objs.size + 1 ∨ b = s1.heap.objs.size := by simpa using hb
      have hle : s1.heap.objs.size ≤ b := by
        rcases e' with z | z
        · rw [z]; exact Nat.le_add_right _ _
        · rw [z]; exact Nat.le_refl _
      exact I1.fpOk hle (I1.hok.fresh hle)
    rcases q with ⟨hq, q⟩ | ⟨hq, q⟩
    · obtain ⟨its, rv, p', hz⟩ := I1.list hq
      refine call_enumerate_list p'.isList fun h' he hit hsz hk => wpAny_pyIter_enum he ?_
      have I2 : Inv X pins σ H1 { s1 with heap := h' } := I1.kept (t' := s1.toks) hk
      exact ⟨s1.heap.objs.size + 1, [s1.heap.objs.size + 1, s1.heap.objs.size], _, _, H1, rfl, I2, turn_enum a (s1.heap.objs.size + 1) s1.heap.objs.size, ⟨⟨.none, he⟩, hit, Nat.succ_ne_self _⟩, fr, q⟩
    · obtain ⟨its, rv, p', hz⟩ := I1.tuple hq
      have p2 : s1.heap.IsTuple a its.toArray := p'
      have hlt : a < s1.heap.objs.size := by obtain ⟨o, ho, _⟩ := p2; exact Heap.lt_size ho
      refine call_enumT p2 fun h' he hit hsz hk => wpAny_pyIter_enum he ?_
      have I2 : Inv X pins σ H1 { s1 with heap := h' } := I1.kept (t' := s1.toks) hk
      exact ⟨s1.heap.objs.size + 1, [s1.heap.objs.size + 1, s1.heap.objs.size], _, _, H1, rfl, I2, turn_enumT a (s1.heap.objs.size + 1) s1.heap.objs.size (Nat.ne_of_lt hlt) (Nat.ne_of_gt (Nat.lt_succ_of_lt hlt)), ⟨⟨.none, he⟩, hit, Nat.succ_ne_self _⟩, fr, q⟩
/-- what enumerate and zip walk: pairs, each new -/
theorem walk_pair {J : L2.It} {ds : List D} (hgo : ∀ m2 w2 H2, Sub m w H m2 w2 H2 → ∀ i d, ds[i]? = some d → J.go i H2 ∧ ∀ x H3, J.yld i H2 x H3 → ∃ T u v du dv, x = .ref T ∧ H2 T = none ∧ H3 = upd H2 T (.tup [u, v]) ∧ d = .tup [du, dv] ∧ R G m2.F m2.rho w2.length H2 u du ∧ R G m2.F m2.rho w2.length H2 v dv)
    (hst : ∀ m2 w2 H2, Sub m w H m2 w2 H2 → ∀ i, ds.length ≤ i → J.stop i H2) : WalkD G m w H J ds := fun m2 w2 H2 x r2 => by
  refine ⟨fun i d hd => ?_, hst m2 w2 H2 x⟩
  obtain ⟨h1, h2⟩ := hgo m2 w2 H2 x i d hd
  refine ⟨h1, fun y H3 hy => ?_⟩
  obtain ⟨T, u, v, du, dv, rfl, hT, rfl, rfl, ru, rv⟩ := h2 y H3 hy
  have rl : Rel G m2 [] w2 [] H2 := ⟨r2, rfl, fun i s h => by simp at h, fun i j d d' h => by simp at h⟩
  obtain ⟨xt, _⟩ := rl.new hT (.tup [u, v])
  refine ⟨m2.add T, xt, fun e σ r => (r.new hT _).2, ?_⟩
  exact .tup (.inl ⟨.inl rfl, upd_same⟩) (by show 2 ≤ SZ; decide) (.cons (ru.ext xt) (.cons (rv.ext xt) .nil))
theorem RA.get' {vs : List V} {ds : List D} {i : Nat} {v : V} (h : RA G m.F m.rho w.length H vs ds) (e : vs[i]? = some v) : ∃ d, ds[i]? = some d ∧ R G m.F m.rho w.length H v d := by
  have hl := h.length
  have hi : i < ds.length := by rw [← hl]; exact (List.getElem?_eq_some_iff.mp e).1
  obtain ⟨u, hu, ru⟩ := h.get (List.getElem?_eq_getElem hi)
  rw [e] at hu
  cases hu
  exact ⟨_, List.getElem?_eq_getElem hi, ru⟩
theorem enumD_get (xs : List D) (i : Nat) : (enumD xs)[i]? = (xs[i]?).map fun x => .tup [.int i, x] := by
  unfold enumD
  rw [List.getElem?_mapIdx]
theorem i_enum {ea : Expr} {p tpos : Pos} {elts : List Expr} {kk : Nat} {xs : Xs} (hK : X.K = G.K) (hg : Gl X "enumerate") (hm : X.mg "enumerate" = none) (ha : PA X [ea] (TS' G xf Wx C xs)) (hs : starEach [ea] X.env = [(false, eval ea X.env)]) (h1 : xs.len = 1) :
    PI X (.Tuple elts kk tpos) (.Call (.Name "enumerate" p) [ea] [] pos) (TI' G xf Wx C (.enum xs)) := by
  refine ⟨fun pins s σ H R I ⟨m, e, w, r, q⟩ => (pi_enumA hg hm ha hs).run pins s σ H R I ?_⟩
  rw [evI] at q
  refine ⟨m, e, w, r, ev_len r q fun ds w1 vs m1 H1 x1 r1 y1 hl q1 => ?_⟩
  rw [h1] at hl
  obtain ⟨d, rfl⟩ := len1 hl
  cases y1 with
  | cons y t =>
    cases t
    cases d <;> first | exact PostE.stk_elim (by exact q1) | skip
    · cases y with
      | @tup a us _ t1 l1 z1 =>
        refine ⟨a, us, rfl, .inr ⟨by rw [hK]; exact t1.sq, PostE.val (by exact q1) r1 (walk_pair (fun m2 w2 H2 x i d hd => ?_) fun m2 w2 H2 x i hi => ?_)⟩⟩
        · have t2 : SqT X.K H2 a us := by
            rw [hK]
            rcases t1 with ⟨h1, h2⟩ | h1
            · exact .of ((x.aF a h1).trans h2)
            · exact .inr h1
          rw [enumD_get] at hd
          obtain ⟨d', hd', rfl⟩ := Option.map_eq_some_iff.mp hd
          obtain ⟨u, hu, ru⟩ := (z1.sub x).get hd'
          refine ⟨⟨us, u, t2, hu⟩, fun y H3 ⟨T, u', e1, e2, e3, e4⟩ => ?_⟩
          have e5 := e4 us t2
          rw [hu] at e5
          cases e5
          exact ⟨T, _, _, _, _, e1, e2, e3, rfl, .int _, ru⟩
        · have t2 : SqT X.K H2 a us := by
            rw [hK]
            rcases t1 with ⟨h1, h2⟩ | h1
            · exact .of ((x.aF a h1).trans h2)
            · exact .inr h1
          exact ⟨us, t2, by rw [z1.length]; simpa [enumD] using hi⟩
    · cases y with
      | @lst a us _ f1 t1 l1 z1 =>
        refine ⟨a, us, rfl, .inl ⟨.of t1, PostE.val (by exact q1) r1 (walk_pair (fun m2 w2 H2 x i d hd => ?_) fun m2 w2 H2 x i hi => ?_)⟩⟩
        · have t2 : SqL X.K H2 a us := .of ((x.aF a f1).trans t1)
          rw [enumD_get] at hd
          obtain ⟨d', hd', rfl⟩ := Option.map_eq_some_iff.mp hd
          obtain ⟨u, hu, ru⟩ := (z1.sub x).get hd'
          refine ⟨⟨us, u, t2, hu⟩, fun y H3 ⟨T, u', e1, e2, e3, e4⟩ => ?_⟩
          have e5 := e4 us t2
          rw [hu] at e5
          cases e5
          exact ⟨T, _, _, _, _, e1, e2, e3, rfl, .int _, ru⟩
        · have t2 : SqL X.K H2 a us := .of ((x.aF a f1).trans t1)
          exact ⟨us, t2, by rw [z1.length]; simpa [enumD] using hi⟩
/-! ### zip of a list and a tuple, either way -/
/-- the sequence at an address: a tuple (true) or a list -/
def SqM (b : Bool) (K : PySem.W.Frag) (H : Hp) (a : Addr) (xs : List V) : Prop := match b with
  | true => SqT K H a xs
  | false => SqL K H a xs
/-- its iterator -/
def ItM (b : Bool) (h : Heap) (it a : Addr) (i : Nat) : Prop := match b with
  | true => h.IsTupleIter it a i
  | false => h.IsListIter it a i
def CtM (b : Bool) (h : Heap) (a : Addr) (its : Array Value) : Prop := match b with
  | true => h.IsTuple a its
  | false => h.IsList a its
theorem ItM.at {b : Bool} {h h' : Heap} {it a : Addr} {i : Nat} (x : ItM b h it a i) (k : ∀ o, h.get? it = some o → h'.get? it = some o) : ItM b h' it a i := by
  cases b with
  | true => exact Heap.IsTupleIter.at x k
  | false => exact Heap.IsListIter.at x k
theorem ItM.obj {b : Bool} {h : Heap} {it a : Addr} {i : Nat} (x : ItM b h it a i) : ∃ o, h.get? it = some o ∧ ∀ v, o.data ≠ .cell v := by
  cases b with
  | true =>
    obtain ⟨o, e, _, d⟩ := x
    exact ⟨o, e, fun v q => by rw [d] at q; cases q⟩
  | false =>
    obtain ⟨o, e, _, d⟩ := x
    exact ⟨o, e, fun v q => by rw [d] at q; cases q⟩
theorem SqM.read {b : Bool} {X : Cx} {pins : List (Addr × Obj)} {σ : L2.St} {H : Hp} {s : Shared} {a : Addr} {xs : List V} (I : Inv X pins σ H s) (q : SqM b X.K H a xs) : ∃ its : List Value, Vals xs its ∧ CtM b s.heap a its.toArray ∧ a < s.heap.objs.size := by
  cases b with
  | true =>
    obtain ⟨its, rv, p, _⟩ := I.tuple q
    have p' : s.heap.IsTuple a its.toArray := p
    exact ⟨its, rv, p', by obtain ⟨o, ho, _⟩ := p'; exact Heap.lt_size ho⟩
  | false =>
    obtain ⟨its, rv, p, _⟩ := I.list q
    exact ⟨its, rv, p.isList, p.lt⟩
theorem SqM.inj {b : Bool} {X : Cx} {pins : List (Addr × Obj)} {σ : L2.St} {H : Hp} {s : Shared} {a : Addr} {xs ys : List V} (I : Inv X pins σ H s) (p : SqM b X.K H a xs) (q : SqM b X.K H a ys) : xs = ys := by
  cases b with
  | true => exact I.tuple_inj p q
  | false => exact I.list_inj p q
/-- what is drawn -/
theorem draws_go {b : Bool} {prog : Program} {w : World} {A : Around} (hh : A.handled = none) {it a : Addr} (hne : a ≠ it) (its : Array Value) :
    Draws prog w A it [it, a] its.size (fun i v => its[i]? = some v) (fun i h => ItM b h it a i ∧ CtM b h a its) := by
  cases b with
  | true => exact Draws.tuple hh it a hne its
  | false => exact Draws.list hh it a hne its
/-- at its end -/
theorem draws_end {b : Bool} {prog : Program} {w : World} {A : Around} (hh : A.handled = none) {it a : Addr} (its : Array Value) (n : Nat) (hn : its.size ≤ n) :
    Draws prog w A it [it, a] n (fun _ _ => True) (fun i h => i = n ∧ ItM b h it a n ∧ CtM b h a its) where
  live := fun i h st => by
    obtain ⟨o, e, _⟩ := st.2.1.obj
    exact ⟨o, e⟩
  frame := fun i h h' st hk => ⟨st.1, st.2.1.at fun o e => hk it (by simp) o e, by
    obtain ⟨_, _, c⟩ := st
    cases b with
    | true => exact Heap.IsTuple.at c fun o e => hk a (by simp) o e
    | false => exact Heap.IsList.at c fun o e => hk a (by simp) o e⟩
  item := fun i s Q E hi st _ => absurd st.1 (by omega)
  done := fun s Q E st hE => by
    have hx : its[n]? = none := by simp; omega
    cases b with
    | true => exact wpAny_nextOf_tuple_end hh st.2.1 st.2.2 hx hE
    | false => exact wpAny_nextOf_list_end hh st.2.1 st.2.2 hx hE
def ItzM (b c : Bool) (K : PySem.W.Frag) (a a' : Addr) : L2.It :=
  ⟨fun i H => ∃ (xs ys : List V) (x y : V), SqM b K H a xs ∧ SqM c K H a' ys ∧ xs[i]? = some x ∧ ys[i]? = some y,
    fun i H v H' => ∃ T x y, v = .ref T ∧ H T = none ∧ H' = upd H T (.tup [x, y]) ∧ (∀ l, SqM b K H a l → l[i]? = some x) ∧ ∀ l, SqM c K H a' l → l[i]? = some y,
    fun i H => ∃ xs ys : List V, SqM b K H a xs ∧ SqM c K H a' ys ∧ (xs.length ≤ i ∨ ys.length ≤ i)⟩
theorem turn_zipM {b c : Bool} {P : Program} {w : World} {K : PySem.W.Frag} {elts : List Expr} {kk : Nat} {tpos : Pos} {a a' z TI TO i1 i2 : Addr} (S : ZipSep2 z TI TO i1 i2 [i1, a] [i2, a']) (n1 : a ≠ i1) (n2 : a' ≠ i2) :
    Turn P w K (.Tuple elts kk tpos) (ItzM b c K a a') [z, TI, TO, i1, i2] z (fun i h => IsZip h z TI TO .none ∧ IsTupOf2 h TI (.ref i1) (.ref i2) ∧ (∃ x y, IsTupOf2 h TO x y) ∧ ItM b h i1 a i ∧ ItM c h i2 a' i) where
  mem := by simp
  obj := fun i h st f hf => by
    obtain ⟨hz, hTI, ⟨x, y, hTO⟩, h1, h2⟩ := st
    rcases (show f = z ∨ f = TI ∨ f = TO ∨ f = i1 ∨ f = i2 by simpa using hf) with rfl | rfl | rfl | rfl | rfl
    · exact ⟨_, hz, fun v q => nomatch q⟩
    · exact ⟨_, hTI, fun v q => nomatch q⟩
    · exact ⟨_, hTO, fun v q => nomatch q⟩
    · exact h1.obj
    · exact h2.obj
  keep := fun i h h' st k => by
    obtain ⟨hz, hTI, ⟨x, y, hTO⟩, h1, h2⟩ := st
    refine ⟨k z (by simp) _ hz, k TI (by simp) _ hTI, ⟨x, y, k TO (by simp) _ hTO⟩, h1.at ?_, h2.at ?_⟩
    · exact fun o q => k i1 (by simp) o q
    · exact fun o q => k i2 (by simp) o q
  item := by
    intro X hP hw hK hc i pins s σ H E I hf st hg
    subst hP hw hK
    obtain ⟨hz, hTI, ⟨x0, y0, hTO⟩, h1, h2⟩ := st
    obtain ⟨xs, ys, x, y, qx, qy, hx, hy⟩ := hg
    obtain ⟨its, rv, p1, _⟩ := qx.read I
    obtain ⟨jts, rw_, p2, _⟩ := qy.read I
    obtain ⟨u, hu, ru⟩ := rv.get hx
    obtain ⟨v, hv, rv2⟩ := rw_.get hy
    have hzl : z < s.heap.objs.size := Heap.lt_size hz
    have hh : X.A.in1.handled = none := I.ok.hd hc
    have l1 : i < its.toArray.size := by simpa using (List.getElem?_eq_some_iff.mp hu).1
    have l2 : i < jts.toArray.size := by simpa using (List.getElem?_eq_some_iff.mp hv).1
    refine wpAny_pyNext_zipD2_item S (draws_go (b := b) hh n1 its.toArray) (draws_go (b := c) hh n2 jts.toArray) hz hTI hTO ⟨h1, p1⟩ ⟨h2, p2⟩ l1 l2 fun u1 v1 h' tk g1 g2 z' o' s1 s2 hT hsz hk => ?_
    have e1 : u1 = u := by
      have : its[i]? = some u1 := by simpa using g1
      rw [hu] at this
      exact (Option.some.inj this).symm
    have e2 : v1 = v := by
      have : jts[i]? = some v1 := by simpa using g2
      rw [hv] at this
      exact (Option.some.inj this).symm
    subst e1 e2
    refine ⟨_, rfl, wpAny_letOwnedTupleGo_zip (s := { s with heap := h', toks := tk }) z' fun h2' z2 sb => ?_⟩
    have ht : h2'.get? s.heap.objs.size = some { cls := .type "tuple", data := .seq #[u1, v1] } := (sb.2 _ (Nat.ne_of_gt hzl)).trans hT
    have new : ObjOk X.prog X.w (upd H s.heap.objs.size (.tup [x, y])) h2' s.heap.objs.size (.tup [x, y]) := ⟨by show 2 ≤ sizeLine; decide, [u1, v1], .cons ru (.cons rv2 .nil), ⟨_, ht, rfl, _, rfl⟩⟩
    have kk' : ∀ f o, f ∉ [z, TI, TO, i1, i2] → s.heap.get? f = some o → h2'.get? f = some o := fun f o hn q => by
      simp only [List.mem_cons, List.not_mem_nil, or_false, not_or] at hn
      exact (sb.2 f hn.1).trans (hk f o hn.1 hn.2.2.1 hn.2.2.2.1 hn.2.2.2.2 q)
    have I1 : Inv X pins σ (upd H s.heap.objs.size (.tup [x, y])) { s with heap := h2', toks := tk } := I.turnedNew (ch := [z, TI, TO, i1, i2]) kk' hf (Nat.le_refl _) new
    have f1 : ItM b h2' i1 a (i + 1) := s1.1.at fun o q => (sb.2 _ S.zi1.symm).trans q
    have f2 : ItM c h2' i2 a' (i + 1) := s2.1.at fun o q => (sb.2 _ S.zi2.symm).trans q
    have fTI : IsTupOf2 h2' TI (.ref i1) (.ref i2) := (sb.2 _ S.TIz).trans (hk _ _ S.TIz S.TITO S.TIi1 S.TIi2 hTI)
    have fTO : IsTupOf2 h2' TO u1 v1 := (sb.2 _ S.TOz).trans o'
    refine ⟨.ref s.heap.objs.size, _, I1, rfl, ⟨_, x, y, rfl, I.hok.fresh (Nat.le_refl _), rfl, fun l hl => by rw [hl.inj I qx]; exact hx, fun l hl => by rw [hl.inj I qy]; exact hy⟩, ⟨z2, fTI, ⟨u1, v1, fTO⟩, f1, f2⟩, fun f hm => ?_⟩
    have hlt : f < s.heap.objs.size := by
      rcases (show f = z ∨ f = TI ∨ f = TO ∨ f = i1 ∨ f = i2 by simpa using hm) with rfl | rfl | rfl | rfl | rfl
      · exact hzl
      · exact Heap.lt_size hTI
      · exact Heap.lt_size hTO
      · obtain ⟨_, e, _⟩ := h1.obj; exact Heap.lt_size e
      · obtain ⟨_, e, _⟩ := h2.obj; exact Heap.lt_size e
    rw [upd_ne (Nat.ne_of_lt hlt)]
    exact (hf f hm).1
  done := by
    intro X hP hw hK hc i pins s σ H E I hf st hg
    subst hP hw hK
    obtain ⟨hz, hTI, ⟨x0, y0, hTO⟩, h1, h2⟩ := st
    obtain ⟨xs, ys, qx, qy, hend⟩ := hg
    obtain ⟨its, rv, p1, _⟩ := qx.read I
    obtain ⟨jts, rw_, p2, _⟩ := qy.read I
    have hh : X.A.in1.handled = none := I.ok.hd hc
    have e1 := rv.length
    have e2 := rw_.length
    have fin : ∀ h' tk, (∀ f o, f ≠ z → f ≠ TO → f ≠ i1 → f ≠ i2 → s.heap.get? f = some o → h'.get? f = some o) → (none : Option Value) = none ∧ Inv X pins σ H { s with heap := h', toks := tk } := fun h' tk hk => by
      refine ⟨rfl, I.turnedL (ch := [z, TI, TO, i1, i2]) (fun f o hn q => ?_) hf⟩
      simp only [List.mem_cons, List.not_mem_nil, or_false, not_or] at hn
      exact hk f o hn.1 hn.2.2.1 hn.2.2.2.1 hn.2.2.2.2 q
    by_cases c1 : its.toArray.size ≤ i
    · by_cases c2 : jts.toArray.size ≤ i
      · exact wpAny_pyNext_zipD2_end S (draws_end (b := b) hh its.toArray i c1) (draws_end (b := c) hh jts.toArray i c2) hz hTI hTO ⟨rfl, h1, p1⟩ ⟨rfl, h2, p2⟩ (Nat.le_refl _) (Nat.le_refl _) (.inl rfl) fin
      · exact wpAny_pyNext_zipD2_end S (draws_end (b := b) hh its.toArray i c1) (draws_go (b := c) hh n2 jts.toArray) hz hTI hTO ⟨rfl, h1, p1⟩ ⟨h2, p2⟩ (Nat.le_refl _) (by omega) (.inl rfl) fin
    · have c2 : jts.toArray.size ≤ i := by
        simp at c1 ⊢
        omega
      exact wpAny_pyNext_zipD2_end S (draws_go (b := b) hh n1 its.toArray) (draws_end (b := c) hh jts.toArray i c2) hz hTI hTO ⟨h1, p1⟩ ⟨rfl, h2, p2⟩ (by omega) (Nat.le_refl _) (.inr rfl) fin
  self := fun A i s Q E st h => wpAny_pyIter_zip st.1 h
theorem zipD_get (xs ys : List D) (i : Nat) (d : D) (h : (zipD xs ys)[i]? = some d) : ∃ a b, xs[i]? = some a ∧ ys[i]? = some b ∧ d = .tup [a, b] := by
  unfold zipD at h
  rw [List.getElem?_zipWith] at h
  cases h1 : xs[i]? with
  | none => simp [h1] at h
  | some a =>
    cases h2 : ys[i]? with
    | none => simp [h1, h2] at h
    | some b =>
      simp [h1, h2] at h
      exact ⟨a, b, rfl, rfl, h.symm⟩
theorem begM (b : Bool) (a : Addr) (its : Array Value) : ∃ o : Obj, Begins (.ref a) o (fun h => CtM b h a its) ∧ ∀ (h : Heap) (it : Addr), h.get? it = some o → ItM b h it a 0 := by
  cases b with
  | true => exact ⟨_, begins_tuple a its, fun h it e => ⟨_, e, rfl, rfl⟩⟩
  | false => exact ⟨_, begins_list a its, fun h it e => ⟨_, e, rfl, rfl⟩⟩
def iZipM (K : PySem.W.Frag) (ta : TA) : TI := fun σ H R => ta σ H fun vs H1 => ∃ bb cc a b xs ys, vs = [.ref a, .ref b] ∧ SqM bb K H1 a xs ∧ SqM cc K H1 b ys ∧ R (ItzM bb cc K a b) H1
theorem pi_zipM {ea eb : Expr} {ta : TA} {p tpos : Pos} {elts : List Expr} {kk : Nat} (hg : Gl X "zip") (hm : X.mg "zip" = none) (ha : PA X [ea, eb] ta)
    (hs : starEach [ea, eb] X.env = (false, eval ea X.env) :: starEach [eb] X.env) (hpl : (backTo pos (starEach [eb] X.env)).any (·.1) = false) :
    PI X (.Tuple elts kk tpos) (.Call (.Name "zip" p) [ea, eb] [] pos) (iZipM X.K ta) := by
  refine ⟨fun pins s σ H R I h => ?_⟩
  have run := ha.run pos pins s σ H _ I h
  refine Call_ (ld_blt I hg hm PyProof.Rows.boot_zip (PyProof.Rows.callWith_type1 (thn run ?_) hs hpl))
  intro us s1 ⟨vs, H1, I1, r1, bb, cc, a, b, xs, ys, ex, qx, qy, q⟩
  subst ex
  match r1 with
  | .cons r (.cons r' .nil) =>
    cases r
    cases r'
    obtain ⟨its, rv, p1, l1⟩ := qx.read I1
    obtain ⟨jts, rw_, p2, l2⟩ := qy.read I1
    obtain ⟨o1, B1, g1⟩ := begM bb a its.toArray
    obtain ⟨o2, B2, g2⟩ := begM cc b jts.toArray
    refine zip_begins2 B1 B2 p1 p2 fun h' hz hTI hTO e1 e2 hsz hk => wpAny_pyIter_zip hz ?_
    have I2 : Inv X pins σ H1 { s1 with heap := h' } := I1.kept (t' := s1.toks) hk
    have S : ZipSep2 (s1.heap.objs.size + 4) (s1.heap.objs.size + 2) (s1.heap.objs.size + 3) s1.heap.objs.size (s1.heap.objs.size + 1) [s1.heap.objs.size, a] [s1.heap.objs.size + 1, b] :=
      zip_sep2 (fun f hf => by rw [List.mem_singleton.mp hf]; exact l1) (fun f hf => by rw [List.mem_singleton.mp hf]; exact l2)
    have fr : ∀ f ∈ [s1.heap.objs.size + 4, s1.heap.objs.size + 2, s1.heap.objs.size + 3, s1.heap.objs.size, s1.heap.objs.size + 1], FpOk X pins H1 f := fun f hf => by
      have hle : s1.heap.objs.size ≤ f := by
        simp only [List.mem_cons, List.not_mem_nil, or_false] at hf
        rcases hf with rfl | rfl | rfl | rfl | rfl
        · exact Nat.le_add_right _ _
        · exact Nat.le_add_right _ _
        · exact Nat.le_add_right _ _
        · exact Nat.le_refl _
        · exact Nat.le_add_right _ _
      exact I1.fpOk hle (I1.hok.fresh hle)
    have t := turn_zipM (b := bb) (c := cc) (P := X.prog) (w := X.w) (K := X.K) (elts := elts) (kk := kk) (tpos := tpos) S (Nat.ne_of_lt l1) (Nat.ne_of_lt (Nat.lt_succ_of_lt l2))
    exact ⟨_, _, _, _, H1, rfl, I2, t, ⟨hz, hTI, ⟨_, _, hTO⟩, g1 _ _ e1, g2 _ _ e2⟩, fr, q⟩
theorem i_zip {ea eb : Expr} {p tpos : Pos} {elts : List Expr} {kk : Nat} {xs : Xs} (hK : X.K = G.K) (hg : Gl X "zip") (hm : X.mg "zip" = none) (ha : PA X [ea, eb] (TS' G xf Wx C xs))
    (hs : starEach [ea, eb] X.env = (false, eval ea X.env) :: starEach [eb] X.env) (hpl : (backTo pos (starEach [eb] X.env)).any (·.1) = false) (h1 : xs.len = 2) :
    PI X (.Tuple elts kk tpos) (.Call (.Name "zip" p) [ea, eb] [] pos) (TI' G xf Wx C (.zip xs)) := by
  refine ⟨fun pins s σ H R I ⟨m, e, w, r, q⟩ => (pi_zipM hg hm ha hs hpl).run pins s σ H R I ?_⟩
  rw [evI] at q
  refine ⟨m, e, w, r, ev_len r q fun ds w1 vs m1 H1 x1 r1 y1 hl q1 => ?_⟩
  rw [h1] at hl
  obtain ⟨d, d', rfl⟩ := len2 hl
  have tt : ∀ {m2 w2 H2}, Sub m1 w1 H1 m2 w2 H2 → ∀ {a us}, TupAt G m1.F H1 a us → SqM true X.K H2 a us := fun x a us t1 => by
    show SqT X.K _ a us
    rw [hK]
    rcases t1 with ⟨h1, h2⟩ | h1
    · exact .of ((x.aF a h1).trans h2)
    · exact .inr h1
  have tl : ∀ {m2 w2 H2}, Sub m1 w1 H1 m2 w2 H2 → ∀ {a us}, m1.F a → H1 a = some (.lst us) → SqM false X.K H2 a us := fun x a us f1 t1 => .of ((x.aF a f1).trans t1)
  have s0 : Sub m1 w1 H1 m1 w1 H1 := (Ext.refl m1 w1 H1).sub
  have fin : ∀ (bb cc : Bool) (a a' : Addr) (us us' : List V) (ds ds' : List D), (∀ {m2 w2 H2}, Sub m1 w1 H1 m2 w2 H2 → SqM bb X.K H2 a us) → (∀ {m2 w2 H2}, Sub m1 w1 H1 m2 w2 H2 → SqM cc X.K H2 a' us') → RA G m1.F m1.rho w1.length H1 us ds → RA G m1.F m1.rho w1.length H1 us' ds' →
      WalkD G m1 w1 H1 (ItzM bb cc X.K a a') (zipD ds ds') := fun bb cc a a' us us' ds ds' t1 t2 z1 z2 => by
    refine walk_pair (fun m2 w2 H2 x i d hd => ?_) fun m2 w2 H2 x i hi => ?_
    · obtain ⟨p1, p2, hp1, hp2, rfl⟩ := zipD_get _ _ _ _ hd
      obtain ⟨u, hu, ru⟩ := (z1.sub x).get hp1
      obtain ⟨v, hv, rv⟩ := (z2.sub x).get hp2
      refine ⟨⟨us, us', u, v, t1 x, t2 x, hu, hv⟩, fun y H3 ⟨T, u', v', e1, e2, e3, e4, e5⟩ => ?_⟩
      have e6 := e4 us (t1 x)
      have e7 := e5 us' (t2 x)
      rw [hu] at e6
      rw [hv] at e7
      cases e6
      cases e7
      exact ⟨T, _, _, _, _, e1, e2, e3, rfl, ru, rv⟩
    · refine ⟨us, us', t1 x, t2 x, ?_⟩
      rw [z1.length, z2.length]
      unfold zipD at hi
      rw [List.length_zipWith] at hi
      omega
  cases y1 with
  | cons y t => cases t with
    | cons y' t =>
      cases t
      cases d <;> first | exact PostE.stk_elim (by exact q1) | skip
      · cases d' <;> first | exact PostE.stk_elim (by exact q1) | skip
        · cases y with
          | @tup a us _ t1 l1 z1 => cases y' with
            | @tup a' us' _ t1' l1' z1' => exact ⟨true, true, a, a', us, us', rfl, tt s0 t1, tt s0 t1', PostE.val (by exact q1) r1 (fin true true a a' us us' _ _ (fun x => tt x t1) (fun x => tt x t1') z1 z1')⟩
        · cases y with
          | @tup a us _ t1 l1 z1 => cases y' with
            | @lst a' us' _ f1' t1' l1' z1' => exact ⟨true, false, a, a', us, us', rfl, tt s0 t1, tl s0 f1' t1', PostE.val (by exact q1) r1 (fin true false a a' us us' _ _ (fun x => tt x t1) (fun x => tl x f1' t1') z1 z1')⟩
      · cases d' <;> first | exact PostE.stk_elim (by exact q1) | skip
        · cases y with
          | @lst a us _ f1 t1 l1 z1 => cases y' with
            | @tup a' us' _ t1' l1' z1' => exact ⟨false, true, a, a', us, us', rfl, tl s0 f1 t1, tt s0 t1', PostE.val (by exact q1) r1 (fin false true a a' us us' _ _ (fun x => tl x f1 t1) (fun x => tt x t1') z1 z1')⟩
        · cases y with
          | @lst a us _ f1 t1 l1 z1 => cases y' with
            | @lst a' us' _ f1' t1' l1' z1' => exact ⟨false, false, a, a', us, us', rfl, tl s0 f1 t1, tl s0 f1' t1', PostE.val (by exact q1) r1 (fin false false a a' us us' _ _ (fun x => tl x f1 t1) (fun x => tl x f1' t1') z1 z1')⟩
end
end Ev

set_option maxRecDepth 100000
set_option maxHeartbeats 4000000
/-! Targets; comprehensions. -/
namespace Ev
open PySem PySem.Spec PyProof.Rows L2

def tgSl : Tg → List Nat
  | .n i => [i]
  | .t ts => go ts
where go : List Tg → List Nat
  | [] => []
  | t :: ts => tgSl t ++ go ts
def Off {α : Type} (vs : List Nat) (a b : List α) : Prop := a.length = b.length ∧ ∀ i, i ∉ vs → a[i]? = b[i]?
theorem Off.refl {α : Type} (vs : List Nat) (a : List α) : Off vs a a := ⟨rfl, fun _ _ => rfl⟩
theorem Off.set {α : Type} (i : Nat) (a : List α) (x : α) : Off [i] a (a.set i x) := ⟨by simp, fun j h => by
  rw [List.getElem?_set_ne]
  simp at h
  exact fun e => h e.symm⟩
theorem Off.trans {α : Type} {vs us : List Nat} {a b c : List α} (h : Off vs a b) (k : Off us b c) : Off (vs ++ us) a c :=
  ⟨h.1.trans k.1, fun i hi => by
    simp only [List.mem_append, not_or] at hi
    exact (h.2 i hi.1).trans (k.2 i hi.2)⟩
section
variable {G : GG} {xf : Nat → Option Str} {Wx : L2.WX} {m m' m1 : Fm} {w w' w1 : Wd} {H H' H1 : Hp} {e e' : Env} {σ : L2.St} {C : Cfg} {X : Cx} {pos : Pos}
theorem Rel.setVal (r : Rel G m e w σ H) {i : Nat} {v : V} {d : D} (hi : i < e.length) (y : R G m.F m.rho w.length H v d) : Rel G m (e.set i (.val d)) w (σ.set i (some v)) H := by
  refine ⟨r.toRelW, by simp [r.len], fun j s h => ?_, fun j k d1 d2 h1 h2 => ?_⟩
  · by_cases hj : i = j
    · subst hj
      rw [List.getElem?_set_self hi] at h
      cases h
      exact ⟨v, by rw [List.getElem?_set_self (by rw [r.len]; exact hi)], y⟩
    · rw [List.getElem?_set_ne hj] at h
      have q := r.sl j s h
      cases s with
      | un => trivial
      | val d => obtain ⟨u, h1, h2⟩ := q; exact ⟨u, by rw [List.getElem?_set_ne hj]; exact h1, h2⟩
      | own d => obtain ⟨h1, h2⟩ := q; exact ⟨by rw [List.getElem?_set_ne hj]; exact h1, h2⟩
      | exc c x => exact q
  · have hj : i ≠ j := fun z => by subst z; rw [List.getElem?_set_self hi] at h1; cases h1
    have hk : i ≠ k := fun z => by subst z; rw [List.getElem?_set_self hi] at h2; cases h2
    rw [List.getElem?_set_ne hj] at h1
    rw [List.getElem?_set_ne hk] at h2
    exact r.oinj j k d1 d2 h1 h2
variable (G) in
def TGt (tg : Tg) : TG := fun v σ H Q => ∃ m e w d e', Rel G m e w σ H ∧ R G m.F m.rho w.length H v d ∧ bindTg tg d e = some e' ∧ ∀ σ', Rel G m e' w σ' H → Off (tgSl tg) σ σ' → Off (tgSl tg) e e' → Q σ' H
variable (G) in
def TGts (ts : List Tg) : TGs := fun vs σ H Q => ∃ m e w ds e', Rel G m e w σ H ∧ RA G m.F m.rho w.length H vs ds ∧ bindTg.go ts ds e = some e' ∧ ∀ σ', Rel G m e' w σ' H → Off (tgSl.go ts) σ σ' → Off (tgSl.go ts) e e' → Q σ' H
theorem pg_weak {tg : Expr} {t t' : TG} (h : PG X tg t) (hw : ∀ v σ H Q, t' v σ H Q → t v σ H Q) : PG X tg t' := ⟨fun pins s σ H v u Q I r q => h.run pins s σ H v u Q I r (hw v σ H Q q)⟩
theorem pgs_weak {tg : List Expr} {t t' : TGs} (h : PGs X tg t) (hw : ∀ v σ H Q, t' v σ H Q → t v σ H Q) : PGs X tg t' := ⟨fun pins s σ H v u Q I r q => h.run pins s σ H v u Q I r (hw v σ H Q q)⟩
theorem g_n {i : Nat} {x : Str} (hN : X.N.Nodup) (hi : X.N[i]? = some x) (hx : Loc X.env.scope x) (hf : X.fn x = true ∨ X.env.scope.names.lookup x = some .local) : PG X (.Name x pos) (TGt G (.n i)) :=
  pg_weak (pg_name hN hi hx hf) fun v σ H Q ⟨m, e, w, d, e', r, y, b, q⟩ => by
    rw [bindTg] at b
    by_cases h : i < e.length
    · rw [if_pos h] at b
      cases b
      exact q _ (r.setVal h y) (.set i σ _) (.set i e _)
    · rw [if_neg h] at b; cases b
theorem gs_nil : PGs X [] (TGts G []) := pgs_weak pgs_nil fun vs σ H Q ⟨m, e, w, ds, e', r, y, b, q⟩ => by
  cases ds with
  | nil =>
    cases y
    rw [bindTg.go] at b
    cases b
    exact ⟨rfl, q σ r (.refl _ _) (.refl _ _)⟩
  | cons d ds => rw [bindTg.go] at b <;> first | cases b | simp
theorem gs_cons {t : Expr} {ts : List Expr} {g : Tg} {gs : List Tg} (h1 : PG X t (TGt G g)) (h2 : PGs X ts (TGts G gs)) (hs : (assignEach (t :: ts) X.env).map (·.2) = assign t X.env :: (assignEach ts X.env).map (·.2)) : PGs X (t :: ts) (TGts G (g :: gs)) :=
  pgs_weak (pgs_cons h1 h2 hs) fun vs σ H Q ⟨m, e, w, ds, e', r, y, b, q⟩ => by
    cases y with
    | nil => rw [bindTg.go] at b <;> first | cases b | simp
    | @cons v d vs ds r1 y =>
      rw [bindTg.go] at b
      cases h : bindTg g d e with
      | none => rw [h] at b; cases b
      | some e1 =>
        rw [h] at b
        refine ⟨v, vs, rfl, m, e, w, d, e1, r, r1, h, fun σ' r' o1 o2 => ⟨m, e1, w, ds, e', r', y, b, fun σ2 r2 o3 o4 => q σ2 r2 ?_ ?_⟩⟩
        · rw [tgSl.go]; exact o1.trans o3
        · rw [tgSl.go]; exact o2.trans o4
theorem go_len : ∀ (gs : List Tg) (ds : List D) (e e' : Env), bindTg.go gs ds e = some e' → ds.length = gs.length
  | [], [], _, _, _ => rfl
  | [], _ :: _, _, _, h => by rw [bindTg.go] at h <;> first | cases h | simp
  | _ :: _, [], _, _, h => by rw [bindTg.go] at h <;> first | cases h | simp
  | g :: gs, d :: ds, e, e', h => by
    rw [bindTg.go] at h
    cases q : bindTg g d e with
    | none => rw [q] at h; cases h
    | some e1 =>
      rw [q] at h
      simp [go_len gs ds e1 e' h]
theorem g_t {ts : List Expr} {k : Nat} {gs : List Tg} (hK : X.K = G.K) (hc : X.calm = true) (h : PGs X ts (TGts G gs)) (hn : (assignEach ts X.env).length = gs.length) (hst : (assignEach ts X.env).findIdx? (·.1) = none) : PG X (.Tuple ts k pos) (TGt G (.t gs)) :=
  pg_weak (pg_tup hc h hn hst) fun v σ H Q ⟨m, e, w, d, e', r, y, b, q⟩ => by
    cases d <;> first | (rw [bindTg] at b <;> first | cases b | simp) | skip
    rw [bindTg] at b
    cases y with
    | @tup a vs _ t1 l1 z1 =>
      refine ⟨a, vs, rfl, by rw [hK]; exact t1.sq, by rw [z1.length]; exact go_len _ _ _ _ b, m, e, w, _, e', r, z1, b, fun σ' r' o1 o2 => q σ' r' ?_ ?_⟩
      · rw [tgSl]; exact o1
      · rw [tgSl]; exact o2

/-! ### comprehensions -/
/-- a place that nobody else may touch -/
def Fm.hold (m : Fm) (p : Addr) : Fm := { m with P := fun a => m.P a ∨ a = p }
theorem Rel.hold (r : Rel G m e w σ H) {p : Addr} (hp : H p ≠ none) (hF : ¬ m.F p) (hr : ∀ k, k < w.length → m.rho k ≠ p) (ho : ∀ i d, e[i]? = some (.own d) → m.oa i ≠ p) : Rel G (m.hold p) e w σ H := by
  refine ⟨⟨fun k d h => ?_, r.inj, r.allF, fun a h => ?_, fun a h => ?_⟩, r.len, fun i s h => ?_, r.oinj⟩
  · obtain ⟨h1, h2, h3⟩ := r.cell k d h
    exact ⟨h1, h2, fun q => q.elim h3 (hr k (List.getElem?_eq_some_iff.mp h).1)⟩
  · rcases h with h | h
    · exact r.allP a h
    · rw [h]; exact hp
  · rcases h with h | h
    · exact r.FP a h
    · rw [h]; exact hF
  · have q := r.sl i s h
    cases s with
    | un => trivial
    | val d => exact q
    | own d =>
      obtain ⟨h1, h2, h3, h4, h5⟩ := q
      exact ⟨h1, h2, h3, fun q => q.elim h4 (ho i d h), h5⟩
    | exc c x => exact q
/-- what P holds may be written: nothing that is told is about it -/
theorem Rel.at (r : Rel G m e w σ H) {p : Addr} (hp : m.P p) (o : HO) : Rel G m e w σ (upd H p o) := by
  have hne : ∀ a, a ≠ p → upd H p o a = H a := fun a h => upd_ne h
  have hF : ∀ a, m.F a → upd H p o a = H a := fun a h => hne a fun q => by subst q; exact r.FP _ hp h
  refine ⟨⟨fun k d h => ?_, r.inj, fun a h => ?_, fun a h => ?_, r.FP⟩, r.len, fun i s h => ?_, r.oinj⟩
  · obtain ⟨h1, h2, h3⟩ := r.cell k d h
    exact ⟨h1.mono (fun _ h => h) hF (Nat.le_refl _) (fun _ _ => rfl) (hne _ fun q => h3 (by rw [q]; exact hp)), h2, h3⟩
  · rw [hF a h]; exact r.allF a h
  · by_cases q : a = p
    · subst q; rw [upd_same]; simp
    · rw [hne a q]; exact r.allP a h
  · have q := r.sl i s h
    cases s with
    | un => trivial
    | val d =>
      obtain ⟨v, h1, h2⟩ := q
      exact ⟨v, h1, h2.mono (fun _ h => h) hF (Nat.le_refl _) fun _ _ => rfl⟩
    | own d =>
      obtain ⟨h1, h2, h3, h4, h5⟩ := q
      exact ⟨h1, h2.mono (fun _ h => h) hF (Nat.le_refl _) (fun _ _ => rfl) (hne _ fun q => h4 (by rw [q]; exact hp)), h3, h4, h5⟩
    | exc c x => exact q
theorem wipeE_length (e : Env) : ∀ vs : List Nat, (wipeE e vs).length = e.length
  | [] => rfl
  | v :: vs => by unfold wipeE; rw [List.length_set, wipeE_length e vs]
theorem wipeE_not {e : Env} {i : Nat} : ∀ {vs : List Nat}, i ∉ vs → (wipeE e vs)[i]? = e[i]?
  | [], _ => rfl
  | v :: vs, h => by
    simp only [List.mem_cons, not_or] at h
    unfold wipeE
    rw [List.getElem?_set_ne (fun z => h.1 z.symm), wipeE_not h.2]
theorem wipeE_mem {e : Env} {i : Nat} {s : Slot} : ∀ {vs : List Nat}, i ∈ vs → (wipeE e vs)[i]? = some s → s = .un
  | v :: vs, h, q => by
    unfold wipeE at q
    by_cases hv : v = i
    · subst hv
      by_cases hl : v < (wipeE e vs).length
      · rw [List.getElem?_set_self hl] at q; cases q; rfl
      · rw [List.getElem?_eq_none (by simpa using hl)] at q; cases q
    · rw [List.getElem?_set_ne hv] at q
      rcases List.mem_cons.mp h with z | z
      · exact absurd z.symm hv
      · exact wipeE_mem z q
theorem wipe_not {σ : L2.St} {i : Nat} : ∀ {vs : List Nat}, i ∉ vs → (wipe σ vs)[i]? = σ[i]?
  | [], _ => rfl
  | v :: vs, h => by
    simp only [List.mem_cons, not_or] at h
    unfold wipe
    rw [List.getElem?_set_ne (fun z => h.1 z.symm), wipe_not h.2]
theorem wipe_mem {σ : L2.St} {i : Nat} : ∀ {vs : List Nat}, i ∈ vs → i < σ.length → (wipe σ vs)[i]? = some none
  | v :: vs, h, hl => by
    unfold wipe
    by_cases hv : v = i
    · subst hv
      rw [List.getElem?_set_self (by rw [wipe_length]; exact hl)]
    · rw [List.getElem?_set_ne hv]
      rcases List.mem_cons.mp h with z | z
      · exact absurd z.symm hv
      · exact wipe_mem z hl
theorem wipe_off {σ σ' : L2.St} {us vs : List Nat} (h : Off us (wipe σ vs) σ') (hs : ∀ i ∈ us, i ∈ vs) : wipe σ' vs = wipe σ vs := by
  have hl : σ'.length = σ.length := by rw [← h.1, wipe_length]
  apply List.ext_getElem?
  intro i
  by_cases hv : i ∈ vs
  · by_cases hi : i < σ.length
    · rw [wipe_mem hv hi, wipe_mem hv (by rw [hl]; exact hi)]
    · rw [List.getElem?_eq_none (by rw [wipe_length, hl]; omega), List.getElem?_eq_none (by rw [wipe_length]; omega)]
  · rw [wipe_not hv, ← h.2 i fun z => hv (hs i z)]
/-- into a block: its own names forgotten -/
theorem Rel.wipe (r : Rel G m e w σ H) (vs : List Nat) : Rel G m (wipeE e vs) w (L2.wipe σ vs) H := by
  refine ⟨r.toRelW, by rw [wipeE_length, wipe_length, r.len], fun i s h => ?_, fun i j d d' h1 h2 => ?_⟩
  · by_cases hv : i ∈ vs
    · rw [wipeE_mem hv h]; trivial
    · rw [wipeE_not hv] at h
      have q := r.sl i s h
      cases s with
      | un => trivial
      | val d => obtain ⟨v, h1, h2⟩ := q; exact ⟨v, by rw [wipe_not hv]; exact h1, h2⟩
      | own d => obtain ⟨h1, h2⟩ := q; exact ⟨by rw [wipe_not hv]; exact h1, h2⟩
      | exc c x => exact q
  · have g1 : i ∉ vs := fun z => nomatch wipeE_mem z h1
    have g2 : j ∉ vs := fun z => nomatch wipeE_mem z h2
    rw [wipeE_not g1] at h1
    rw [wipeE_not g2] at h2
    exact r.oinj i j d d' h1 h2
/-- at a turn's end: the block's own names forgotten again -/
theorem Rel.rewipe {us vs : List Nat} {σ' : L2.St} (r : Rel G m e' w σ' H) (he : Off us (wipeE e vs) e') (hs : Off us (L2.wipe σ vs) σ') (hv : ∀ i ∈ us, i ∈ vs) : Rel G m (wipeE e vs) w (L2.wipe σ vs) H := by
  refine ⟨r.toRelW, by rw [he.1, hs.1, r.len], fun i s h => ?_, fun i j d d' h1 h2 => ?_⟩
  · by_cases hi : i ∈ vs
    · rw [wipeE_mem hi h]; trivial
    · have hu : i ∉ us := fun z => hi (hv i z)
      rw [he.2 i hu] at h
      have q := r.sl i s h
      cases s with
      | un => trivial
      | val d => obtain ⟨v, h1, h2⟩ := q; exact ⟨v, by rw [hs.2 i hu]; exact h1, h2⟩
      | own d => obtain ⟨h1, h2⟩ := q; exact ⟨by rw [hs.2 i hu]; exact h1, h2⟩
      | exc c x => exact q
  · have g1 : i ∉ us := fun z => nomatch wipeE_mem (hv i z) h1
    have g2 : j ∉ us := fun z => nomatch wipeE_mem (hv j z) h2
    rw [he.2 i g1] at h1
    rw [he.2 j g2] at h2
    exact r.oinj i j d d' h1 h2
/-- out of a block -/
theorem Rel.unwipe {vs : List Nat} (r0 : Rel G m e w σ H) (xt : Sub m w H m1 w1 H1) (r : Rel G m1 (wipeE e vs) w1 (L2.wipe σ vs) H1) (hk : wipeOk e vs = true) : Rel G m1 e w1 σ H1 := by
  unfold wipeOk at hk
  rw [List.all_eq_true] at hk
  have nown : ∀ i d, e[i]? = some (.own d) → i ∉ vs := fun i d h z => by
    have := hk i z
    rw [h] at this
    cases this
  refine ⟨r.toRelW, r0.len, fun i s h => ?_, fun i j d d' h1 h2 => ?_⟩
  · cases s with
    | un => trivial
    | val d => obtain ⟨v, h1, h2⟩ := r0.sl i _ h; exact ⟨v, h1, h2.sub xt⟩
    | own d =>
      have hv := nown i d h
      obtain ⟨h1, h2⟩ := r.sl i (.own d) (by rw [wipeE_not hv]; exact h)
      exact ⟨by rw [wipe_not hv] at h1; exact h1, h2⟩
    | exc c x => exact r0.sl i _ h
  · exact r.oinj i j d d' (by rw [wipeE_not (nown i d h1)]; exact h1) (by rw [wipeE_not (nown j d' h2)]; exact h2)
variable (G xf) in
/-- a clause's test -/
def TTc (C : Cfg) (c : Xo) : TT := fun σ H Q => ∃ m e w, Rel G m e w σ H ∧ PostE G xf (fun _ _ _ _ => False) m w H e σ RB Q (evc C c e w)
theorem pts_weak {ifs : List Expr} {t t' : TT} (h : PTs X ifs t) (hw : ∀ σ H Q, t' σ H Q → t σ H Q) : PTs X ifs t' := ⟨fun pins s σ H Q I q => h.run pins s σ H Q I (hw σ H Q q)⟩
theorem pts_no : PTs X [] (TTc G xf C .no) := pts_weak pts_nil fun σ H Q ⟨m, e, w, r, q⟩ => by
  rw [evc] at q
  exact PostE.val q r rfl
theorem pts_so {c : Expr} {x : Ev.X} (h : PT X c (TT' G xf (fun _ _ _ _ => False) C x)) : PTs X [c] (TTc G xf C (.so x)) := pts_weak (pts_one h) fun σ H Q ⟨m, e, w, r, q⟩ => by
  rw [evc] at q
  exact ⟨m, e, w, r, q⟩
theorem noX_ok {α : Type} {k : M α} {w : Wd} {r : Rs α} (h : noX k w = r) : (∃ d w', k w = .ok d w' ∧ r = .ok d w') ∨ r = .stk := by
  unfold noX at h
  cases q : k w with
  | ok d w' => rw [q] at h; exact .inl ⟨d, w', rfl, h.symm⟩
  | exc c x w' => rw [q] at h; exact .inr h.symm
  | stk => rw [q] at h; exact .inr h.symm
end
end Ev

set_option maxRecDepth 100000
set_option maxHeartbeats 4000000
/-! Comprehensions. -/
namespace Ev
open PySem PySem.Spec PyProof.Rows L2

section
variable {G : GG} {xf : Nat → Option Str} {Wx : L2.WX} {m m' m1 : Fm} {w w' w1 : Wd} {H H' H1 : Hp} {e e' : Env} {σ : L2.St} {C : Cfg} {X : Cx} {pos : Pos}
theorem lc_post {J : L2.It} {ds : List D} {g : Tg} {x : Ev.X} {c : Xo} {vs : List Nat} {Q : VK} {Dl : Addr} (hsl : ∀ i ∈ tgSl g, i ∈ vs) {Rl : Fm → Wd → Hp → V → D → Prop} (r1 : Rel G m1 e w1 σ H1) (wk : WalkD G m1 w1 H1 J ds) (hD : H1 Dl = none)
    (hk : wipeOk e vs = true) (hl : ds.length ≤ SZ)
    (hfin : ∀ mm w H acc ys, mm.P = m1.P → Rel G mm e w σ H → H Dl = some (.lst acc) → acc.length ≤ SZ → RA G mm.F mm.rho w.length H acc ys → ¬ mm.F Dl → ¬ mm.P Dl → (∀ k, k < w.length → mm.rho k ≠ Dl) → (∀ i d, e[i]? = some (.own d) → mm.oa i ≠ Dl) → ∃ m', Ext mm w H m' w H ∧ Rel G m' e w σ H ∧ Rl m' w H (.ref Dl) (.lst ys))
    (q : PostE G xf Wx m1 w1 H1 e σ Rl Q ((lcGo (fun e' => noX (nb e' x (ev C x e'))) (fun e' => noX (evc C c e')) g (wipeE e vs) ds >>= fun ys => pure (D.lst ys)) w1)) :
    ∃ W : Nat → Nat → Hp → Prop, (∃ m, W 0 m (upd H1 Dl (.lst []))) ∧ ∀ i m H, W i m H →
      (J.stop i H ∧ Q (.ref Dl) H) ∨ (J.go i H ∧ ∃ Nx : Hp → Prop, (∀ H', Nx H' → ∃ m', m' < m ∧ W (i + 1) m' H') ∧ ∀ y H', J.yld i H y H' → TGt G g y (wipe σ vs) H' fun σ2 H2 => wipe σ2 vs = wipe σ vs ∧ TTc G xf C c σ2 H2 fun b H3 =>
        if b = true then TN G xf (fun _ _ _ _ => False) C x σ2 H3 fun y H4 => ∃ acc, H4 Dl = some (.lst acc) ∧ acc.length < sizeLine ∧ Nx (upd H4 Dl (.lst (acc ++ [y]))) else Nx H3) := by
  obtain ⟨f1, f2, f3⟩ := r1.toRelW.free hD
  have f4 : ∀ i d, e[i]? = some (.own d) → m1.oa i ≠ Dl := fun i d h => r1.oaNe hD h
  obtain ⟨x2, r2⟩ := r1.lay hD (.lst [])
  refine ⟨fun i n H => n = ds.length - i ∧ i ≤ ds.length ∧ ∃ mm w acc ys, mm.P = (m1.hold Dl).P ∧ Sub m1 w1 H1 mm w H ∧ (∀ a, m1.P a → H a = H1 a) ∧ Rel G mm (wipeE e vs) w (L2.wipe σ vs) H ∧ H Dl = some (.lst acc) ∧ acc.length ≤ i ∧ RA G mm.F mm.rho w.length H acc ys ∧
    PostE G xf Wx m1 w1 H1 e σ Rl Q ((lcGo (fun e' => noX (nb e' x (ev C x e'))) (fun e' => noX (evc C c e')) g (wipeE e vs) (ds.drop i) >>= fun zs => pure (D.lst (ys ++ zs))) w),
    ⟨ds.length, by simp, Nat.zero_le _, m1.hold Dl, w1, [], [], rfl, ⟨fun _ h => h, x2.aF, Nat.le_refl _, fun _ _ => rfl, rfl⟩, x2.aP, (r2.hold (by rw [upd_same]; simp) f1 f3 f4).wipe vs, upd_same, Nat.zero_le _, .nil, by simpa using q⟩, ?_⟩
  rintro i n H ⟨rfl, hi, mm, w, acc, ys, hP, xs, hPH, rl, hDl, hacc, ra, qq⟩
  have hPD : mm.P Dl := by rw [hP]; exact .inr rfl
  by_cases hlt : i < ds.length
  · obtain ⟨hgo, hyl⟩ := (wk mm w H xs rl.toRelW).1 i ds[i] (List.getElem?_eq_getElem hlt)
    refine .inr ⟨hgo, fun H' => ∃ m', m' < ds.length - i ∧ (m' = ds.length - (i + 1) ∧ i + 1 ≤ ds.length ∧ ∃ mm w acc ys, mm.P = (m1.hold Dl).P ∧ Sub m1 w1 H1 mm w H' ∧ (∀ a, m1.P a → H' a = H1 a) ∧ Rel G mm (wipeE e vs) w (L2.wipe σ vs) H' ∧ H' Dl = some (.lst acc) ∧ acc.length ≤ i + 1 ∧ RA G mm.F mm.rho w.length H' acc ys ∧
      PostE G xf Wx m1 w1 H1 e σ Rl Q ((lcGo (fun e' => noX (nb e' x (ev C x e'))) (fun e' => noX (evc C c e')) g (wipeE e vs) (ds.drop (i + 1)) >>= fun zs => pure (D.lst (ys ++ zs))) w)), fun H' h => h, fun y H' hy => ?_⟩
    obtain ⟨m3, x3, t3, y3⟩ := hyl y H' hy
    have rl3 := t3 _ _ rl
    rw [List.drop_eq_getElem_cons hlt] at qq
    unfold lcGo at qq
    cases hb : bindTg g ds[i] (wipeE e vs) with
    | none => rw [hb] at qq; exact PostE.stk_elim (by exact qq)
    | some e1 =>
      rw [hb] at qq
      simp only [bnd_assoc] at qq
      refine ⟨m3, wipeE e vs, w, ds[i], e1, rl3, y3, hb, fun σ' r4 o1 o2 => ⟨wipe_off o1 hsl, m3, e1, w, r4, ?_⟩⟩
      have back : ∀ {m5 w5 H5}, Ext m3 w H' m5 w5 H5 → Rel G m5 e1 w5 σ' H5 → m5.P = (m1.hold Dl).P ∧ Sub m1 w1 H1 m5 w5 H5 ∧ (∀ a, m1.P a → H5 a = H1 a) ∧ Rel G m5 (wipeE e vs) w5 (L2.wipe σ vs) H5 ∧ H5 Dl = some (.lst acc) ∧ RA G m5.F m5.rho w5.length H5 acc ys := fun {m5 w5 H5} x5 r5 =>
        ⟨(x3.trans x5).P.trans hP, xs.trans (x3.trans x5).sub, fun a h => ((x3.trans x5).aP a (by rw [hP]; exact .inl h)).trans (hPH a h), r5.rewipe o2 o1 hsl, ((x3.trans x5).aP Dl hPD).trans hDl, ra.ext (x3.trans x5)⟩
      rw [bind_def] at qq
      rcases noX_ok (k := evc C c e1) (w := w) rfl with ⟨b, w5, h1, h2⟩ | h2
      · rw [h2] at qq
        rw [h1]
        intro b' m5 H5 x5 r5 eb
        cases eb
        cases b with
        | false =>
          simp only [Bool.false_eq_true, if_false]
          obtain ⟨b1, b2, b3, b4, b5, b6⟩ := back x5 r5
          exact ⟨_, by omega, rfl, hlt, m5, w5, acc, ys, b1, b2, b3, b4, b5, by omega, b6, qq⟩
        | true =>
          simp only [if_true]
          refine ⟨m5, e1, w5, r5, ?_⟩
          simp only [bnd_assoc] at qq
          rw [bind_def] at qq
          rcases noX_ok (k := nb e1 x (ev C x e1)) (w := w5) rfl with ⟨d, w6, h3, h4⟩ | h4
          · rw [h4] at qq
            rw [h3]
            intro v m6 H6 x6 r6 rv
            obtain ⟨b1, b2, b3, b4, b5, b6⟩ := back (x5.trans x6) r6
            refine ⟨acc, b5, by rw [← SZ_eq]; omega, _, by omega, rfl, hlt, m6, w6, acc ++ [v], ys ++ [d], b1, ?_, ?_, ?_, upd_same, by simp; omega, ?_, ?_⟩
            · refine ⟨b2.F, fun a h => ?_, b2.wl, b2.rho, b2.oa0⟩
              rw [upd_ne fun z => by subst z; exact f1 h]
              exact b2.aF a h
            · intro a h
              rw [upd_ne fun z => by subst z; exact f2 h]
              exact b3 a h
            · exact b4.at (by rw [b1]; exact .inr rfl) _
            · have hne : ∀ a, m6.F a → upd H6 Dl (.lst (acc ++ [v])) a = H6 a := fun a h => upd_ne fun z => by
                subst z
                exact b4.FP _ (by rw [b1]; exact .inr rfl) h
              exact (b6.append (.cons rv .nil)).mono (fun _ h => h) hne (Nat.le_refl _) fun _ _ => rfl
            · simp only [bnd_assoc, pure_bnd] at qq
              simp only [List.append_assoc, List.singleton_append]
              exact qq
          · rw [h4] at qq; exact PostE.stk_elim (by exact qq)
      · rw [h2] at qq; exact PostE.stk_elim (by exact qq)
  · have he : i = ds.length := by omega
    subst he
    refine .inl ⟨(wk mm w H xs rl.toRelW).2 _ (Nat.le_refl _), ?_⟩
    rw [List.drop_length] at qq
    unfold lcGo at qq
    simp only [pure_bnd, List.append_nil] at qq
    have rl2 := r1.unwipe xs rl hk
    have nF : ¬ mm.F Dl := fun h => rl.FP _ hPD h
    have rl3 : Rel G { mm with P := m1.P } e w σ H := by
      refine ⟨⟨fun k d h => ?_, rl2.inj, rl2.allF, fun a h => ?_, fun a h => ?_⟩, rl2.len, fun i s h => ?_, rl2.oinj⟩
      · obtain ⟨h1, h2, h3⟩ := rl2.cell k d h
        exact ⟨h1, h2, fun z => h3 (by rw [hP]; exact .inl z)⟩
      · exact rl2.allP a (by rw [hP]; exact .inl h)
      · exact rl2.FP a (by rw [hP]; exact .inl h)
      · have q := rl2.sl i s h
        cases s with
        | un => trivial
        | val d => exact q
        | own d =>
          obtain ⟨h1, h2, h3, h4, h5⟩ := q
          exact ⟨h1, h2, h3, fun z => h4 (by rw [hP]; exact .inl z), h5⟩
        | exc c x => exact q
    obtain ⟨m5, x5, r5, y5⟩ := hfin { mm with P := m1.P } w H acc ys rfl rl3 hDl (by omega) ra nF f2 (fun k hk z => (rl.cell k _ (List.getElem?_eq_getElem hk)).2.2 (by rw [z]; exact hPD)) (fun i d h z => by
      have := (rl2.sl i _ h).2.2.2.1
      rw [z] at this
      exact this hPD)
    exact qq (.ref Dl) m5 H (Ext.trans (m2 := { mm with P := m1.P }) ⟨rfl, xs.F, xs.aF, hPH, xs.wl, xs.rho, xs.oa0⟩ x5) r5 y5
theorem lc_fin {Dl : Addr} {xx : Ev.X} (hox : ownV e xx = false) : ∀ mm w H acc ys, mm.P = m1.P → Rel G mm e w σ H → H Dl = some (.lst acc) → acc.length ≤ SZ → RA G mm.F mm.rho w.length H acc ys → ¬ mm.F Dl → ¬ mm.P Dl → (∀ k, k < w.length → mm.rho k ≠ Dl) → (∀ i d, e[i]? = some (.own d) → mm.oa i ≠ Dl) → ∃ m', Ext mm w H m' w H ∧ Rel G m' e w σ H ∧ RX G e σ xx m' w H (.ref Dl) (.lst ys) :=
  fun mm w H acc ys _ r h1 h2 h3 h4 h5 h6 h7 => by
    obtain ⟨x5, r5⟩ := r.hand (x := Dl) (by rw [h1]; simp) h5 h6 h7
    exact ⟨_, x5, r5, (RX.of hox).mpr (.lst (.inl rfl) h1 h2 (h3.ext x5))⟩
theorem lc_weak {x : Ev.X} {g : Tg} {it : Ev.It} {c : Xo} {vs : List Nat} (hh : C.hot = false) (hsl : ∀ i ∈ tgSl g, i ∈ vs) {σ : L2.St} {H : Hp} {Q : VK} (h : TB G xf Wx C (.lc x g it c vs) σ H Q) :
    tLc (TI' G xf Wx C it) (TGt G g) (TTc G xf C c) (TN G xf (fun _ _ _ _ => False) C x) vs σ H Q := by
  obtain ⟨m, e, w, r, q⟩ := h
  rw [ev] at q
  obtain ⟨_, q⟩ := calm_post q
  refine ⟨m, e, w, r, q.step fun ds w1 J m1 H1 x1 r1 wk q1 => fun Dl hD => ?_⟩
  by_cases hk : (wipeOk e vs && decide (ds.length ≤ SZ)) = true
  · rw [if_pos hk] at q1
    rw [Bool.and_eq_true, decide_eq_true_eq] at hk
    exact lc_post hsl r1 wk hD hk.1 hk.2 (lc_fin rfl) q1
  · rw [if_neg hk] at q1; exact PostE.stk_elim (by exact q1)
theorem c_lc {elt tg iter : Expr} {ifs : List Expr} {scope : Scope} {own : List (Str × Nat)} {x : Ev.X} {g : Tg} {it : Ev.It} {c : Xo} (hc : C.hot = false → X.calm = true) (hN : X.N.Nodup) (hi : C.hot = false → PI X tg iter (TI' G xf Wx C it)) (ok : BlkOk X.N X.env.scope scope own)
    (hsl : ∀ i ∈ tgSl g, i ∈ own.map (·.2))
    (hg : C.hot = false → ∀ (s : Shared) (H : Hp) (C : Addr) (cl : List (Str × Addr)) (fp : List Addr), PG (X.blk s H scope (compEnvC scope cl C X.env) fp) tg (TGt G g))
    (ht : C.hot = false → ∀ (s : Shared) (H : Hp) (Ca : Addr) (cl : List (Str × Addr)) (fp : List Addr), PTs (X.blk s H scope (compEnvC scope cl Ca X.env) fp) ifs (TTc G xf C c))
    (he : C.hot = false → ∀ (s : Shared) (H : Hp) (Ca : Addr) (cl : List (Str × Addr)) (fp : List Addr), PE (X.blk s H scope (compEnvC scope cl Ca X.env) fp) elt (TB G xf (fun _ _ _ _ => False) C x)) (hs : ∀ x, foldedSetIterable iter X.env x = pure x) :
    PE X (.ListComp elt [⟨tg, iter, ifs, 0⟩] scope pos) (TB G xf Wx C (.lc x g it c (own.map (·.2)))) := by
  by_cases hh : C.hot = true
  · refine ⟨fun pins s σ H Q I ⟨m, e, w, r, q⟩ => ?_⟩
    rw [ev] at q
    have := (calm_post q).1
    rw [hh] at this; cases this
  · have hh : C.hot = false := by simpa using hh
    exact pe_weak (pe_lc (hc hh) hN (hi hh) ok (hg hh) (ht hh) (fun s H Ca cl fp => tn_of (he hh s H Ca cl fp)) hs) fun σ H Q h => lc_weak hh hsl h
end
end Ev

set_option maxRecDepth 100000
set_option maxHeartbeats 4000000
/-! Statements. -/
namespace Ev
open PySem PySem.Spec PyProof.Rows L2

section
variable (G : GG) (xf : Nat → Option Str) (Wx : L2.WX)
def PostS (m : Fm) (w : Wd) (H : Hp) (D : Ends) : Rs Fl → Prop
  | .ok (.nx e) w' => ∀ m' σ' H', Ext m w H m' w' H' → Rel G m' e w' σ' H' → D.nx σ' H'
  | .ok (.bk e) w' => ∀ m' σ' H', Ext m w H m' w' H' → Rel G m' e w' σ' H' → D.bk σ' H'
  | .ok (.ct e) w' => ∀ m' σ' H', Ext m w H m' w' H' → Rel G m' e w' σ' H' → D.ct σ' H'
  | .ok (.rt d) w' => ∀ m' v H', Ext m w H m' w' H' → RelW G m' w' H' → R G m'.F m'.rho w'.length H' v d → D.rt v H'
  | .ok (.xc c x e) w' => ∀ pn m' σ' H', Ext m w H m' w' H' → Rel G m' e w' σ' H' → XAt G xf m' w' H' c x pn → Wx (.ref (G.cl c)) pn σ' H'
  | .exc _ _ _ => False
  | .stk => False
def TSt (C : Cfg) (s : S) : TS := fun D σ H => ∃ m e w, Rel G m e w σ H ∧ PostS G xf Wx m w H D (ex C s e w)
def TSs (C : Cfg) (s : Ss) : TS := fun D σ H => ∃ m e w, Rel G m e w σ H ∧ PostS G xf Wx m w H D (exs C s e w)
end
theorem ps_weak {X : Cx} {st : Stmt} {t t' : TS} (h : PS X st t) (hw : ∀ D σ H, t' D σ H → t D σ H) : PS X st t' := ⟨fun pins s σ H D I q => h.run pins s σ H D I (hw D σ H q)⟩
theorem pss_weak {X : Cx} {st : List Stmt} {t t' : TS} (h : PSs X st t) (hw : ∀ D σ H, t' D σ H → t D σ H) : PSs X st t' := ⟨fun pins s σ H D I q => h.run pins s σ H D I (hw D σ H q)⟩
section
variable {G : GG} {xf : Nat → Option Str} {Wx : L2.WX} {m m' m1 : Fm} {w w' w1 : Wd} {H H' H1 : Hp} {e e' : Env} {σ σ' : L2.St} {C : Cfg} {X : Cx} {pos : Pos} {D : Ends}
theorem PostS.shift {r : Rs Fl} (h : PostS G xf Wx m w H D r) (xt : Ext m w H m1 w1 H1) : PostS G xf Wx m1 w1 H1 D r := by
  cases r with
  | ok f w' =>
    cases f with
    | nx e => exact fun m' σ' H' x r => h m' σ' H' (xt.trans x) r
    | bk e => exact fun m' σ' H' x r => h m' σ' H' (xt.trans x) r
    | ct e => exact fun m' σ' H' x r => h m' σ' H' (xt.trans x) r
    | rt d => exact fun m' v H' x r y => h m' v H' (xt.trans x) r y
    | xc c x e => exact fun pn m' σ' H' x r y => h pn m' σ' H' (xt.trans x) r y
  | exc c x w' => exact h
  | stk => exact h
theorem PostS.stk_elim (h : PostS G xf Wx m w H D ((stk : M Fl) w)) {P : Prop} : P := False.elim h
theorem PostS.cstk (h : PostS G xf Wx m w H D (cat e (stk : M Fl) w)) {P : Prop} : P := False.elim h
theorem PostS.nx (h : PostS G xf Wx m w H D ((pure (.nx e) : M Fl) w)) (r : Rel G m e w σ H) : D.nx σ H := h m σ H (.refl _ _ _) r
theorem PostS.cnx (h : PostS G xf Wx m w H D (cat e' (pure (.nx e)) w)) (r : Rel G m e w σ H) : D.nx σ H := h m σ H (.refl _ _ _) r
theorem PostS.step {α β : Type} {Rl1 : Fm → Wd → Hp → β → α → Prop} {Q1 : β → Hp → Prop} {r : M α} {k : α → M Fl} (h : PostS G xf Wx m w H D (cat e (r >>= k) w))
    (hk : ∀ d w1 v m1 H1, Ext m w H m1 w1 H1 → Rel G m1 e w1 σ H1 → Rl1 m1 w1 H1 v d → PostS G xf Wx m1 w1 H1 D (cat e (k d) w1) → Q1 v H1) : PostE G xf Wx m w H e σ Rl1 Q1 (r w) := by
  unfold cat at h
  rw [bind_def] at h
  cases q : r w with
  | ok d w' =>
    rw [q] at h
    exact fun v m' H' x r y => hk d w' v m' H' x r y (PostS.shift (by exact h) x)
  | exc c x w' =>
    rw [q] at h
    exact fun pn m' H' x r y => h pn m' σ H' x r y
  | stk => rw [q] at h; exact h
/-- a test's outcome -/
theorem PostS.test {r : M Bool} {a b : Wd → Rs Fl} {Q : Bool → Hp → Prop} (h : PostS G xf Wx m w H D (match r w with | .ok true w' => a w' | .ok false w' => b w' | .exc k x w' => .ok (.xc k x e) w' | .stk => .stk))
    (ht : ∀ w1 m1 H1, Ext m w H m1 w1 H1 → Rel G m1 e w1 σ H1 → PostS G xf Wx m1 w1 H1 D (a w1) → Q true H1) (hf : ∀ w1 m1 H1, Ext m w H m1 w1 H1 → Rel G m1 e w1 σ H1 → PostS G xf Wx m1 w1 H1 D (b w1) → Q false H1) : PostE G xf Wx m w H e σ RB Q (r w) := by
  cases q : r w with
  | ok d w' =>
    rw [q] at h
    intro v m' H' x r y
    have y' : v = d := y
    rw [← y'] at h
    cases v with
    | true => exact ht w' m' H' x r (PostS.shift (by exact h) x)
    | false => exact hf w' m' H' x r (PostS.shift (by exact h) x)
  | exc c x w' =>
    rw [q] at h
    exact fun pn m' H' x r y => h pn m' σ H' x r y
  | stk => rw [q] at h; exact h
theorem setS_post {i : Nat} {s : Slot} (h : PostS G xf Wx m w H D (cat e' (setS e i s) w1)) : i < e.length ∧ PostS G xf Wx m w H D ((pure (.nx (e.set i s)) : M Fl) w1) := by
  unfold setS at h
  by_cases hi : i < e.length
  · rw [if_pos hi] at h; exact ⟨hi, h⟩
  · rw [if_neg hi] at h; exact h.elim
theorem setS_post0 {i : Nat} {s : Slot} (h : PostS G xf Wx m w H D (setS e i s w1)) : i < e.length ∧ PostS G xf Wx m w H D ((pure (.nx (e.set i s)) : M Fl) w1) := by
  unfold setS at h
  by_cases hi : i < e.length
  · rw [if_pos hi] at h; exact ⟨hi, h⟩
  · rw [if_neg hi] at h; exact h.elim
theorem calm_hot {α : Type} {k : M α} (h : C.hot = true) : Ev.calm C k = stk := if_pos h
theorem calm_cold {α : Type} {k : M α} (h : C.hot = false) : Ev.calm C k = k := if_neg (by rw [h]; exact Bool.false_ne_true)
/-! ### name = value -/
theorem s_set {st : Stmt} {i : Nat} {x : Ev.X} (h : PS X st (tAsg (TN G xf Wx C x) (gName i))) : PS X st (TSt G xf Wx C (.set i x false)) :=
  ps_weak h fun D σ H ⟨m, e, w, r, q⟩ => by
    rw [ex] at q
    refine ⟨m, e, w, r, q.step fun d w1 v m1 H1 x1 r1 y1 q1 => ?_⟩
    obtain ⟨hi, q2⟩ := setS_post q1
    exact q2.nx (r1.setVal hi y1)
variable (G) in
/-- a container that nobody else holds -/
def RO (e : Env) : Fm → Wd → Hp → V → Ev.D → Prop := fun m w H v d => if contD d = true then ∃ p, v = .ref p ∧ Own G m.F m.rho w.length H p d ∧ ¬ m.F p ∧ ¬ m.P p ∧ (∀ k, k < w.length → m.rho k ≠ p) ∧ ∀ i d, e[i]? = some (.own d) → m.oa i ≠ p else R G m.F m.rho w.length H v d
variable (G xf Wx) in
def TF (C : Cfg) (x : Ev.X) : TE := fun σ H Q => ∃ m e w, Rel G m e w σ H ∧ PostE G xf Wx m w H e σ (RO G e) Q (ev C x e w)
def Fm.seto (m : Fm) (i : Nat) (p : Addr) : Fm := { m with oa := fun j => if j = i then p else m.oa j }
theorem Rel.setOwn (r : Rel G m e w σ H) {i : Nat} {p : Addr} {d : Ev.D} (hi0 : i ≠ 0) (hi : i < e.length) (o : Own G m.F m.rho w.length H p d) (h1 : ¬ m.F p) (h2 : ¬ m.P p) (h3 : ∀ k, k < w.length → m.rho k ≠ p) (h4 : ∀ i d, e[i]? = some (.own d) → m.oa i ≠ p) :
    Ext m w H (m.seto i p) w H ∧ Rel G (m.seto i p) (e.set i (.own d)) w (σ.set i (some (.ref p))) H := by
  refine ⟨⟨rfl, fun _ h => h, fun _ _ => rfl, fun _ _ => rfl, Nat.le_refl _, fun _ _ => rfl, if_neg (fun z => hi0 z.symm)⟩, ⟨⟨r.cell, r.inj, r.allF, r.allP, r.FP⟩, by simp [r.len], fun j s h => ?_, fun j k d1 d2 g1 g2 z => ?_⟩⟩
  · by_cases hj : i = j
    · subst hj
      rw [List.getElem?_set_self hi] at h
      cases h
      have e1 : (m.seto i p).oa i = p := if_pos rfl
      refine ⟨by rw [List.getElem?_set_self (by rw [r.len]; exact hi), e1], by rw [e1]; exact o, by rw [e1]; exact h1, by rw [e1]; exact h2, fun k hk z => ?_⟩
      rw [e1] at z
      exact h3 k hk z.symm
    · rw [List.getElem?_set_ne hj] at h
      have q := r.sl j s h
      have e1 : (m.seto i p).oa j = m.oa j := if_neg fun z => hj z.symm
      cases s with
      | un => trivial
      | val d => obtain ⟨u, g1, g2⟩ := q; exact ⟨u, by rw [List.getElem?_set_ne hj]; exact g1, g2⟩
      | own d =>
        obtain ⟨g1, g2, g3, g4, g5⟩ := q
        exact ⟨by rw [List.getElem?_set_ne hj, e1]; exact g1, by rw [e1]; exact g2, by rw [e1]; exact g3, by rw [e1]; exact g4, by rw [e1]; exact g5⟩
      | exc c x => exact q
  · by_cases hj : i = j
    · subst hj
      by_cases hk : i = k
      · exact hk
      · rw [List.getElem?_set_ne hk] at g2
        have e1 : (m.seto i p).oa i = p := if_pos rfl
        have e2 : (m.seto i p).oa k = m.oa k := if_neg fun z => hk z.symm
        rw [e1, e2] at z
        exact absurd z.symm (h4 k _ g2)
    · rw [List.getElem?_set_ne hj] at g1
      have e1 : (m.seto i p).oa j = m.oa j := if_neg fun z => hj z.symm
      by_cases hk : i = k
      · subst hk
        have e2 : (m.seto i p).oa i = p := if_pos rfl
        rw [e1, e2] at z
        exact absurd z (h4 j _ g1)
      · rw [List.getElem?_set_ne hk] at g2
        have e2 : (m.seto i p).oa k = m.oa k := if_neg fun z => hk z.symm
        rw [e1, e2] at z
        exact r.oinj j k _ _ g1 g2 z
theorem s_own {st : Stmt} {i : Nat} {x : Ev.X} (h : PS X st (tAsg (TF G xf Wx C x) (gName i))) : PS X st (TSt G xf Wx C (.set i x true)) :=
  ps_weak h fun D σ H ⟨m, e, w, r, q⟩ => by
    rw [ex] at q
    refine ⟨m, e, w, r, q.step fun d w1 v m1 H1 x1 r1 y1 q1 => ?_⟩
    by_cases hc : contD d = true ∧ i ≠ 0
    case neg => rw [if_neg hc] at q1; exact q1.cstk
    rw [if_pos hc] at q1
    obtain ⟨hi, q2⟩ := setS_post q1
    unfold RO at y1
    rw [if_pos hc.1] at y1
    obtain ⟨p, rfl, o1, o2, o3, o4, o5⟩ := y1
    obtain ⟨x2, r2⟩ := r1.setOwn hc.2 hi o1 o2 o3 o4 o5
    exact q2 _ _ _ x2 r2

/-! ### small statements -/
theorem s_ret {ea : Expr} {x : Ev.X} (h : PE X ea (TB G xf Wx C x)) : PS X (.Return (some ea) pos) (TSt G xf Wx C (.ret x)) :=
  ps_weak (ps_ret (tn_of h)) fun D σ H ⟨m, e, w, r, q⟩ => by
    rw [ex] at q
    exact ⟨m, e, w, r, q.step fun d w1 v m1 H1 x1 r1 y1 q1 => q1 m1 v H1 (.refl _ _ _) r1.toRelW y1⟩
theorem s_retN : PS X (.Return none pos) (TSt G xf Wx C (.ret (.k .non))) :=
  ps_weak ps_retN fun D σ H ⟨m, e, w, r, q⟩ => by
    rw [ex, ev] at q
    exact q m .non H (.refl _ _ _) r.toRelW .non
theorem s_ex {ea : Expr} {x : Ev.X} (h : PE X ea (TB G xf Wx C x)) (hs : swapsWith ea none pos.line X.env = pure false) : PS X (.Expr ea pos) (TSt G xf Wx C (.ex x)) :=
  ps_weak (ps_expr h hs) fun D σ H ⟨m, e, w, r, q⟩ => by
    rw [ex] at q
    exact ⟨m, e, w, r, q.step fun d w1 v m1 H1 x1 r1 y1 q1 => q1.cnx r1⟩
theorem s_pas : PS X (.Pass pos) (TSt G xf Wx C .pas) := ps_weak ps_pass fun D σ H ⟨m, e, w, r, q⟩ => by rw [ex] at q; exact q.nx r
theorem s_doc {x : Str} {j : Nat} {p p' : Pos} : PS X (.Expr (.Constant (.str x) j p) p') (TSt G xf Wx C .pas) := ps_weak ps_doc fun D σ H ⟨m, e, w, r, q⟩ => by rw [ex] at q; exact q.nx r
theorem s_brk : PS X (.Break pos) (TSt G xf Wx C .brk) := ps_weak ps_break fun D σ H ⟨m, e, w, r, q⟩ => by rw [ex] at q; exact q m σ H (.refl _ _ _) r
theorem s_cnt : PS X (.Continue pos) (TSt G xf Wx C .cnt) := ps_weak ps_continue fun D σ H ⟨m, e, w, r, q⟩ => by rw [ex] at q; exact q m σ H (.refl _ _ _) r
theorem ss_nil : PSs X [] (TSs G xf Wx C .nil) := pss_weak pss_nil fun D σ H ⟨m, e, w, r, q⟩ => by rw [exs] at q; exact q.nx r
theorem PostS.seq {r : M Fl} {k : Env → M Fl} (h : PostS G xf Wx m w H D ((r >>= fun f => match f with | .nx e' => k e' | f => pure f) w)) :
    PostS G xf Wx m w H { D with nx := fun σ' H' => ∃ m' e' w', Rel G m' e' w' σ' H' ∧ Ext m w H m' w' H' ∧ PostS G xf Wx m' w' H' D (k e' w') } (r w) := by
  rw [bind_def] at h
  cases q : r w with
  | ok f w' =>
    rw [q] at h
    cases f with
    | nx e => exact fun m' σ' H' x r => ⟨m', e, w', r, x, PostS.shift (by exact h) x⟩
    | bk e => exact h
    | ct e => exact h
    | rt d => exact h
    | xc c x e => exact h
  | exc c x w' => rw [q] at h; exact h
  | stk => rw [q] at h; exact h
theorem PostS.imp {D' : Ends} {r : Rs Fl} (h : PostS G xf Wx m w H D r) (h1 : ∀ σ H, D.nx σ H → D'.nx σ H) (h2 : ∀ σ H, D.bk σ H → D'.bk σ H) (h3 : ∀ σ H, D.ct σ H → D'.ct σ H) (h4 : ∀ v H, D.rt v H → D'.rt v H) : PostS G xf Wx m w H D' r := by
  cases r with
  | ok f w' =>
    cases f with
    | nx e => exact fun m' σ' H' x r => h1 _ _ (h m' σ' H' x r)
    | bk e => exact fun m' σ' H' x r => h2 _ _ (h m' σ' H' x r)
    | ct e => exact fun m' σ' H' x r => h3 _ _ (h m' σ' H' x r)
    | rt d => exact fun m' v H' x r y => h4 _ _ (h m' v H' x r y)
    | xc c x e => exact h
  | exc c x w' => exact h
  | stk => exact h
theorem ss_cons {st : Stmt} {rest : List Stmt} {s : S} {ss : Ss} (h : PS X st (TSt G xf Wx C s)) (hs : PSs X rest (TSs G xf Wx C ss)) : PSs X (st :: rest) (TSs G xf Wx C (.cons s ss)) :=
  pss_weak (pss_cons h hs) fun D σ H ⟨m, e, w, r, q⟩ => by
    rw [exs] at q
    refine ⟨m, e, w, r, (PostS.seq q).imp (fun σ' H' ⟨m', e', w', r', x', q'⟩ => ⟨m', e', w', r', q'⟩) (fun _ _ h => h) (fun _ _ h => h) fun _ _ h => h⟩
theorem s_iff {ec : Expr} {sa sb : List Stmt} {c : Ev.X} {a b : Ss} (hc : PT X ec (TT' G xf Wx C c)) (ha : PSs X sa (TSs G xf Wx C a)) (hb : PSs X sb (TSs G xf Wx C b)) : PS X (.If ec sa sb pos) (TSt G xf Wx C (.iff c a b)) :=
  ps_weak (ps_if hc ha hb) fun D σ H ⟨m, e, w, r, q⟩ => by
    rw [ex] at q
    refine ⟨m, e, w, r, PostS.test q (fun w1 m1 H1 x1 r1 q1 => ?_) fun w1 m1 H1 x1 r1 q1 => ?_⟩
    · simp only [if_true]; exact ⟨m1, e, w1, r1, q1⟩
    · simp only [Bool.false_eq_true, if_false]; exact ⟨m1, e, w1, r1, q1⟩
theorem s_whl {ec : Expr} {sb : List Stmt} {c : Ev.X} {b : Ss} (hp : PassesOwn (model X.prog X.w) X.A X.env X.xe) (hc : PT X ec (TT' G xf Wx C c)) (hb : PSs X sb (TSs G xf Wx C b)) : PS X (.While ec sb [] pos) (TSt G xf Wx C (.whl c b)) :=
  ps_weak (ps_while hp hc hb) fun D σ H ⟨m, e, w, r, q⟩ => by
    rw [ex] at q
    refine ⟨fun n σ H => ∃ m e w, Rel G m e w σ H ∧ PostS G xf Wx m w H D (Ev.whl n (fun e => tst (ev C c e)) (fun e => exs C b e) e w), ⟨C.wf, m, e, w, r, q⟩, ?_⟩
    rintro n σ H ⟨m, e, w, r, q⟩
    cases n with
    | zero => exact PostS.stk_elim (by exact q)
    | succ n =>
      refine ⟨m, e, w, r, PostS.test (a := fun w' => match exs C b e w' with | .ok (.nx e') w2 => Ev.whl n (fun e => tst (ev C c e)) (fun e => exs C b e) e' w2 | .ok (.ct e') w2 => Ev.whl n (fun e => tst (ev C c e)) (fun e => exs C b e) e' w2 | .ok (.bk e') w2 => .ok (.nx e') w2 | r => r)
        (b := fun w' => .ok (.nx e) w') q (fun w1 m1 H1 x1 r1 q1 => ?_) fun w1 m1 H1 x1 r1 q1 => ?_⟩
      · simp only [if_true]
        refine ⟨fun σ' H' => ∃ m e w, Rel G m e w σ' H' ∧ PostS G xf Wx m w H' D (Ev.whl n (fun e => tst (ev C c e)) (fun e => exs C b e) e w), fun σ' H' h => ⟨n, Nat.lt_succ_self _, h⟩, m1, e, w1, r1, ?_⟩
        cases z : exs C b e w1 with
        | ok f w' =>
          rw [z] at q1
          cases f with
          | nx e => exact fun m' σ' H' x r => ⟨m', e, w', r, PostS.shift (by exact q1) x⟩
          | ct e => exact fun m' σ' H' x r => ⟨m', e, w', r, PostS.shift (by exact q1) x⟩
          | bk e => exact fun m' σ' H' x r => q1 m' σ' H' x r
          | rt d => exact q1
          | xc c x e => exact q1
        | exc c x w' => rw [z] at q1; exact q1
        | stk => rw [z] at q1; exact q1
      · simp only [Bool.false_eq_true, if_false]
        exact q1 m1 σ H1 (.refl _ _ _) r1
theorem s_for {tg iter : Expr} {sb : List Stmt} {g : Tg} {it : Ev.It} {b : Ss} (hp : PassesOwn (model X.prog X.w) X.A X.env X.xe) (hc : C.hot = false → X.calm = true) (hi : C.hot = false → PI X tg iter (TI' G xf Wx C it)) (hg : C.hot = false → PG X tg (TGt G g)) (hb : C.hot = false → PSs X sb (TSs G xf Wx C b))
    (hs : ∀ x, foldedSetIterable iter X.env x = pure x) : PS X (.For tg iter sb [] pos) (TSt G xf Wx C (.for g it b)) := by
  by_cases hh : C.hot = true
  · refine ⟨fun pins s σ H D I ⟨m, e, w, r, q⟩ => ?_⟩
    rw [ex] at q
    rw [calm_hot hh] at q
    exact PostS.stk_elim (by exact q)
  · have hh : C.hot = false := by simpa using hh
    refine ps_weak (ps_for hp (hc hh) (hi hh) (hg hh) (hb hh) hs) fun D σ H ⟨m, e, w, r, q⟩ => ?_
    rw [ex] at q
    rw [calm_cold hh] at q
    unfold onL at q
    refine ⟨m, e, w, r, ?_⟩
    cases z : evI C it e w with
    | exc c x w' =>
      rw [z] at q
      exact fun pn m' H' x r y => q pn m' σ H' x r y
    | stk => rw [z] at q; exact q
    | ok ds w0 =>
      rw [z] at q
      intro J m1 H1 x1 r1 wk
      have q1 := PostS.shift q x1
      refine ⟨fun i n σ H => n = ds.length - i ∧ i ≤ ds.length ∧ ∃ m e w, Sub m1 w0 H1 m w H ∧ Rel G m e w σ H ∧ PostS G xf Wx m w H D (forGo g (fun e => exs C b e) (ds.drop i) e w), ⟨ds.length, by simp, Nat.zero_le _, m1, e, w0, ⟨fun _ h => h, fun _ _ => rfl, Nat.le_refl _, fun _ _ => rfl, rfl⟩, r1, by simpa using q1⟩, ?_⟩
      rintro i n σ2 H2 ⟨rfl, hi, m2, e2, w2, xs, r2, q2⟩
      by_cases hlt : i < ds.length
      · obtain ⟨hgo, hyl⟩ := (wk m2 w2 H2 xs r2.toRelW).1 i ds[i] (List.getElem?_eq_getElem hlt)
        refine .inr ⟨hgo, fun σ' H' => ∃ m e w, Sub m1 w0 H1 m w H' ∧ Rel G m e w σ' H' ∧ PostS G xf Wx m w H' D (forGo g (fun e => exs C b e) (ds.drop (i + 1)) e w), fun σ' H' h => ⟨ds.length - (i + 1), by omega, rfl, hlt, h⟩, fun y H3 hy => ?_⟩
        obtain ⟨m3, x3, t3, y3⟩ := hyl y H3 hy
        have r3 := t3 _ _ r2
        rw [List.drop_eq_getElem_cons hlt] at q2
        unfold forGo at q2
        cases hb : bindTg g ds[i] e2 with
        | none => rw [hb] at q2; exact PostS.stk_elim (by exact q2)
        | some e3 =>
          rw [hb] at q2
          refine ⟨m3, e2, w2, ds[i], e3, r3, y3, hb, fun σ' r4 _ _ => ⟨m3, e3, w2, r4, ?_⟩⟩
          have q3 := PostS.shift q2 x3
          dsimp only at q3
          rw [bind_def] at q3
          cases z : exs C b e3 w2 with
          | ok f w' =>
            rw [z] at q3
            cases f with
            | nx e => exact fun m' σ' H' x r => ⟨m', e, w', xs.trans (x3.trans x).sub, r, PostS.shift (by exact q3) x⟩
            | ct e => exact fun m' σ' H' x r => ⟨m', e, w', xs.trans (x3.trans x).sub, r, PostS.shift (by exact q3) x⟩
            | bk e => exact fun m' σ' H' x r => q3 m' σ' H' x r
            | rt d => exact q3
            | xc c x e => exact q3
          | exc c x w' => rw [z] at q3; exact q3
          | stk => rw [z] at q3; exact q3
      · have he : i = ds.length := by omega
        subst he
        rw [List.drop_length] at q2
        unfold forGo at q2
        exact .inl ⟨(wk m2 w2 H2 xs r2.toRelW).2 _ (Nat.le_refl _), q2.nx r2⟩
end
end Ev

set_option maxRecDepth 100000
set_option maxHeartbeats 4000000
/-! Containers that change. -/
namespace Ev
open PySem PySem.Spec PyProof.Rows L2

section
variable {G : GG} {xf : Nat → Option Str} {Wx : L2.WX} {m m' m1 : Fm} {w w' w1 : Wd} {H H' H1 : Hp} {e e' : Env} {σ σ' : L2.St} {C : Cfg} {X : Cx} {pos : Pos} {Dn : Ends}
/-- an own container is rewritten -/
theorem Rel.putOwn (r : Rel G m e w σ H) {i : Nat} {d d' : D} {o : HO} (hi : e[i]? = some (.own d)) (ho : Own G m.F m.rho w.length (upd H (m.oa i) o) (m.oa i) d') :
    Ext m w H m w (upd H (m.oa i) o) ∧ Rel G m (e.set i (.own d')) w σ (upd H (m.oa i) o) := by
  obtain ⟨s1, s2, s3, s4, s5⟩ := r.sl i _ hi
  have hlt : i < e.length := (List.getElem?_eq_some_iff.mp hi).1
  have hne : ∀ a, a ≠ m.oa i → upd H (m.oa i) o a = H a := fun a h => upd_ne h
  have hF : ∀ a, m.F a → upd H (m.oa i) o a = H a := fun a h => hne a fun z => s3 (z ▸ h)
  refine ⟨⟨rfl, fun _ h => h, hF, fun a h => hne a fun z => s4 (z ▸ h), Nat.le_refl _, fun _ _ => rfl, rfl⟩, ⟨⟨fun k c h => ?_, r.inj, fun a h => ?_, fun a h => ?_, r.FP⟩, by simp [r.len], fun j s h => ?_, fun j k d1 d2 g1 g2 z => ?_⟩⟩
  · obtain ⟨h1, h2, h3⟩ := r.cell k c h
    exact ⟨h1.mono (fun _ h => h) hF (Nat.le_refl _) (fun _ _ => rfl) (hne _ fun z => s5 k (List.getElem?_eq_some_iff.mp h).1 z.symm), h2, h3⟩
  · rw [hF a h]; exact r.allF a h
  · by_cases q : a = m.oa i
    · subst q; exact absurd h s4
    · rw [hne a q]; exact r.allP a h
  · by_cases hj : i = j
    · subst hj
      rw [List.getElem?_set_self hlt] at h
      cases h
      exact ⟨s1, ho, s3, s4, s5⟩
    · rw [List.getElem?_set_ne hj] at h
      have q := r.sl j s h
      cases s with
      | un => trivial
      | val d => obtain ⟨v, h1, h2⟩ := q; exact ⟨v, h1, h2.mono (fun _ h => h) hF (Nat.le_refl _) fun _ _ => rfl⟩
      | own d =>
        obtain ⟨h1, h2, h3, h4, h5⟩ := q
        exact ⟨h1, h2.mono (fun _ h => h) hF (Nat.le_refl _) (fun _ _ => rfl) (hne _ fun z => hj (r.oinj j i _ _ h hi z).symm), h3, h4, h5⟩
      | exc c x => exact q
  · by_cases hj : i = j
    · subst hj
      by_cases hk : i = k
      · exact hk
      · rw [List.getElem?_set_ne hk] at g2
        exact r.oinj i k _ _ hi g2 z
    · rw [List.getElem?_set_ne hj] at g1
      by_cases hk : i = k
      · subst hk
        exact r.oinj j i _ _ g1 hi z
      · rw [List.getElem?_set_ne hk] at g2
        exact r.oinj j k _ _ g1 g2 z
/-- a cell is rewritten -/
theorem Rel.putCel (r : Rel G m e w σ H) {n : Nat} {d d' : D} {o : HO} (hi : w[n]? = some d) (ho : Own G m.F m.rho w.length (upd H (m.rho n) o) (m.rho n) d') :
    Ext m w H m (w.set n d') (upd H (m.rho n) o) ∧ Rel G m e (w.set n d') σ (upd H (m.rho n) o) := by
  obtain ⟨s1, s2, s3⟩ := r.cell n _ hi
  have hlt : n < w.length := (List.getElem?_eq_some_iff.mp hi).1
  have hne : ∀ a, a ≠ m.rho n → upd H (m.rho n) o a = H a := fun a h => upd_ne h
  have hF : ∀ a, m.F a → upd H (m.rho n) o a = H a := fun a h => hne a fun z => s2 (z ▸ h)
  have hl : (w.set n d').length = w.length := by simp
  refine ⟨⟨rfl, fun _ h => h, hF, fun a h => hne a fun z => s3 (z ▸ h), by rw [hl]; exact Nat.le_refl _, fun _ _ => rfl, rfl⟩, ⟨⟨fun k c h => ?_, fun j k hj hk => r.inj j k (by rw [← hl]; exact hj) (by rw [← hl]; exact hk), fun a h => ?_, fun a h => ?_, r.FP⟩, r.len, fun j s h => ?_, r.oinj⟩⟩
  · rw [hl]
    by_cases hk : n = k
    · subst hk
      rw [List.getElem?_set_self hlt] at h
      cases h
      exact ⟨ho, s2, s3⟩
    · rw [List.getElem?_set_ne hk] at h
      obtain ⟨h1, h2, h3⟩ := r.cell k c h
      exact ⟨h1.mono (fun _ h => h) hF (Nat.le_refl _) (fun _ _ => rfl) (hne _ fun z => hk (r.inj n k hlt (List.getElem?_eq_some_iff.mp h).1 z.symm)), h2, h3⟩
  · rw [hF a h]; exact r.allF a h
  · by_cases q : a = m.rho n
    · subst q; exact absurd h s3
    · rw [hne a q]; exact r.allP a h
  · have q := r.sl j s h
    cases s with
    | un => trivial
    | val d => obtain ⟨v, h1, h2⟩ := q; exact ⟨v, h1, by rw [hl]; exact h2.mono (fun _ h => h) hF (Nat.le_refl _) fun _ _ => rfl⟩
    | own d =>
      obtain ⟨h1, h2, h3, h4, h5⟩ := q
      refine ⟨h1, by rw [hl]; exact h2.mono (fun _ h => h) hF (Nat.le_refl _) (fun _ _ => rfl) (hne _ fun z => h5 n hlt z), h3, h4, fun k hk => h5 k (by rw [← hl]; exact hk)⟩
    | exc c x => exact q
/-- where the container of slot i is -/
def CAt (m : Fm) (e : Env) (w : Wd) (i : Nat) (d : D) (a : Addr) : Prop := (e[i]? = some (.own d) ∧ a = m.oa i) ∨ ∃ n, e[i]? = some (.val (.cel n)) ∧ w[n]? = some d ∧ a = m.rho n
theorem CAt.own {i : Nat} {d : D} {a : Addr} (r : Rel G m e w σ H) (h : CAt m e w i d a) : σ[i]? = some (some (.ref a)) ∧ Own G m.F m.rho w.length H a d := by
  rcases h with ⟨h1, rfl⟩ | ⟨n, h1, h2, rfl⟩
  · obtain ⟨s1, s2, _⟩ := r.sl i _ h1
    exact ⟨s1, s2⟩
  · obtain ⟨v, s1, s2⟩ := r.sl i _ h1
    cases s2
    exact ⟨s1, (r.cell n _ h2).1⟩
/-- .. and what stands behind a write there -/
def putC (e : Env) (w : Wd) (i : Nat) (d : D) : Env × Wd := match e[i]? with
  | some (.val (.cel n)) => (e, w.set n d)
  | _ => (e.set i (.own d), w)
theorem CAt.put {i : Nat} {d d' : D} {a : Addr} {o : HO} (r : Rel G m e w σ H) (h : CAt m e w i d a) (ho : Own G m.F m.rho w.length (upd H a o) a d') :
    Ext m w H m (putC e w i d').2 (upd H a o) ∧ Rel G m (putC e w i d').1 (putC e w i d').2 σ (upd H a o) := by
  unfold putC
  rcases h with ⟨h1, rfl⟩ | ⟨n, h1, h2, rfl⟩
  · rw [h1]; exact r.putOwn h1 ho
  · rw [h1]; exact r.putCel h2 ho
theorem CAt.noF {i : Nat} {d : D} {a : Addr} (r : Rel G m e w σ H) (h : CAt m e w i d a) : ¬ m.F a := by
  rcases h with ⟨h1, rfl⟩ | ⟨n, h1, h2, rfl⟩
  · exact (r.sl i _ h1).2.2.1
  · exact (r.cell n _ h2).2.1
theorem CAt.ra {i : Nat} {d : D} {a : Addr} {o : HO} (r : Rel G m e w σ H) (h : CAt m e w i d a) {vs : List V} {ds : List D} (y : RA G m.F m.rho w.length H vs ds) : RA G m.F m.rho w.length (upd H a o) vs ds :=
  y.mono (fun _ h => h) (fun b hb => upd_ne fun z => h.noF r (by rw [← z]; exact hb)) (Nat.le_refl _) fun _ _ => rfl
theorem CAt.lst {i : Nat} {xs ys : List D} {us : List V} {a : Addr} (r : Rel G m e w σ H) (h : CAt m e w i (.lst xs) a) (hl : us.length ≤ SZ) (y : RA G m.F m.rho w.length H us ys) :
    Ext m w H m (putC e w i (.lst ys)).2 (upd H a (.lst us)) ∧ Rel G m (putC e w i (.lst ys)).1 (putC e w i (.lst ys)).2 σ (upd H a (.lst us)) :=
  h.put r ⟨us, upd_same, hl, h.ra r y⟩
theorem isL_post {k : Unit → M Fl} {i : Nat} (h : PostS G xf Wx m w H Dn (cat e (isL e i >>= k) w)) : (∃ xs a, CAt m e w i (.lst xs) a) ∧ PostS G xf Wx m w H Dn (cat e (k ()) w) := by
  unfold isL at h
  cases z : e[i]? with
  | none => rw [z] at h; exact PostS.cstk (e := e) (by exact h)
  | some s =>
    rw [z] at h
    cases s with
    | un => exact PostS.cstk (e := e) (by exact h)
    | exc c x => exact PostS.cstk (e := e) (by exact h)
    | own d => cases d <;> first | exact PostS.cstk (e := e) (by exact h) | exact ⟨⟨_, _, .inl ⟨z, rfl⟩⟩, h⟩
    | val d =>
      cases d <;> first | exact PostS.cstk (e := e) (by exact h) | skip
      rename_i n
      unfold cat at h
      rw [bind_def] at h
      cases y : w[n]? with
      | none => simp only [y] at h; exact h.elim
      | some d =>
        simp only [y] at h
        cases d <;> first | exact h.elim | exact ⟨⟨_, _, .inr ⟨n, z, y, rfl⟩⟩, h⟩
theorem toL_post {f : List D → Option (List D)} {i : Nat} (h : PostS G xf Wx m w H Dn (cat e' (toL e i f) w1)) : ∃ xs ys a, CAt m e w1 i (.lst xs) a ∧ f xs = some ys ∧ PostS G xf Wx m w H Dn (.ok (.nx (putC e w1 i (.lst ys)).1) (putC e w1 i (.lst ys)).2) := by
  unfold toL at h
  unfold putC
  cases z : e[i]? with
  | none => rw [z] at h; exact h.elim
  | some s =>
    rw [z] at h
    cases s with
    | un => exact h.elim
    | exc c x => exact h.elim
    | own d =>
      cases d <;> first | exact h.elim | skip
      rename_i xs
      dsimp only at h
      cases y : f xs with
      | none => rw [y] at h; exact h.elim
      | some ys => rw [y] at h; exact ⟨xs, ys, _, .inl ⟨z, rfl⟩, y, h⟩
    | val d =>
      cases d <;> first | exact h.elim | skip
      rename_i n
      unfold cat at h
      dsimp only at h
      cases y : w1[n]? with
      | none => rw [y] at h; exact h.elim
      | some d =>
        rw [y] at h
        cases d <;> first | exact h.elim | skip
        rename_i xs
        dsimp only at h
        cases y2 : f xs with
        | none => rw [y2] at h; exact h.elim
        | some ys => rw [y2] at h; exact ⟨xs, ys, _, .inr ⟨n, z, y, rfl⟩, y2, h⟩
theorem CAt.same {i : Nat} {d d1 : D} {a b : Addr} (h : CAt m e w i d a) (r : Rel G m e w σ H) (r1 : Rel G m1 e w1 σ H1) (h1 : CAt m1 e w1 i d1 b) : a = b := by
  have e1 := (h.own r).1
  have e2 := (h1.own r1).1
  rw [e1] at e2
  cases e2
  rfl
theorem tyL {K : PySem.W.Frag} {a : Addr} {vs : List V} (h : H a = some (.lst vs)) : tyV K "list" (.ref a) H := .inl ⟨rfl, vs, .of h⟩
theorem popE_post {i : Nat} {j : Int} {k : Env → D → M Fl} (h : PostS G xf Wx m w H Dn (cat e' (popE e i j k) w)) : ∃ xs a n d, CAt m e w i (.lst xs) a ∧ L2.ixN xs.length j = some n ∧ xs[n]? = some d ∧
    PostS G xf Wx m w H Dn (cat e' (k (putC e w i (.lst (xs.eraseIdx n))).1 d) (putC e w i (.lst (xs.eraseIdx n))).2) := by
  unfold popE at h
  unfold putC
  cases z : e[i]? with
  | none => rw [z] at h; exact PostS.cstk (e := e') (by exact h)
  | some s =>
    rw [z] at h
    cases s with
    | un => exact PostS.cstk (e := e') (by exact h)
    | exc c x => exact PostS.cstk (e := e') (by exact h)
    | own d =>
      cases d <;> first | exact PostS.cstk (e := e') (by exact h) | skip
      rename_i xs
      dsimp only at h
      cases y : L2.ixN xs.length j with
      | none => rw [y] at h; exact PostS.cstk (e := e') (by exact h)
      | some n =>
        rw [y] at h
        dsimp only at h
        cases y2 : xs[n]? with
        | none => rw [y2] at h; exact PostS.cstk (e := e') (by exact h)
        | some d => rw [y2] at h; exact ⟨xs, _, n, d, .inl ⟨z, rfl⟩, y, y2, h⟩
    | val d =>
      cases d <;> first | exact PostS.cstk (e := e') (by exact h) | skip
      rename_i c
      unfold cat at h
      dsimp only at h
      cases y0 : w[c]? with
      | none => rw [y0] at h; exact h.elim
      | some d =>
        rw [y0] at h
        cases d <;> first | exact h.elim | skip
        rename_i xs
        dsimp only at h
        cases y : L2.ixN xs.length j with
        | none => rw [y] at h; exact h.elim
        | some n =>
          rw [y] at h
          dsimp only at h
          cases y2 : xs[n]? with
          | none => rw [y2] at h; exact h.elim
          | some d => rw [y2] at h; exact ⟨xs, _, n, d, .inr ⟨c, z, y0, rfl⟩, y, y2, h⟩
/-- one argument -/
theorem PostS.one {α : Type} {xs : Xs} {k : List D → M Fl} {Q1 : List V → Hp → Prop} (h1 : xs.len = 1) (h : PostS G xf Wx m w H Dn (cat e (evs C xs e >>= k) w))
    (hk : ∀ d w1 v m1 H1, Ext m w H m1 w1 H1 → Rel G m1 e w1 σ H1 → R G m1.F m1.rho w1.length H1 v d → PostS G xf Wx m1 w1 H1 Dn (cat e (k [d]) w1) → Q1 [v] H1) : PostE G xf Wx m w H e σ (RRs G) Q1 (evs C xs e w) := by
  have l := evs_len (C := C) (e := e) xs w
  unfold cat at h
  rw [bind_def] at h
  cases q : evs C xs e w with
  | ok ds w' =>
    rw [q] at h
    have hl := l ds w' q
    rw [h1] at hl
    obtain ⟨d, rfl⟩ := len1 hl
    intro v m' H' x r y
    cases y with
    | cons a t =>
      cases t
      exact hk d w' _ m' H' x r a (PostS.shift (by exact h) x)
  | exc c x w' =>
    rw [q] at h
    exact fun pn m' H' x r y => h pn m' σ H' x r y
  | stk => rw [q] at h; exact h
theorem oneI_post {d : D} {k : Int → M Fl} (h : PostS G xf Wx m w H Dn (cat e (oneI [d] k) w)) : ∃ j, d = .int j ∧ PostS G xf Wx m w H Dn (cat e (k j) w) := by
  cases d <;> first | exact PostS.cstk (e := e) (by exact h) | exact ⟨_, rfl, h⟩
theorem seq_of_ixN {n j : Nat} {k : Int} (h : L2.ixN n k = some j) : seqIndex? k n = some j := (ixN_seq h).1
/-- the syntax of x.m(a) -/
structure MethC (X : Cx) (i : Nat) (x : Str) (px : Pos) (nm : Str) (ea : Expr) (apos cpos : Pos) : Prop where
  N : X.N[i]? = some x
  v : Vis X.env.scope x
  d : (x == ("__debug__" : Str)) = false
  cd : (x == ("__classdict__" : Str)) = false
  b : attributeBase (.Name x px) nm X.env (eval (.Name x px) X.env) = eval (.Name x px) X.env
  f : ((backTo cpos (starEach [ea] X.env)).all (fun x => !x.1) && (backToKw cpos (keywordEach [] X.env)).all (fun x => x.1.isSome) && decide ([ea].length + ([] : List Keyword).length + (if ([] : List Keyword).isEmpty then 0 else 1) < 30)) = true
  l : (apos.endLine == cpos.line) = true
  s : starEach [ea] X.env = (false, eval ea X.env) :: starEach [] X.env
theorem s_app {i : Nat} {x : Str} {ea : Expr} {es : Xs} {px apos cpos : Pos} (M : MethC X i x px "append" ea apos cpos) (ha : PA X [ea] (TS' G xf Wx C es)) (h1 : es.len = 1) : PS X (.Expr (.Call (.Attribute (.Name x px) "append" apos) [ea] [] cpos) pos) (TSt G xf Wx C (.app i es)) :=
  ps_weak (ps_expr (pe_bm F.plainAttrs_list F.slot_list_append F.type_list_append mt_append (pe_var M.N M.v M.d M.cd) ha M.b M.f M.l M.s rfl) rfl) fun D σ H ⟨m, e, w, r, q⟩ => by
    rw [ex] at q
    obtain ⟨⟨xs, a, ca⟩, q1⟩ := isL_post q
    obtain ⟨s1, vs, s2, _⟩ := ca.own r
    refine ⟨_, s1, tyL s2, m, e, w, r, PostS.one (α := Unit) h1 q1 fun d w1 v m1 H1 x1 r1 yv q2 => ?_⟩
    obtain ⟨xs2, ys, b, cb, hf, q3⟩ := toL_post (by exact q2)
    have hab := ca.same r r1 cb
    subst hab
    obtain ⟨_, vs2, s3, s4, s5⟩ := cb.own r1
    split at hf <;> first | cases hf | skip
    rename_i hlt
    have hlen : vs2.length < SZ := by rw [s5.length]; exact hlt
    obtain ⟨x2, r2⟩ := cb.lst r1 (us := vs2 ++ [v]) (by simp; omega) (s5.append (.cons yv .nil))
    exact ⟨_, vs2, v, rfl, rfl, s3, by rw [← SZ_eq]; exact hlen, q3 _ _ _ x2 r2⟩
theorem s_ext {i : Nat} {x : Str} {ea : Expr} {es : Xs} {px apos cpos : Pos} (hK : X.K = G.K) (M : MethC X i x px "extend" ea apos cpos) (ha : PA X [ea] (TS' G xf Wx C es)) (h1 : es.len = 1) : PS X (.Expr (.Call (.Attribute (.Name x px) "extend" apos) [ea] [] cpos) pos) (TSt G xf Wx C (.ext i es)) :=
  ps_weak (ps_expr (pe_bm F.plainAttrs_list F.slot_list_extend F.type_list_extend mt_ext2 (pe_var M.N M.v M.d M.cd) ha M.b M.f M.l M.s rfl) rfl) fun D σ H ⟨m, e, w, r, q⟩ => by
    rw [ex] at q
    obtain ⟨⟨xs, a, ca⟩, q1⟩ := isL_post q
    obtain ⟨s1, vs, s2, _⟩ := ca.own r
    refine ⟨_, s1, tyL s2, m, e, w, r, PostS.one (α := Unit) h1 q1 fun d w1 v m1 H1 x1 r1 yv q2 => ?_⟩
    cases d <;> first | exact PostS.cstk (e := e) (by exact q2) | skip
    · rename_i zs
      cases yv with
      | @tup p ws _ t1 l1 f4 =>
        obtain ⟨xs2, ys, b, cb, hf, q3⟩ := toL_post (by exact q2)
        have hab := ca.same r r1 cb
        subst hab
        obtain ⟨_, vs2, s3, s4, s5⟩ := cb.own r1
        split at hf <;> first | cases hf | skip
        rename_i hlt
        have hlen : vs2.length + ws.length ≤ SZ := by rw [s5.length, f4.length]; exact hlt
        obtain ⟨x2, r2⟩ := cb.lst r1 (us := vs2 ++ ws) (by rw [List.length_append]; exact hlen) (s5.append f4)
        exact .inr ⟨_, p, vs2, ws, rfl, rfl, s3, by rw [hK]; exact t1.sq, by rw [← SZ_eq]; exact hlen, q3 _ _ _ x2 r2⟩
    rename_i zs
    cases yv with
    | @lst p ws _ f1 f2 f3 f4 =>
      obtain ⟨xs2, ys, b, cb, hf, q3⟩ := toL_post (by exact q2)
      have hab := ca.same r r1 cb
      subst hab
      obtain ⟨_, vs2, s3, s4, s5⟩ := cb.own r1
      split at hf <;> first | cases hf | skip
      rename_i hlt
      have hlen : vs2.length + ws.length ≤ SZ := by rw [s5.length, f4.length]; exact hlt
      obtain ⟨x2, r2⟩ := cb.lst r1 (us := vs2 ++ ws) (by rw [List.length_append]; exact hlen) (s5.append f4)
      exact .inl ⟨_, p, vs2, ws, rfl, rfl, s3, f2, by rw [← SZ_eq]; exact hlen, q3 _ _ _ x2 r2⟩
theorem ixN_lt {n j : Nat} {k : Int} (h : L2.ixN n k = some j) (hn : n ≤ SZ) : -(2 ^ 63) ≤ k ∧ k < 2 ^ 63 := by
  obtain ⟨_, h2, h3, h4⟩ := ixN_seq h
  have : (SZ : Nat) = 16777216 := rfl
  omega
theorem pop_rule {i : Nat} {xs : List D} {a : Addr} {n : Nat} {j : Int} {d : D} (r : Rel G m e w σ H) (ca : CAt m e w i (.lst xs) a) (hj : L2.ixN xs.length j = some n) (hd : xs[n]? = some d) {Q : VK}
    (q : ∀ v us, R G m.F m.rho w.length (upd H a (.lst us)) v d → Ext m w H m (putC e w i (.lst (xs.eraseIdx n))).2 (upd H a (.lst us)) → Rel G m (putC e w i (.lst (xs.eraseIdx n))).1 (putC e w i (.lst (xs.eraseIdx n))).2 σ (upd H a (.lst us)) → Q v (upd H a (.lst us))) :
    rPopAt (.ref a) [.int j] H Q := by
  obtain ⟨_, vs, s3, s4, s5⟩ := ca.own r
  obtain ⟨v, hv, rv⟩ := s5.get hd
  have hl := s5.length
  rw [← hl] at hj
  obtain ⟨k1, k2⟩ := ixN_lt hj s4
  obtain ⟨x2, r2⟩ := ca.lst r (us := vs.eraseIdx n) (Nat.le_trans (len_erase _ _) s4) (s5.erase n)
  refine ⟨a, vs, j, n, v, rfl, rfl, s3, k1, k2, seq_of_ixN hj, hv, q v _ ?_ x2 r2⟩
  exact rv.mono (fun _ h => h) (fun b hb => upd_ne fun z => ca.noF r (by rw [← z]; exact hb)) (Nat.le_refl _) fun _ _ => rfl
theorem putC_len {i : Nat} {d d' : D} {a : Addr} (h : CAt m e w i d a) : (putC e w i d').1.length = e.length ∧ (putC e w i d').2.length = w.length := by
  unfold putC
  rcases h with ⟨h1, _⟩ | ⟨n, h1, _, _⟩
  · rw [h1]; simp
  · rw [h1]; simp
theorem s_popx {i : Nat} {x : Str} {ea : Expr} {es : Xs} {px apos cpos : Pos} (M : MethC X i x px "pop" ea apos cpos) (ha : PA X [ea] (TS' G xf Wx C es)) (h1 : es.len = 1) : PS X (.Expr (.Call (.Attribute (.Name x px) "pop" apos) [ea] [] cpos) pos) (TSt G xf Wx C (.popx i es)) :=
  ps_weak (ps_expr (pe_bm F.plainAttrs_list F.slot_list_pop F.type_list_pop mt_popAt (pe_var M.N M.v M.d M.cd) ha M.b M.f M.l M.s rfl) rfl) fun D σ H ⟨m, e, w, r, q⟩ => by
    rw [ex] at q
    obtain ⟨⟨xs, a, ca⟩, q1⟩ := isL_post q
    obtain ⟨s1, vs, s2, _⟩ := ca.own r
    refine ⟨_, s1, tyL s2, m, e, w, r, PostS.one (α := Unit) h1 q1 fun d w1 v m1 H1 x1 r1 yv q2 => ?_⟩
    obtain ⟨j, rfl, q22⟩ := oneI_post q2
    obtain ⟨xs2, b, n, d, cb, hj, hd, q3⟩ := popE_post q22
    have hab := ca.same r r1 cb
    subst hab
    cases yv
    exact pop_rule r1 cb hj hd fun v us rv x2 r2 => q3 _ _ _ x2 r2
theorem s_popat {i j : Nat} {x y : Str} {ea : Expr} {es : Xs} {px py apos cpos : Pos} (M : MethC X i x px "pop" ea apos cpos) (ha : PA X [ea] (TS' G xf Wx C es)) (h1 : es.len = 1) (hn : X.N.Nodup) (hj : X.N[j]? = some y) (hl : Loc X.env.scope y) (hf : X.fn y = true ∨ X.env.scope.names.lookup y = some .local) :
    PS X (.Assign [.Name y py] (.Call (.Attribute (.Name x px) "pop" apos) [ea] [] cpos) pos) (TSt G xf Wx C (.popat j i es)) :=
  ps_weak (ps_set hn hj hl (pe_bm F.plainAttrs_list F.slot_list_pop F.type_list_pop mt_popAt (pe_var M.N M.v M.d M.cd) ha M.b M.f M.l M.s rfl) rfl hf) fun D σ H ⟨m, e, w, r, q⟩ => by
    rw [ex] at q
    obtain ⟨⟨xs, a, ca⟩, q1⟩ := isL_post q
    obtain ⟨s1, vs, s2, _⟩ := ca.own r
    refine ⟨_, s1, tyL s2, m, e, w, r, PostS.one (α := Unit) h1 q1 fun d w1 v m1 H1 x1 r1 yv q2 => ?_⟩
    obtain ⟨k, rfl, q22⟩ := oneI_post q2
    obtain ⟨xs2, b, n, d, cb, hj, hd, q3⟩ := popE_post q22
    have hab := ca.same r r1 cb
    subst hab
    cases yv with
    | int =>
      refine pop_rule r1 cb hj hd fun v us rv x2 r2 => ?_
      obtain ⟨hlt, q4⟩ := setS_post q3
      exact PostS.nx (q4.shift x2) (r2.setVal hlt (by rw [(putC_len cb).2]; exact rv))
theorem s_pop {i j : Nat} {x y : Str} {px py apos cpos : Pos} (hN : X.N[i]? = some x) (hv : Vis X.env.scope x) (hd : (x == ("__debug__" : Str)) = false) (hcd : (x == ("__classdict__" : Str)) = false)
    (hb : attributeBase (.Name x px) "pop" X.env (eval (.Name x px) X.env) = eval (.Name x px) X.env) (hl : (apos.endLine == cpos.line) = true) (hn : X.N.Nodup) (hj : X.N[j]? = some y) (hy : Loc X.env.scope y) (hf : X.fn y = true ∨ X.env.scope.names.lookup y = some .local) :
    PS X (.Assign [.Name y py] (.Call (.Attribute (.Name x px) "pop" apos) [] [] cpos) pos) (TSt G xf Wx C (.pop j i)) :=
  ps_weak (ps_set hn hj hy (pe_bm0 F.plainAttrs_list F.slot_list_pop F.type_list_pop mt_pop (pe_var hN hv hd hcd) hb hl) rfl hf) fun D σ H ⟨m, e, w, r, q⟩ => by
    rw [ex] at q
    cases z : e[i]? with
    | none => rw [z] at q; exact q.elim
    | some s =>
      rw [z] at q
      cases s with
      | own d =>
        cases d <;> first | exact q.elim | skip
        rename_i xs
        dsimp only at q
        cases y2 : xs[xs.length - 1]? with
        | none => rw [y2] at q; exact q.elim
        | some d =>
          rw [y2] at q
          have ca : CAt m e w i (.lst xs) (m.oa i) := .inl ⟨z, rfl⟩
          obtain ⟨s1, vs, s3, s4, s5⟩ := ca.own r
          have hl := s5.length
          obtain ⟨v, hv, rv⟩ := s5.get (i := xs.length - 1) y2
          have hdl : RA G m.F m.rho w.length H vs.dropLast xs.dropLast := by
            rw [List.dropLast_eq_take, List.dropLast_eq_take, hl]
            exact s5.take _
          obtain ⟨x2, r2⟩ := ca.lst r (us := vs.dropLast) (by simp; omega) hdl
          have e1 : putC e w i (.lst xs.dropLast) = (e.set i (.own (.lst xs.dropLast)), w) := by unfold putC; rw [z]
          rw [e1] at x2 r2
          dsimp only at q
          obtain ⟨hlt, q4⟩ := setS_post0 q
          refine ⟨_, s1, tyL s3, _, vs, v, rfl, rfl, s3, by rw [hl]; exact hv, PostS.nx (q4.shift x2) (r2.setVal hlt ?_)⟩
          exact rv.mono (fun _ h => h) (fun b hb => upd_ne fun z => ca.noF r (by rw [← z]; exact hb)) (Nat.le_refl _) fun _ _ => rfl
      | _ => exact q.elim
theorem s_apppop {i l : Nat} {x y : Str} {ea : Expr} {es : Xs} {px apos cpos py apos2 cpos2 : Pos} (M : MethC X i x px "pop" ea apos cpos) (M2 : MethC X l y py "append" (.Call (.Attribute (.Name x px) "pop" apos) [ea] [] cpos) apos2 cpos2) (ha : PA X [ea] (TS' G xf Wx C es)) (h1 : es.len = 1) :
    PS X (.Expr (.Call (.Attribute (.Name y py) "append" apos2) [.Call (.Attribute (.Name x px) "pop" apos) [ea] [] cpos] [] cpos2) pos) (TSt G xf Wx C (.apppop l i es)) :=
  ps_weak (ps_expr (pe_bm F.plainAttrs_list F.slot_list_append F.type_list_append mt_append (pe_var M2.N M2.v M2.d M2.cd)
    (pa_cons (pe_bm F.plainAttrs_list F.slot_list_pop F.type_list_pop mt_popAt (pe_var M.N M.v M.d M.cd) ha M.b M.f M.l M.s rfl) pa_nil M2.s) M2.b M2.f M2.l M2.s rfl) rfl) fun D σ H ⟨m, e, w, r, q⟩ => by
    rw [ex] at q
    obtain ⟨⟨xs, a, ca⟩, q1⟩ := isL_post q
    obtain ⟨⟨xs', a', ca'⟩, q1⟩ := isL_post q1
    obtain ⟨s1, vs, s2, _⟩ := ca.own r
    obtain ⟨s1', vs', s2', _⟩ := ca'.own r
    by_cases hli : l = i
    · rw [if_pos hli] at q1; exact PostS.cstk (e := e) (by exact q1)
    rw [if_neg hli] at q1
    refine ⟨_, s1, tyL s2, _, s1', tyL s2', m, e, w, r, PostS.one (α := Unit) h1 q1 fun d w1 v m1 H1 x1 r1 yv q2 => ?_⟩
    obtain ⟨k, rfl, q22⟩ := oneI_post q2
    obtain ⟨xs2, b, n, d, cb, hj, hd, q3⟩ := popE_post q22
    have hab := ca'.same r r1 cb
    subst hab
    cases yv with
    | int =>
      refine pop_rule r1 cb hj hd fun v us rv x2 r2 => ?_
      obtain ⟨xs3, ys, b3, cc, hf, q4⟩ := toL_post (m := m1) q3
      have q5 := PostS.shift q4 x2
      obtain ⟨s6, vs3, s7, s8, s9⟩ := cc.own r2
      rw [s1] at s6
      cases s6
      split at hf <;> first | cases hf | skip
      rename_i hlt
      have hlen : vs3.length < SZ := by rw [s9.length]; exact hlt
      obtain ⟨x4, r4⟩ := cc.lst r2 (us := vs3 ++ [v]) (by simp; omega) (s9.append (.cons (by rw [(putC_len cb).2]; exact rv) .nil))
      exact ⟨_, vs3, v, rfl, rfl, s7, by rw [← SZ_eq]; exact hlen, q5 _ _ _ x4 r4⟩
end
/-- no name -/
def noNm : Expr → Bool
  | .Name _ _ => false | _ => true
theorem pos_far {o : Expr} {env : PySem.Env} {apos pos : Pos} (ho : noNm o = true) (hl : (apos.endLine == pos.line) = false) : methodCallPos true o env apos pos = pure { pos with line := apos.endLine } := by
  unfold methodCallPos
  rw [hl]
  cases o <;> first | cases ho | skip
  all_goals rfl
theorem late_far {prog : Program} {w : World} {A : Around} {E : Value → Shared → Prop} {s : Shared} {env : PySem.Env} {o : Expr} {name : Str} {apos pos : Pos} {args : List Expr} {Q : Value → Shared → Prop}
    (hbase : attributeBase o name env (eval o env) = eval o env)
    (hfew : ((backTo pos (starEach args env)).all (fun x => !x.1) && (backToKw pos (keywordEach [] env)).all (fun x => x.1.isSome)
      && decide (args.length + ([] : List Keyword).length + (if ([] : List Keyword).isEmpty then 0 else 1) < 30)) = true)
    (ho : noNm o = true) (hl : (apos.endLine == pos.line) = false)
    (h : wpAny (model prog w) A (eval o env) (fun ov s₁ => MethodOn prog w A name { pos with line := apos.endLine } ov (backTo pos (starEach args env)) Q E s₁) E s) :
    wpAny (model prog w) A (eval (.Call (.Attribute o name apos) args [] pos) env) Q E s := by
  rw [arm_eval_Call, hbase]
  refine wpAny_bind (wpAny_mono h (fun ov s₁ h₁ => ?_) fun _ _ e => e)
  obtain ⟨T, id, pa, slot, hty, hT, hd, hc⟩ := h₁
  refine wpAny_bind (wpAny_standAt ?_)
  have hform : methodCallForm (args.length + ([] : List Keyword).length) (backTo pos (starEach args env)) (backToKw pos (keywordEach [] env)) = true := hfew
  have hpos := pos_far (env := env) ho hl
  unfold methodCall
  rw [hform]
  refine wpAny_bind (wpAny_holding (getMethod_builtin hT pa slot hty hd ?_))
  exact wpAny_bind (wpAny_of_eq hpos hc)
theorem pe_bmF {X : Cx} {o e : Expr} {es : List Expr} {to : TE} {t : TA} {name : Str} {apos cpos : Pos} {T id : String} {r : V → List V → Hp → VK → Prop}
    (pa : PlainAttrs T) (slot : PySem.Slot T name id) (hty : typeOf (.builtin id) = pure (.type "method_descriptor")) (hm : MtR X id r) (ho : PE X o to) (ha : PA X (e :: es) t)
    (hbase : attributeBase o name X.env (eval o X.env) = eval o X.env)
    (hfew : ((backTo cpos (starEach (e :: es) X.env)).all (fun x => !x.1) && (backToKw cpos (keywordEach [] X.env)).all (fun x => x.1.isSome)
      && decide ((e :: es).length + ([] : List Keyword).length + (if ([] : List Keyword).isEmpty then 0 else 1) < 30)) = true)
    (hn : noNm o = true) (hl : (apos.endLine == cpos.line) = false) (hs : starEach (e :: es) X.env = (false, eval e X.env) :: starEach es X.env) (hplain : (backTo cpos (starEach es X.env)).any (·.1) = false) :
    PE X (.Call (.Attribute o name apos) (e :: es) [] cpos) (tBM X.K T r to t) := by
  refine ⟨fun pins s σ H Q I h => ?_⟩
  refine late_far hbase hfew hn hl (thn (ho.run pins s σ H _ I h) fun v s1 ⟨x, H1, I1, r1, ty, q1⟩ => ?_)
  obtain ⟨h1, h2⟩ := tyV_is I1 r1 ty
  refine ⟨T, id, pa, slot, hty, h1, h2, ?_⟩
  have hA := ha.run cpos pins s1 σ H1 _ I1 q1
  rw [hs] at hA ⊢
  refine Calls.callWith_builtin (by show (false || (backTo cpos (starEach es X.env)).any (·.1)) = false; rw [hplain] <;> rfl) (Calls.evalArgs_plain ?_)
  exact thn hA fun us s2 ⟨vs, H2, I2, r2, q2⟩ => hm pins s2 σ H2 x vs v us Q I2 r1 r2 q2
def plB : Expr → Bool
  | .Call _ [] _ _ => false | _ => true
theorem plainB_of {ea : Expr} {nm : Str} {env : PySem.Env} {W : Sem Value} (h : plB ea = true) : attributeBase ea nm env W = W := by
  cases ea <;> first | rfl | skip
  rename_i f as kw p
  cases as with
  | nil => cases h
  | cons a as => cases f <;> rfl
theorem plcI_some {k : Int} : ∀ {ns : List Int} {j : Nat}, plcI k ns = some j → ns[j]? = some k ∧ ∀ (m : Nat) (z : Int), m < j → ns[m]? = some z → z ≠ k
  | [], _, h => by simp [plcI] at h
  | a :: r, j, h => by
    rw [plcI] at h
    split at h
    · rename_i e
      cases h
      exact ⟨by rw [e]; rfl, fun m z hm _ => absurd hm (by omega)⟩
    · rename_i e
      obtain ⟨i, hi, rfl⟩ := Option.map_eq_some_iff.mp h
      obtain ⟨h1, h2⟩ := plcI_some hi
      refine ⟨by simpa using h1, fun m z hm hz => ?_⟩
      cases m with
      | zero => simp at hz; subst hz; exact e
      | succ m => exact h2 m z (by omega) (by simpa using hz)
section
variable {G : GG} {xf : Nat → Option Str} {Wx : WX} {C : Cfg} {X : Cx} {pos : Pos}
theorem c_lidx {ea eb : Expr} {a b : Ev.X} {apos : Pos} (hK : X.K = G.K) (ha : PE X ea (TB G xf Wx C a)) (hb : PE X eb (TB G xf Wx C b))
    (h1 : attributeBase ea "index" X.env (eval ea X.env) = eval ea X.env)
    (h2 : ((backTo pos (starEach [eb] X.env)).all (fun x => !x.1) && (backToKw pos (keywordEach [] X.env)).all (fun x => x.1.isSome) && decide ([eb].length + ([] : List Keyword).length + (if ([] : List Keyword).isEmpty then 0 else 1) < 30)) = true)
    (h3 : (apos.endLine == pos.line) = true ∨ noNm ea = true) (hs : starEach [eb] X.env = (false, eval eb X.env) :: starEach [] X.env) :
    PE X (.Call (.Attribute ea "index" apos) [eb] [] pos) (TB G xf Wx C (.lidx a b)) :=
  pe_weak (by
    cases z : (apos.endLine == pos.line) with
    | true => exact pe_bm F.plainAttrs_list F.slot_list_index F.type_list_index mt_index ha (pa_cons hb pa_nil hs) h1 h2 z hs rfl
    | false => exact pe_bmF F.plainAttrs_list F.slot_list_index F.type_list_index mt_index ha (pa_cons hb pa_nil hs) h1 h2 (h3.resolve_left (by rw [z]; simp)) z hs rfl) fun σ H Q ⟨m, e, w, r, q⟩ => by
    rw [ev] at q
    refine ⟨m, e, w, r, q.step fun xd w1 u m1 H1 x1 r1 y1 q1 => ?_⟩
    cases xd <;> first | exact PostE.stk_elim (by exact q1) | skip
    rename_i xs
    obtain ⟨p, vs, rfl, t1, _, z1⟩ := y1.lst r1
    refine ⟨tyL t1, m1, e, w1, r1, PostE.step (r := ev C b e) (by exact q1) fun k w2 u2 m2 H2 x2 r2 y2 q2 => ?_⟩
    obtain ⟨p', vs', e1, t2, _, z2⟩ := (y1.mono x2).lst r2
    cases e1
    cases k <;> first | exact PostE.stk_elim (by exact q2) | skip
    rename_i i
    obtain ⟨ns, hn, q2⟩ := onInts_post (α := D) q2
    have e3 := z2.ints_of hn
    subst e3
    have yk := y2.view r2
    cases hz : plcI i ns with
    | none => rw [hz] at q2; exact PostE.stk_elim (by exact q2)
    | some j =>
      rw [hz] at q2
      obtain ⟨k1, k2⟩ := plcI_some hz
      have eu : u2 = V.int i := by
        cases yk with
        | v h => cases h; rfl
        | o h => cases h
      subst eu
      refine ⟨p, ns.map V.int, .int i, j, .int i, rfl, rfl, .of t2, rfl, ?_, by rw [List.getElem?_map, k1]; rfl, ?_, fun mm z hm hz2 => ?_, PostE.val q2 r2 ((RX.of rfl).mpr (.int _))⟩
      · rw [List.all_eq_true]
        intro x hx
        obtain ⟨y, _, rfl⟩ := List.mem_map.mp hx
        rfl
      · simp [eqV]
      · rw [List.getElem?_map] at hz2
        obtain ⟨y, hy, rfl⟩ := Option.map_eq_some_iff.mp hz2
        have := k2 mm y hm hy
        simp [eqV, this]
end
end Ev

set_option maxRecDepth 100000
set_option maxHeartbeats 4000000
/-! Stores; fresh containers; several targets. -/
namespace Ev
open PySem PySem.Spec PyProof.Rows L2

section
variable {G : GG} {xf : Nat → Option Str} {Wx : L2.WX} {m m' m1 : Fm} {w w' w1 : Wd} {H H' H1 : Hp} {e e' : Env} {σ σ' : L2.St} {C : Cfg} {X : Cx} {pos : Pos} {Dn : Ends}
/-! ### x[k] = v -/
theorem RK.append : ∀ {vs us : List (Key × V)} {ds es : List (D × D)}, RK G m.F m.rho w.length H vs ds → RK G m.F m.rho w.length H us es → RK G m.F m.rho w.length H (vs ++ us) (ds ++ es)
  | _, _, _, _, .nil, h => h
  | _, _, _, _, .cons r t, h => .cons r (RK.append t h)
theorem RK.any {vs : List (Key × V)} {ds : List (D × D)} (h : RK G m.F m.rho w.length H vs ds) (k : Key) : (ds.any fun p => keyEq p.1 (keyD k)) = vs.any fun kv => decide (kv.1 = k) := by
  induction vs generalizing ds with
  | nil => cases h; rfl
  | cons p vs ih => cases h with
    | cons a b => rw [List.any_cons, List.any_cons, ih b, keyEq_iff]
theorem RK.map {vs : List (Key × V)} {ds : List (D × D)} (h : RK G m.F m.rho w.length H vs ds) (k : Key) {v : V} {d : D} (y : R G m.F m.rho w.length H v d) :
    RK G m.F m.rho w.length H (vs.map fun kv => if kv.1 = k then (kv.1, v) else kv) (ds.map fun p => if keyEq p.1 (keyD k) then (p.1, d) else p) := by
  induction vs generalizing ds with
  | nil => cases h; exact .nil
  | cons p vs ih => cases h with
    | @cons j u c _ ds a b =>
      rw [List.map_cons, List.map_cons]
      simp only [keyEq_iff]
      by_cases hj : j = k
      · simp only [hj, decide_true, if_true]
        exact .cons y (ih b)
      · simp only [hj, decide_false, Bool.false_eq_true, if_false]
        exact .cons a (ih b)
theorem RK.put {vs : List (Key × V)} {ds : List (D × D)} (h : RK G m.F m.rho w.length H vs ds) (k : Key) {v : V} {d : D} (y : R G m.F m.rho w.length H v d) : RK G m.F m.rho w.length H (putK vs k v) (dput ds (keyD k) d) := by
  unfold putK dput
  rw [h.any k]
  by_cases q : (vs.any fun kv => decide (kv.1 = k)) = true
  · rw [if_pos q, if_pos q]; exact h.map k y
  · rw [if_neg q, if_neg q]; exact h.append (.cons y .nil)
theorem dput_len (ds : List (D × D)) (k d : D) : (dput ds k d).length ≤ ds.length + 1 := by
  unfold dput
  split <;> simp
def rPut : TSet := fun o i v H Q => rSetL o i v H Q ∨ ∃ a H', o = .ref a ∧ DPut H a i v H' ∧ Q H'
theorem pset_put (hu : X.A.units + 1 < cLine) : PSet X rPut := by
  intro pins s σ H o i v ov iv u Q I ro ri rv h
  rcases h with h | ⟨a, H', rfl, g, q⟩
  · exact set_list pins s σ H o i v ov iv u Q I ro ri rv h
  · obtain rfl : ov = Value.ref a := ro
    exact d_setItem hu I g ri rv fun s4 I4 => ⟨H', I4, q⟩
theorem ps_put {o i value : Expr} {to ti tv : TE} {pos' : Pos} (hu : X.A.units + 1 < cLine) (ho : PE X o to) (hi : PE X i ti) (hv : PE X value tv) (hs : swapsWith value (some (.Subscript o i pos')) pos.line X.env = pure false) :
    PS X (.Assign [.Subscript o i pos'] value pos) (fun D σ H => tv σ H fun v H1 => to σ H1 fun x H2 => ti σ H2 fun y H3 => rPut x y v H3 fun H4 => D.nx σ H4) := by
  refine ⟨fun pins s σ H D I h => ?_⟩
  refine wpAny_Assign_Subscript (thn (hv.run pins s σ H _ I h) fun r s1 ⟨v, H1, I1, rv, q1⟩ => thn (ho.run pins s1 σ H1 _ I1 q1) fun u s2 ⟨x, H2, I2, rx, q2⟩ => thn (hi.run pins s2 σ H2 _ I2 q2) fun iv s3 ⟨y, H3, I3, ry, q3⟩ => ?_) hs
  exact thn (pset_put hu pins s3 σ H3 x y v u iv r _ I3 rx ry rv q3) fun _ s4 ⟨H4, I4, q4⟩ => ⟨σ, H4, I4, q4⟩
/-- what x[k] = v does to a container -/
theorem putAt_rule {i : Nat} {k d : D} {u v : V} {Q : Hp → Prop} (r : Rel G m e w σ H) (yk : View G m w H u k) (yd : R G m.F m.rho w.length H v d) {a : Addr} (ha : σ[i]? = some (some (.ref a)))
    (h : PostS G xf Wx m w H Dn (cat e (putAt e i k d) w)) (q : ∀ H', Dn.nx σ H' → Q H') : rPut (.ref a) u v H Q := by
  have lst : ∀ j, k = .int j → PostS G xf Wx m w H Dn (cat e (toL e i fun xs => setAt xs j d) w) → rPut (.ref a) u v H Q := fun j hk hh => by
    subst hk
    obtain ⟨xs, ys, b, cb, hf, q3⟩ := toL_post hh
    obtain ⟨s1, vs, s3, s4, s5⟩ := cb.own r
    rw [ha] at s1
    cases s1
    unfold setAt at hf
    obtain ⟨n, hn, rfl⟩ := Option.map_eq_some_iff.mp hf
    obtain ⟨x2, r2⟩ := cb.lst r (us := vs.set n v) (by simp; exact s4) (s5.set n yd)
    have hu : u = .int j := by
      rcases yk.flat rfl with ⟨z, _⟩ | ⟨b, z, _⟩ | ⟨b, z, h⟩ | ⟨b, z, _⟩ <;> cases z
      exact h
    subst hu
    exact .inl ⟨a, vs, j, n, rfl, rfl, s3, by rw [s5.length]; exact hn, q _ (q3 _ _ _ x2 r2)⟩
  have rest : PostS G xf Wx m w H Dn (cat e (putI e i k d) w) → rPut (.ref a) u v H Q := fun hr => by
    cases k <;> first | exact PostS.cstk (e := e) (by exact hr) | exact lst _ rfl hr
  unfold putAt at h
  cases hi : e[i]? with
  | none => rw [hi] at h; exact rest h
  | some s =>
    rw [hi] at h
    cases s with
    | un => exact rest h
    | exc c x => exact rest h
    | val c => exact rest h
    | own c =>
      cases c <;> first | exact rest (by exact h) | skip
      rename_i kvs
      dsimp only at h
      by_cases hk : isKey k = true ∧ kvs.length < SZ
      · rw [if_pos hk] at h
        obtain ⟨kk, rfl, rfl⟩ := key_v yk hk.1
        have ca : CAt m e w i (.dic kvs) (m.oa i) := .inl ⟨hi, rfl⟩
        obtain ⟨s1, vs, s3, s4, s5⟩ := ca.own r
        rw [ha] at s1
        cases s1
        have hl := s5.length
        have hF : ∀ b, m.F b → upd H (m.oa i) (.dK (putK vs kk v)) b = H b := fun b hb => upd_ne fun z => ca.noF r (by rw [← z]; exact hb)
        obtain ⟨x2, r2⟩ := r.putOwn (o := .dK (putK vs kk v)) (d' := .dic (dput kvs (keyD kk) d)) hi
          ⟨_, upd_same, by rw [(s5.put kk yd).length]; have := dput_len kvs (keyD kk) d; omega, (s5.put kk yd).mono (fun _ h => h) hF (Nat.le_refl _) fun _ _ => rfl⟩
        exact .inr ⟨_, _, rfl, DPut.k s3 (by rw [← SZ_eq, hl]; exact hk.2), q _ (h _ _ _ x2 r2)⟩
      · rw [if_neg hk] at h; exact PostS.cstk (e := e) (by exact h)
/-- where slot i points is the same before and behind an expression -/
theorem putAt_ref {i : Nat} {k d : D} (r : Rel G m e w σ H) (h : PostS G xf Wx m w H Dn (cat e (putAt e i k d) w)) : ∃ a, σ[i]? = some (some (.ref a)) := by
  have lst : ∀ f, PostS G xf Wx m w H Dn (cat e (toL e i f) w) → ∃ a, σ[i]? = some (some (.ref a)) := fun f h => by
    obtain ⟨xs, ys, b, cb, _⟩ := toL_post h
    exact ⟨b, (cb.own r).1⟩
  have rest : PostS G xf Wx m w H Dn (cat e (putI e i k d) w) → ∃ a, σ[i]? = some (some (.ref a)) := fun hr => by
    cases k <;> first | exact PostS.cstk (e := e) (by exact hr) | exact lst _ hr
  unfold putAt at h
  cases hi : e[i]? with
  | none => rw [hi] at h; exact rest h
  | some s =>
    rw [hi] at h
    cases s with
    | un => exact rest h
    | exc c x => exact rest h
    | val c => exact rest h
    | own c => exact ⟨_, (r.sl i _ hi).1⟩
theorem isS_post {k : Unit → M Fl} {i : Nat} (r : Rel G m e w σ H) (h : PostS G xf Wx m w H Dn (cat e (isS e i >>= k) w)) : (∃ v, σ[i]? = some (some v)) ∧ PostS G xf Wx m w H Dn (cat e (k ()) w) := by
  unfold isS at h
  cases z : e[i]? with
  | none => rw [z] at h; exact PostS.cstk (e := e) (by exact h)
  | some s =>
    rw [z] at h
    cases s with
    | un => exact PostS.cstk (e := e) (by exact h)
    | exc c x => exact PostS.cstk (e := e) (by exact h)
    | own d => exact ⟨⟨_, (r.sl i _ z).1⟩, h⟩
    | val d =>
      obtain ⟨v, h1, _⟩ := r.sl i _ z
      exact ⟨⟨v, h1⟩, h⟩
theorem swaps_sub {v o i : Expr} {p : Pos} {n : Nat} {env : PySem.Env} : swapsWith v (some (.Subscript o i p)) n env = pure false := by cases v <;> rfl
theorem swaps_attr {v o : Expr} {f : Str} {p : Pos} {n : Nat} {env : PySem.Env} : swapsWith v (some (.Attribute o f p)) n env = pure false := by cases v <;> rfl
theorem s_stx {i : Nat} {x : Str} {ek ev : Expr} {k v : Ev.X} {px pos' : Pos} (hu : X.A.units + 1 < cLine) (hN : X.N[i]? = some x) (hv : Vis X.env.scope x) (hd : (x == ("__debug__" : Str)) = false) (hcd : (x == ("__classdict__" : Str)) = false)
    (hk : PE X ek (TB G xf Wx C k)) (hx : PE X ev (TB G xf Wx C v)) : PS X (.Assign [.Subscript (.Name x px) ek pos'] ev pos) (TSt G xf Wx C (.stx i k v)) :=
  ps_weak (ps_put hu (pe_var hN hv hd hcd) hk (tn_of hx) swaps_sub) fun D σ H ⟨m, e, w, r, q⟩ => by
    rw [ex] at q
    refine ⟨m, e, w, r, q.step fun d w1 u m1 H1 x1 r1 y1 q1 => ?_⟩
    obtain ⟨⟨a, ha⟩, q2⟩ := isS_post r1 q1
    refine ⟨a, ha, m1, e, w1, r1, q2.step fun kd w2 y m2 H2 x2 r2 y2 q3 => ?_⟩
    obtain ⟨b, hb⟩ := putAt_ref r2 q3
    rw [ha] at hb
    cases hb
    exact putAt_rule r2 (y2.view r2) (R.ext x2 y1) ha q3 fun H' h => h

/-! ### x.f = v -/
theorem s_stf {i : Nat} {x f : Str} {ev : Expr} {v : Ev.X} {px pos' : Pos} (hf : ∀ c, c < C.nc → Cls X.K (G.cl c) ∧ NoAttr X.K (G.cl c) f) (hN : X.N[i]? = some x) (hv : Vis X.env.scope x) (hd : (x == ("__debug__" : Str)) = false) (hcd : (x == ("__classdict__" : Str)) = false)
    (hx : PE X ev (TB G xf Wx C v)) : PS X (.Assign [.Attribute (.Name x px) f pos'] ev pos) (TSt G xf Wx C (.stf i f v)) :=
  ps_weak (ps_fld (pe_var hN hv hd hcd) (tn_of hx) swaps_attr) fun D σ H ⟨m, e, w, r, q⟩ => by
    rw [ex] at q
    refine ⟨m, e, w, r, q.step fun d w1 u m1 H1 x1 r1 y1 q1 => ?_⟩
    have fin : ∀ c fs a, CAt m1 e w1 i (.ins c fs) a → fs.length < 1000 → c < C.nc → PostS G xf Wx m1 w1 H1 D (.ok (.nx (putC e w1 i (.ins c (putF f d fs))).1) (putC e w1 i (.ins c (putF f d fs))).2) →
        ∃ v, σ[i]? = some (some v) ∧ ∃ a Cc dx fs, v = .ref a ∧ H1 a = some (.ins Cc dx fs) ∧ Cls X.K Cc ∧ NoAttr X.K Cc f ∧ fs.length < 1000 ∧ D.nx σ (upd H1 a (.ins Cc dx (L2.putF f u fs))) := fun c fs a ca hl hc q2 => by
      obtain ⟨s1, dx, vs, s3, s5⟩ := ca.own r1
      have hF : ∀ b, m1.F b → upd H1 a (.ins (G.cl c) dx (L2.putF f u vs)) b = H1 b := fun b hb => upd_ne fun z => ca.noF r1 (by rw [← z]; exact hb)
      obtain ⟨x2, r2⟩ := ca.put r1 (o := .ins (G.cl c) dx (L2.putF f u vs)) (d' := .ins c (Ev.putF f d fs)) ⟨dx, _, upd_same, (s5.put y1).mono (fun _ h => h) hF (Nat.le_refl _) fun _ _ => rfl⟩
      exact ⟨_, s1, a, _, dx, vs, rfl, s3, (hf c hc).1, (hf c hc).2, by rw [s5.length]; exact hl, q2 _ _ _ x2 r2⟩
    unfold putFld at q1
    cases hi : e[i]? with
    | none => rw [hi] at q1; exact PostS.cstk (e := e) (by exact q1)
    | some s =>
      rw [hi] at q1
      cases s with
      | un => exact PostS.cstk (e := e) (by exact q1)
      | exc c x => exact PostS.cstk (e := e) (by exact q1)
      | own d0 =>
        cases d0 <;> first | exact PostS.cstk (e := e) (by exact q1) | skip
        rename_i c fs
        dsimp only at q1
        by_cases hh : fs.length < 1000 ∧ c < C.nc
        · rw [if_pos hh] at q1
          refine fin c fs _ (.inl ⟨hi, rfl⟩) hh.1 hh.2 ?_
          unfold putC
          rw [hi]
          exact q1
        · rw [if_neg hh] at q1; exact PostS.cstk (e := e) (by exact q1)
      | val d0 =>
        cases d0 <;> first | exact PostS.cstk (e := e) (by exact q1) | skip
        rename_i n
        unfold cat at q1
        dsimp only at q1
        cases z : w1[n]? with
        | none => rw [z] at q1; exact q1.elim
        | some d0 =>
          rw [z] at q1
          cases d0 <;> first | exact q1.elim | skip
          rename_i c fs
          dsimp only at q1
          by_cases hh : fs.length < 1000 ∧ c < C.nc
          · rw [if_pos hh] at q1
            refine fin c fs _ (.inr ⟨n, hi, z, rfl⟩) hh.1 hh.2 ?_
            unfold putC
            rw [hi]
            exact q1
          · rw [if_neg hh] at q1; exact q1.elim

/-! ### own containers become values -/
theorem s_frz {st : Stmt} {is : List Nat} {s : S} (h : PS X st (TSt G xf Wx C s)) : PS X st (TSt G xf Wx C (.frz is s)) :=
  ps_weak h fun D σ H ⟨m, e, w, r, q⟩ => by
    rw [ex] at q
    have hF : ∀ a, m.F a → m.F a ∨ ∃ i d, i ∈ is ∧ e[i]? = some (.own d) ∧ m.oa i = a := fun a h => .inl h
    have get : ∀ i, (frzE e is)[i]? = (e[i]?).map (frzS is i) := fun i => by
      unfold frzE
      rw [List.getElem?_mapIdx]
    have hown : ∀ i d, (frzE e is)[i]? = some (.own d) → e[i]? = some (.own d) ∧ i ∉ is := fun i d h => by
      rw [get] at h
      cases z : e[i]? with
      | none => rw [z] at h; cases h
      | some s =>
        rw [z] at h
        cases s with
        | own d' =>
          simp only [Option.map_some, Option.some.injEq, frzS] at h
          by_cases hc : is.contains i = true
          · rw [if_pos hc] at h; cases h
          · rw [if_neg hc] at h
            cases h
            exact ⟨rfl, by simpa using hc⟩
        | _ => simp [frzS] at h
    refine ⟨{ m with F := fun a => m.F a ∨ ∃ i d, i ∈ is ∧ e[i]? = some (.own d) ∧ m.oa i = a }, frzE e is, w, ⟨⟨fun k d h => ?_, r.inj, fun a h => ?_, r.allP, fun a h => ?_⟩, by unfold frzE; rw [List.length_mapIdx]; exact r.len, fun i s h => ?_, fun i j d d' h1 h2 => r.oinj i j d d' (hown i d h1).1 (hown j d' h2).1⟩, PostS.shift q ⟨rfl, hF, fun _ _ => rfl, fun _ _ => rfl, Nat.le_refl _, fun _ _ => rfl, rfl⟩⟩
    · obtain ⟨h1, h2, h3⟩ := r.cell k d h
      refine ⟨h1.mono hF (fun _ _ => rfl) (Nat.le_refl _) (fun _ _ => rfl) rfl, fun z => ?_, h3⟩
      rcases z with z | ⟨i, d', _, z1, z2⟩
      · exact h2 z
      · exact (r.sl i _ z1).2.2.2.2 k (List.getElem?_eq_some_iff.mp h).1 z2
    · rcases h with h | ⟨i, d, _, z1, z2⟩
      · exact r.allF a h
      · rw [← z2]; exact (r.sl i _ z1).2.1.there
    · intro z
      rcases z with z | ⟨i, d, _, z1, z2⟩
      · exact r.FP a h z
      · exact (r.sl i _ z1).2.2.2.1 (by rw [z2]; exact h)
    · rw [get] at h
      cases z : e[i]? with
      | none => rw [z] at h; cases h
      | some s0 =>
        rw [z] at h
        have q0 := r.sl i s0 z
        cases s0 with
        | un => cases h; trivial
        | exc c x => cases h; exact q0
        | val d =>
          cases h
          obtain ⟨v, h1, h2⟩ := q0
          exact ⟨v, h1, h2.mono hF (fun _ _ => rfl) (Nat.le_refl _) fun _ _ => rfl⟩
        | own d =>
          obtain ⟨h1, h2, h3, h4, h5⟩ := q0
          have o2 : Own G (fun a => m.F a ∨ ∃ i d, i ∈ is ∧ e[i]? = some (.own d) ∧ m.oa i = a) m.rho w.length H (m.oa i) d := h2.mono hF (fun _ _ => rfl) (Nat.le_refl _) (fun _ _ => rfl) rfl
          simp only [Option.map_some, Option.some.injEq, frzS] at h
          by_cases hc : is.contains i = true
          · rw [if_pos hc] at h
            cases h
            exact ⟨_, h1, o2.frz (.inr ⟨i, d, by simpa using hc, z, rfl⟩)⟩
          · rw [if_neg hc] at h
            cases h
            refine ⟨h1, o2, fun y => ?_, h4, h5⟩
            rcases y with y | ⟨j, d', hj, y1, y2⟩
            · exact h3 y
            · have := r.oinj j i _ _ y1 z y2
              subst this
              exact absurd hj (by simpa using hc)
end
end Ev

set_option maxRecDepth 100000
set_option maxHeartbeats 4000000
/-! Fresh containers. -/
namespace Ev
open PySem PySem.Spec PyProof.Rows L2

section
variable {G : GG} {xf : Nat → Option Str} {Wx : L2.WX} {m m' m1 : Fm} {w w' w1 : Wd} {H H' H1 : Hp} {e e' : Env} {σ σ' : L2.St} {C : Cfg} {X : Cx} {pos : Pos} {Dn : Ends}
theorem PostE.newF {Q : VK} {d : D} {p : Addr} {o : HO} (h : PostE G xf Wx m w H e σ (RO G e) Q ((pure d : M D) w)) (r : Rel G m e w σ H) (hp : H p = none) (y : Ext m w H m w (upd H p o) → Own G m.F m.rho w.length (upd H p o) p d) (hc : contD d = true := by rfl) : Q (.ref p) (upd H p o) := by
  obtain ⟨x, r'⟩ := r.lay hp o
  obtain ⟨f1, f2, f3⟩ := r.toRelW.free hp
  refine h _ _ _ x r' ?_
  unfold RO
  rw [if_pos hc]
  exact ⟨p, rfl, y x, f1, f2, f3, fun i d hi => r.oaNe hp hi⟩
theorem f_lst {es : List Expr} {xs : Xs} (h : PA X es (TS' G xf Wx C xs)) : PE X (.List es pos) (TF G xf Wx C (.lst xs)) :=
  pe_weak (pe_lst h) fun σ H Q ⟨m, e, w, r, q⟩ => by
    rw [ev] at q
    refine ⟨m, e, w, r, q.step fun ds w1 vs m1 H1 x1 r1 y1 q1 => ?_⟩
    obtain ⟨hl, q1⟩ := q1.grd
    have hl' : vs.length ≤ SZ := by rw [RA.length y1]; exact hl
    exact ⟨by rw [← SZ_eq]; exact hl', fun p hp => q1.newF r1 hp fun x2 => ⟨vs, upd_same, hl', RA.ext x2 y1⟩⟩
theorem f_dict0 : PE X (.Dict [] [] pos) (TF G xf Wx C .dict0) :=
  pe_weak pe_dnewK fun σ H Q ⟨m, e, w, r, q⟩ => fun p hp => by
    rw [ev] at q
    exact q.newF r hp fun x2 => ⟨[], upd_same, Nat.zero_le _, .nil⟩
theorem f_list {ea : Expr} {a : Ev.X} {p : Pos} (hK : X.K = G.K) (hg : Gl X "list") (hm : X.mg "list" = none) (ha : PE X ea (TB G xf Wx C a)) (hs : starEach [ea] X.env = (false, eval ea X.env) :: starEach [] X.env) : PE X (.Call (.Name "list" p) [ea] [] pos) (TF G xf Wx C (.b1 .list a)) := by
  have rule := b1_rule (X := X) (b := .list) rfl (.inl rfl)
  have pa : PA X [ea] (tCons (TB G xf Wx C a) tNil) := pa_cons ha pa_nil hs
  refine pe_weak (pe_callTy rule hg hm (by decide +kernel) pa (hn := by decide) (hdb := by decide) (he := hs)) fun σ H Q ⟨m, e, w, r, q⟩ => ?_
  rw [ev] at q
  refine ⟨m, e, w, r, q.step fun d w1 u m1 H1 x1 r1 y1 q1 => ?_⟩
  obtain ⟨c, vw, q2, -⟩ := der_post r1 y1 q1
  cases c <;> simp only [b1op] at q2 <;> first | exact PostE.stk_elim (by exact q2) | skip
  · obtain ⟨p, vs, rfl, t1, l1, z1⟩ := vw.tup
    exact ⟨p, vs, rfl, .inr (by rw [hK]; exact t1.sq), fun p' hp => PostE.newF q2 r1 hp fun x2 => ⟨vs, upd_same, l1, z1.ext x2⟩⟩
  · obtain ⟨p, vs, rfl, t1, l1, z1⟩ := vw.lst
    exact ⟨p, vs, rfl, .inl (.of t1), fun p' hp => PostE.newF q2 r1 hp fun x2 => ⟨vs, upd_same, l1, z1.ext x2⟩⟩
  · obtain ⟨p, rfl, t1, l1⟩ := vw.scr
    exact ⟨p, _, rfl, .inl (by rw [hK]; exact t1), fun p' hp => PostE.newF q2 r1 hp fun x2 => ⟨_, upd_same, by rw [List.length_map]; exact l1, RF_int _⟩⟩
theorem twoF {a b : Ev.X} {ta tb : TE} {k : D → D → M D} {Q : VK} {r2 : R2} (r : Rel G m e w σ H) (q : PostE G xf Wx m w H e σ (RO G e) Q ((ev C a e >>= fun d => ev C b e >>= fun d' => k d d') w))
    (h : ∀ d d' u v m2 w2 H2, Rel G m2 e w2 σ H2 → RX G e σ a m2 w2 H2 u d → RX G e σ b m2 w2 H2 v d' → PostE G xf Wx m2 w2 H2 e σ (RO G e) Q (k d d' w2) → r2 u v H2 Q) :
    TB G xf Wx C a σ H fun u H1 => TB G xf Wx C b σ H1 fun v H2 => r2 u v H2 Q :=
  ⟨m, e, w, r, q.step fun d w1 u m1 H1 x1 r1 y1 q1 => ⟨m1, e, w1, r1, q1.step fun d' w2 v m2 H2 x2 r2 y2 q2 => h d d' u v m2 w2 H2 r2 (y1.mono x2) y2 q2⟩⟩
theorem PostE.ro {Q : VK} {d : D} {v : V} (h : PostE G xf Wx m w H e σ (RO G e) Q ((pure d : M D) w)) (r : Rel G m e w σ H) (hc : contD d = false) (y : R G m.F m.rho w.length H v d) : Q v H := by
  refine h v m H (.refl _ _ _) r ?_
  unfold RO
  rw [if_neg (by rw [hc]; exact Bool.false_ne_true)]
  exact y
theorem f_add {ea eb : Expr} {a b : Ev.X} (hK : X.K = G.K) (ha : PE X ea (TB G xf Wx C a)) (hb : PE X eb (TB G xf Wx C b)) : PE X (.BinOp ea .Add eb pos) (TF G xf Wx C (.bin .add a b)) :=
  pe_weak (pe_op op_addA ha hb) fun σ H Q ⟨m, e, w, r, q⟩ => by
    rw [ev] at q
    refine twoF (r2 := rAdd X.K) (ta := fun _ _ _ => True) (tb := fun _ _ _ => True) r q fun d d' u v m2 w2 H2 r2 y1 y2 q2 => ?_
    cases d <;> cases d' <;> simp only [binop] at q2 <;> first | exact q2.stk_elim | skip
    · rw [y1.int r2, y2.int r2]
      exact .inl ⟨_, _, rfl, rfl, q2.ro r2 rfl (.int _)⟩
    · obtain ⟨hl, q2⟩ := q2.grd
      rw [y1.str r2, y2.str r2]
      exact .inr (.inl ⟨_, _, rfl, rfl, by rw [← SZ_eq]; exact hl, q2.ro r2 rfl (.str _)⟩)
    · obtain ⟨hl, q2⟩ := q2.grd
      obtain ⟨a1, vs, rfl, t1, l1, z1⟩ := y1.tup r2
      obtain ⟨a2, us, rfl, t2, l2, z2⟩ := y2.tup r2
      have e1 := z1.length
      have e2 := z2.length
      refine .inr (.inr (.inl ⟨a1, a2, vs, us, rfl, rfl, by rw [hK]; exact t1.sq, by rw [hK]; exact t2.sq, by rw [e1, e2, ← SZ_eq]; exact hl, fun z => ?_, fun _ z => ?_, fun _ _ p hp => ?_⟩))
      · subst z
        cases z1
        exact q2.ro r2 rfl (.tup t2 l2 z2)
      · subst z
        cases z2
        refine q2.ro r2 rfl ?_
        rw [List.append_nil]
        exact .tup t1 l1 z1
      · obtain ⟨x, r'⟩ := r2.new hp (.tup (vs ++ us))
        refine q2 _ _ _ x r' ?_
        unfold RO
        rw [if_neg (by simp [contD])]
        exact .tup (.inl ⟨.inl rfl, upd_same⟩) (by rw [List.length_append, e1, e2]; exact hl) (RA.ext x (z1.append z2))
    · obtain ⟨hl, q2⟩ := q2.grd
      obtain ⟨a1, vs, rfl, t1, l1, z1⟩ := y1.lst r2
      obtain ⟨a2, us, rfl, t2, l2, z2⟩ := y2.lst r2
      have e1 := z1.length
      have e2 := z2.length
      refine .inr (.inr (.inr ⟨a1, a2, vs, us, rfl, rfl, t1, t2, by rw [e1, e2, ← SZ_eq]; exact hl, fun p hp => ?_⟩))
      exact q2.newF r2 hp fun x2 => ⟨_, upd_same, by rw [List.length_append, e1, e2]; exact hl, RA.ext x2 (z1.append z2)⟩
theorem f_mul {ea eb : Expr} {a b : Ev.X} (hK : X.K = G.K) (ha : PE X ea (TB G xf Wx C a)) (hb : PE X eb (TB G xf Wx C b)) : PE X (.BinOp ea .Mult eb pos) (TF G xf Wx C (.bin .mul a b)) :=
  pe_weak (pe_op op_mulA ha hb) fun σ H Q ⟨m, e, w, r, q⟩ => by
    rw [ev] at q
    refine twoF (r2 := rMul X.K) (ta := fun _ _ _ => True) (tb := fun _ _ _ => True) r q fun d d' u v m2 w2 H2 r2 y1 y2 q2 => ?_
    cases d <;> cases d' <;> simp only [binop] at q2 <;> first | exact q2.stk_elim | skip
    · obtain ⟨hl, q2⟩ := q2.grd
      rw [y1.int r2, y2.int r2]
      exact .inl ⟨_, _, rfl, rfl, hl, q2.ro r2 rfl (.int _)⟩
    · rename_i xs k
      obtain ⟨⟨h0, h1, h2, h3⟩, q2⟩ := q2.grd
      obtain ⟨a1, vs, rfl, t1, l1, z1⟩ := y1.tup r2
      rw [y2.int r2]
      have e1 := z1.length
      have hne : vs ≠ [] := fun z => h0 (by subst z; cases z1; rfl)
      by_cases hk : k = 1
      · subst hk
        refine .inr (.inl ⟨a1, vs, rfl, rfl, by rw [hK]; exact t1.sq, hne, q2.ro r2 rfl ?_⟩)
        rw [show (List.replicate (1 : Int).toNat xs).flatten = xs by simp [List.replicate]]
        exact .tup t1 l1 z1
      · refine .inr (.inr (.inl ⟨a1, k, vs, rfl, rfl, by rw [hK]; exact t1.sq, hne, by omega, h2, by rw [e1]; exact h3, fun p hp => ?_⟩))
        obtain ⟨x, r'⟩ := r2.new hp (.tup (List.replicate k.toNat vs).flatten)
        refine q2 _ _ _ x r' ?_
        unfold RO
        rw [if_neg (by simp [contD])]
        refine .tup (.inl ⟨.inl rfl, upd_same⟩) ?_ (RA.ext x (z1.flat _))
        rw [flat_len, e1]
        have : k.toNat ≤ 1000 := by omega
        calc k.toNat * xs.length ≤ 1000 * 1000 := Nat.mul_le_mul this h3
          _ ≤ SZ := by decide
    · rename_i xs k
      obtain ⟨⟨h0, h1, h2⟩, q2⟩ := q2.grd
      obtain ⟨a1, vs, rfl, t1, l1, z1⟩ := y1.lst r2
      rw [y2.int r2]
      have e1 := z1.length
      refine .inr (.inr (.inr ⟨a1, k, vs, rfl, rfl, t1, h0, h1, by rw [e1, ← SZ_eq]; exact h2, fun p hp => ?_⟩))
      refine q2.newF r2 hp fun x2 => ⟨_, upd_same, ?_, RA.ext x2 (z1.flat _)⟩
      rw [flat_len, e1, Nat.mul_comm]
      exact h2
theorem lc_finF {Dl : Addr} : ∀ mm w H acc ys, mm.P = m1.P → Rel G mm e w σ H → H Dl = some (.lst acc) → acc.length ≤ SZ → RA G mm.F mm.rho w.length H acc ys → ¬ mm.F Dl → ¬ mm.P Dl → (∀ k, k < w.length → mm.rho k ≠ Dl) → (∀ i d, e[i]? = some (.own d) → mm.oa i ≠ Dl) → ∃ m', Ext mm w H m' w H ∧ Rel G m' e w σ H ∧ RO G e m' w H (.ref Dl) (.lst ys) :=
  fun mm w H acc ys _ r h1 h2 h3 h4 h5 h6 h7 => ⟨mm, .refl _ _ _, r, by
    unfold RO
    rw [if_pos (show contD (.lst ys) = true from rfl)]
    exact ⟨Dl, rfl, ⟨acc, h1, h2, h3⟩, h4, h5, h6, h7⟩⟩
theorem lc_weakF {x : Ev.X} {g : Tg} {it : Ev.It} {c : Xo} {vs : List Nat} (hh : C.hot = false) (hsl : ∀ i ∈ tgSl g, i ∈ vs) {σ : L2.St} {H : Hp} {Q : VK} (h : TF G xf Wx C (.lc x g it c vs) σ H Q) :
    tLc (TI' G xf Wx C it) (TGt G g) (TTc G xf C c) (TN G xf (fun _ _ _ _ => False) C x) vs σ H Q := by
  obtain ⟨m, e, w, r, q⟩ := h
  rw [ev] at q
  obtain ⟨_, q⟩ := calm_post q
  refine ⟨m, e, w, r, q.step fun ds w1 J m1 H1 x1 r1 wk q1 => fun Dl hD => ?_⟩
  by_cases hk : (wipeOk e vs && decide (ds.length ≤ SZ)) = true
  · rw [if_pos hk] at q1
    rw [Bool.and_eq_true, decide_eq_true_eq] at hk
    exact lc_post hsl r1 wk hD hk.1 hk.2 lc_finF q1
  · rw [if_neg hk] at q1; exact PostE.stk_elim (by exact q1)

/-! ### list(range(n)) -/
theorem RA_rng {F : Pr} {rho : Nat → Addr} {k : Nat} (n : Int) : RA G F rho k H (rgV 0 n) (rngD 0 n.toNat) := by
  unfold rgV rngD
  rw [Int.sub_zero]
  induction (List.range n.toNat) with
  | nil => exact .nil
  | cons a l ih => exact .cons (.int _) ih
theorem lrng_ok {n : Int} (h : rngOk n ∧ n.toNat ≤ SZ) : RgOk 0 n ∧ (rgV 0 n).length ≤ SZ := by
  have e : (SZ : Nat) = 2 ^ 24 := by decide
  refine ⟨⟨by omega, by omega, h.1.1, h.1.2, ?_⟩, ?_⟩
  · have := h.2; rw [e] at this; rw [Int.sub_zero]; exact this
  · rw [rgV_length, Int.sub_zero]; exact h.2
theorem c_lrng {ea : Expr} {a : Ev.X} {p p2 q2 : Pos} (hc : C.hot = false → X.calm = true) (hg : Gl X "list") (hm : X.mg "list" = none) (hg2 : Gl X "range") (hm2 : X.mg "range" = none) (ha : PE X ea (TB G xf Wx C a)) (hs : starEach [ea] X.env = (false, eval ea X.env) :: starEach [] X.env) :
    PE X (.Call (.Name "list" p) [.Call (.Name "range" p2) [ea] [] q2] [] pos) (TB G xf Wx C (.lrng a)) := by
  by_cases hh : C.hot = true
  · refine ⟨fun pins s σ H Q I ⟨m, e, w, r, q⟩ => ?_⟩
    rw [ev] at q
    have := (calm_post q).1
    rw [hh] at this; cases this
  · refine pe_weak (pe_listRg (hc (by simpa using hh)) hg hm (prg_1 hg2 hm2 ha hs) rfl) fun σ H Q ⟨m, e, w, r, q⟩ => ?_
    rw [ev] at q
    obtain ⟨_, q⟩ := calm_post q
    refine ⟨m, e, w, r, q.step fun d w1 u m1 H1 x1 r1 y1 q1 => ?_⟩
    cases d <;> first | exact PostE.stk_elim (by exact q1) | skip
    rename_i n
    by_cases hn : rngOk n ∧ n.toNat ≤ SZ
    · simp only [lrngOf, if_pos hn] at q1
      obtain ⟨k1, k2⟩ := lrng_ok hn
      refine ⟨n, y1.int r1, k1, fun p' hp => PostE.newX (d := .lst _) rfl (by exact q1) r1 hp fun r4 => ?_⟩
      exact .lst (.inl rfl) upd_same k2 (RA_rng n)
    · simp only [lrngOf, if_neg hn] at q1
      exact PostE.stk_elim (by exact q1)
theorem f_lrng {ea : Expr} {a : Ev.X} {p p2 q2 : Pos} (hc : C.hot = false → X.calm = true) (hg : Gl X "list") (hm : X.mg "list" = none) (hg2 : Gl X "range") (hm2 : X.mg "range" = none) (ha : PE X ea (TB G xf Wx C a)) (hs : starEach [ea] X.env = (false, eval ea X.env) :: starEach [] X.env) :
    PE X (.Call (.Name "list" p) [.Call (.Name "range" p2) [ea] [] q2] [] pos) (TF G xf Wx C (.lrng a)) := by
  by_cases hh : C.hot = true
  · refine ⟨fun pins s σ H Q I ⟨m, e, w, r, q⟩ => ?_⟩
    rw [ev] at q
    have := (calm_post q).1
    rw [hh] at this; cases this
  · refine pe_weak (pe_listRg (hc (by simpa using hh)) hg hm (prg_1 hg2 hm2 ha hs) rfl) fun σ H Q ⟨m, e, w, r, q⟩ => ?_
    rw [ev] at q
    obtain ⟨_, q⟩ := calm_post q
    refine ⟨m, e, w, r, q.step fun d w1 u m1 H1 x1 r1 y1 q1 => ?_⟩
    cases d <;> first | exact PostE.stk_elim (by exact q1) | skip
    rename_i n
    by_cases hn : rngOk n ∧ n.toNat ≤ SZ
    · simp only [lrngOf, if_pos hn] at q1
      obtain ⟨k1, k2⟩ := lrng_ok hn
      exact ⟨n, y1.int r1, k1, fun p' hp => PostE.newF (d := .lst _) (by exact q1) r1 hp fun x2 => ⟨_, upd_same, k2, RA_rng n⟩⟩
    · simp only [lrngOf, if_neg hn] at q1
      exact PostE.stk_elim (by exact q1)

/-! ### a new cell is handed out -/
theorem s_retc {ea : Expr} {x : Ev.X} (h : PE X ea (TF G xf Wx C x)) : PS X (.Return (some ea) pos) (TSt G xf Wx C (.retc x)) :=
  ps_weak (ps_ret h) fun D σ H ⟨m, e, w, r, q⟩ => by
    rw [ex] at q
    refine ⟨m, e, w, r, q.step fun d w1 v m1 H1 x1 r1 y1 q1 => ?_⟩
    by_cases hc : contD d = true
    case neg => rw [if_neg hc] at q1; exact PostS.cstk (e := e) (by exact q1)
    rw [if_pos hc] at q1
    unfold RO at y1
    rw [if_pos hc] at y1
    obtain ⟨p, rfl, o1, o2, o3, o4, o5⟩ := y1
    have q2 : PostS G xf Wx m1 w1 H1 D (.ok (.rt (.cel w1.length)) (w1 ++ [d])) := q1
    let m2 : Fm := { m1 with rho := fun k => if k = w1.length then p else m1.rho k }
    have hr : ∀ k, k < w1.length → m2.rho k = m1.rho k := fun k hk => if_neg (Nat.ne_of_lt hk)
    have hp : m2.rho w1.length = p := if_pos rfl
    have hl : (w1 ++ [d]).length = w1.length + 1 := by simp
    refine q2 m2 (.ref p) H1 ⟨rfl, fun _ h => h, fun _ _ => rfl, fun _ _ => rfl, by simp, hr, rfl⟩ ⟨fun k c hk => ?_, fun j k hj hk z => ?_, r1.allF, r1.allP, r1.FP⟩ ?_
    · rw [hl]
      by_cases h : k < w1.length
      · rw [List.getElem?_append_left h] at hk
        obtain ⟨h1, h2, h3⟩ := r1.cell k c hk
        rw [hr k h]
        exact ⟨h1.mono (fun _ h => h) (fun _ _ => rfl) (Nat.le_succ _) hr rfl, h2, h3⟩
      · have hk2 : k = w1.length := by
          have := (List.getElem?_eq_some_iff.mp hk).1
          omega
        subst hk2
        rw [List.getElem?_append_right (Nat.le_refl _)] at hk
        simp at hk
        subst hk
        rw [hp]
        exact ⟨o1.mono (fun _ h => h) (fun _ _ => rfl) (Nat.le_succ _) hr rfl, o2, o3⟩
    · rw [hl] at hj hk
      by_cases h1 : j < w1.length
      · by_cases h2 : k < w1.length
        · rw [hr j h1, hr k h2] at z
          exact r1.inj j k h1 h2 z
        · have : k = w1.length := by omega
          subst this
          rw [hr j h1, hp] at z
          exact absurd z (o4 j h1)
      · have : j = w1.length := by omega
        subst this
        by_cases h2 : k < w1.length
        · rw [hr k h2, hp] at z
          exact absurd z.symm (o4 k h2)
        · omega
    · rw [← hp]
      exact .cel (by simp)

/-! ### several targets -/
theorem s_setG {tg ea : Expr} {g : Tg} {x : Ev.X} (hc : C.hot = false → PG X tg (TGt G g)) (h : PE X ea (TB G xf Wx C x)) (hs : swapsWithSole [tg] ea pos.line X.env = pure false) (hw : swappedStores [tg] ea X.env = pure none) (h1 : (assignEach [tg] X.env).map (·.2) = [assign tg X.env]) :
    PS X (.Assign [tg] ea pos) (TSt G xf Wx C (.setG g x)) := by
  by_cases hh : C.hot = true
  · refine ⟨fun pins s σ H D I ⟨m, e, w, r, q⟩ => ?_⟩
    rw [ex] at q
    rw [calm_hot hh] at q
    exact PostS.cstk q
  · have hh : C.hot = false := by simpa using hh
    refine ps_weak (ps_asg (tn_of h) (hc hh) hs hw h1) fun D σ H ⟨m, e, w, r, q⟩ => ?_
    rw [ex] at q
    rw [calm_cold hh] at q
    refine ⟨m, e, w, r, q.step fun d w1 v m1 H1 x1 r1 y1 q1 => ?_⟩
    cases z : bindTg g d e with
    | none => rw [z] at q1; exact PostS.cstk (e := e) (by exact q1)
    | some e' =>
      rw [z] at q1
      exact ⟨m1, e, w1, d, e', r1, y1, z, fun σ' r' _ _ => PostS.cnx (by exact q1) r'⟩
end
end Ev

set_option maxRecDepth 100000
set_option maxHeartbeats 4000000
/-! What is never reached; several names at once. -/
namespace Ev
open PySem PySem.Spec PyProof.Rows L2

section
variable {G : GG} {xf : Nat → Option Str} {Wx : L2.WX} {m m' m1 : Fm} {w w' w1 : Wd} {H H' H1 : Hp} {e e' : Env} {σ σ' : L2.St} {C : Cfg} {X : Cx} {pos : Pos} {Dn : Ends}
theorem c_bad {ea : Expr} : PE X ea (TB G xf Wx C .bad) := ⟨fun pins s σ H Q I ⟨m, e, w, r, q⟩ => by rw [ev] at q; exact q.elim⟩
theorem t_bad {ea : Expr} : PT X ea (TT' G xf Wx C .bad) := ⟨fun pins s σ H Q I ⟨m, e, w, r, q⟩ => by unfold tst at q; rw [ev] at q; exact q.elim⟩
theorem s_bad {st : Stmt} : PS X st (TSt G xf Wx C .bad) := ⟨fun pins s σ H Q I ⟨m, e, w, r, q⟩ => by rw [ex] at q; exact q.elim⟩

/-! ### a, b = x, y -/
theorem unhold0 {p : Addr} (x : Ext (m.hold p) w H m' w' H') (r' : Rel G m' e w' σ H') : Ext m w H { m' with P := m.P } w' H' ∧ Rel G { m' with P := m.P } e w' σ H' ∧ ¬ m'.F p ∧ (∀ k, k < w'.length → m'.rho k ≠ p) ∧ (∀ i d, e[i]? = some (.own d) → m'.oa i ≠ p) ∧ H' p = H p := by
  have hP : ∀ a, m.P a → m'.P a := fun a h => by rw [x.P]; exact .inl h
  have hp : m'.P p := by rw [x.P]; exact .inr rfl
  refine ⟨⟨rfl, x.F, x.aF, fun a h => x.aP a (.inl h), x.wl, x.rho, x.oa0⟩, ⟨⟨fun k d h => ?_, r'.inj, r'.allF, fun a h => r'.allP a (hP a h), fun a h => r'.FP a (hP a h)⟩, r'.len, fun i s h => ?_, r'.oinj⟩, r'.FP p hp, fun k hk z => (r'.cell k _ (List.getElem?_eq_getElem hk)).2.2 (by rw [z]; exact hp), fun i d h z => (r'.sl i _ h).2.2.2.1 (by rw [z]; exact hp), x.aP p (.inr rfl)⟩
  · obtain ⟨h1, h2, h3⟩ := r'.cell k d h
    exact ⟨h1, h2, fun q => h3 (hP _ q)⟩
  · have q := r'.sl i s h
    cases s with
    | un => trivial
    | val d => exact q
    | own d => obtain ⟨h1, h2, h3, h4, h5⟩ := q; exact ⟨h1, h2, h3, fun z => h4 (hP _ z), h5⟩
    | exc c x => exact q
theorem Rel.unhold {p : Addr} (r : Rel G m e w σ H) (x : Ext (m.hold p) w H m' w' H') (r' : Rel G m' e w' σ H') : Ext m w H { m' with P := m.P } w' H' ∧ Rel G { m' with P := m.P } e w' σ H' ∧ ¬ m'.F p ∧ (∀ k, k < w'.length → m'.rho k ≠ p) ∧ (∀ i d, e[i]? = some (.own d) → m'.oa i ≠ p) ∧ H' p = H p := unhold0 x r'
/-- behind a step during which a place is held -/
theorem PostE.stepH {α β α' β' : Type} {Rl : Fm → Wd → Hp → β → α → Prop} {Rl1 : Fm → Wd → Hp → β' → α' → Prop} {Q : β → Hp → Prop} {Q1 : β' → Hp → Prop} {r : M α'} {k : α' → M α} {p : Addr} (h : PostE G xf Wx m w H e σ Rl Q ((r >>= k) w)) (r0 : Rel G m e w σ H)
    (hk : ∀ d w1 v m1 H1, Ext (m.hold p) w H m1 w1 H1 → Rel G m1 e w1 σ H1 → Rl1 m1 w1 H1 v d → PostE G xf Wx { m1 with P := m.P } w1 H1 e σ Rl Q (k d w1) → Q1 v H1) : PostE G xf Wx (m.hold p) w H e σ Rl1 Q1 (r w) := by
  rw [bind_def] at h
  cases q : r w with
  | ok d w' =>
    rw [q] at h
    exact fun v m' H' x r y => hk d w' v m' H' x r y (h.shift (r0.unhold x r).1)
  | exc c x w' =>
    rw [q] at h
    exact fun pn m' H' x rr y => h pn { m' with P := m.P } H' (r0.unhold x rr).1 (r0.unhold x rr).2.1 y
  | stk =>
    rw [q] at h
    exact h
/-- {a: b}: the dict is laid ahead of its pair -/
theorem c_dic1 {ea eb : Expr} {a b : Ev.X} (ha : PE X ea (TB G xf Wx C a)) (hb : PE X eb (TB G xf Wx C b)) : PE X (.Dict [some ea] [eb] pos) (TB G xf Wx C (.dic1 a b)) :=
  pe_weak (pe_disp (pps_cons ha (tn_of hb) pps_nil) rfl rfl (by simp) (by simp)) fun σ H Q ⟨m, e, w, r, q⟩ => fun p hp => by
    rw [ev] at q
    obtain ⟨x0, r0⟩ := r.lay hp (.dK [])
    have nF : ¬ m.F p := fun h => r.allF p h hp
    have nP : ¬ m.P p := fun h => r.allP p h hp
    have nr : ∀ k, k < w.length → m.rho k ≠ p := fun k hk z => by
      have := (r.cell k _ (List.getElem?_eq_getElem hk)).1.there
      rw [z] at this
      exact this hp
    have no : ∀ i d, e[i]? = some (.own d) → m.oa i ≠ p := fun i d h => r.oaNe hp h
    have r1 := r0.hold (p := p) (by rw [upd_same]; simp) nF nr no
    refine ⟨m.hold p, e, w, r1, PostE.stepH (q.shift x0) r0 fun d w1 v m1 H1 x1 rr1 y1 q1 => ?_⟩
    obtain ⟨u1, u2, u3, u4, u5, u6⟩ := Rel.unhold r0 x1 rr1
    have r2 := u2.hold (p := p) (by rw [u6, upd_same]; simp) u3 u4 u5
    refine ⟨_, e, w1, r2, PostE.stepH q1 u2 fun d2 w2 v2 m2 H2 x2 rr2 y2 q2 => ?_⟩
    obtain ⟨t1, t2, t3, t4, t5, t6⟩ := Rel.unhold u2 x2 rr2
    refine ⟨t6.trans (u6.trans upd_same), ?_⟩
    by_cases hk : isKey d = true
    · rw [if_pos hk] at q2
      have y1' : RX G e σ a { m1 with P := m.P } w1 H1 v d := y1
      obtain ⟨kk, rfl, rfl⟩ := key_v ((y1'.mono t1).view t2) hk
      refine ⟨[(kk, v2)], rfl, by simp, ?_⟩
      have r3 := (t2.hold (p := p) (by rw [t6, u6, upd_same]; simp) t3 t4 t5).at (p := p) (.inr rfl) (.dK [(kk, v2)])
      obtain ⟨_, r4, _⟩ := unhold0 (p := p) (m := { m2 with P := m.P }) (H := upd H2 p (.dK [(kk, v2)])) (w := w2) (Ext.refl _ _ _) r3
      have x4 : Ext { m2 with P := m.P } w2 H2 { m2 with P := m.P } w2 (upd H2 p (.dK [(kk, v2)])) := ⟨rfl, fun _ h => h, fun a h => upd_ne fun z => t3 (z ▸ h), fun a h => upd_ne fun z => nP (z ▸ h), Nat.le_refl _, fun _ _ => rfl, rfl⟩
      obtain ⟨x5, r5⟩ := r4.hand (x := p) (by rw [upd_same]; simp) nP t4 t5
      refine q2 _ _ _ (x4.trans x5) r5 ((RX.of rfl).mpr (.dic (.inl rfl) upd_same (Nat.le_trans (show ([(kk, v2)] : List (Key × V)).length ≤ 1 from Nat.le_refl _) (by decide)) (.cons ?_ .nil)))
      exact R.mono (fun a h => x5.F a h) (fun a h => (x4.aF a h)) (Nat.le_refl _) (fun _ _ => rfl) y2
    · rw [if_neg hk] at q2
      exact PostE.stk_elim (by exact q2)
structure Fresh (G : GG) (e : Env) (m : Fm) (w : Wd) (H : Hp) (p : Addr) (d : D) : Prop where
  own : Own G m.F m.rho w.length H p d
  nF : ¬ m.F p
  nP : ¬ m.P p
  nr : ∀ k, k < w.length → m.rho k ≠ p
  no : ∀ i d, e[i]? = some (.own d) → m.oa i ≠ p
inductive RM (G : GG) (e : Env) (m : Fm) (w : Wd) (H : Hp) : List Bool → List V → List D → List Addr → Prop
  | nil : RM G e m w H [] [] [] []
  | val {v : V} {d : D} {fs : List Bool} {vs : List V} {ds : List D} {ps : List Addr} : R G m.F m.rho w.length H v d → RM G e m w H fs vs ds ps → RM G e m w H (false :: fs) (v :: vs) (d :: ds) ps
  | own {p : Addr} {d : D} {fs : List Bool} {vs : List V} {ds : List D} {ps : List Addr} : Fresh G e m w H p d → p ∉ ps → RM G e m w H fs vs ds ps → RM G e m w H (true :: fs) (.ref p :: vs) (d :: ds) (p :: ps)
  | bad {v : V} {d : D} {fs : List Bool} {vs : List V} {ds : List D} {ps : List Addr} : contD d = false → RM G e m w H fs vs ds ps → RM G e m w H (true :: fs) (v :: vs) (d :: ds) ps
variable (G xf Wx) in
def TM (C : Cfg) (fs : List Bool) (x : Xs) : TA := fun σ H Q => ∃ m e w, Rel G m e w σ H ∧ PostE G xf Wx m w H e σ (fun m w H vs ds => ∃ ps, (∀ p ∈ ps, ∃ d, Fresh G e m w H p d) ∧ RM G e m w H fs vs ds ps) Q (evs C x e w)
theorem m_nil : PA X [] (TM G xf Wx C [] .nil) := pa_weak pa_nil fun σ H Q ⟨m, e, w, r, q⟩ => by
  rw [evs] at q
  exact PostE.val (d := []) q r (show ∃ ps, (∀ p ∈ ps, ∃ d, Fresh G e m w H p d) ∧ RM G e m w H [] [] [] ps from ⟨[], ⟨fun p h => absurd h (by simp), RM.nil⟩⟩)
theorem Fresh.un {p : Addr} {d : D} {P : Pr} (h : Fresh G e m w H p d) (hP : ∀ a, P a → m.P a) : Fresh G e { m with P := P } w H p d := ⟨h.own, h.nF, fun z => h.nP (hP _ z), h.nr, h.no⟩
theorem RM.un {P : Pr} (hP : ∀ a, P a → m.P a) {fs : List Bool} {vs : List V} {ds : List D} {ps : List Addr} (h : RM G e m w H fs vs ds ps) : RM G e { m with P := P } w H fs vs ds ps := by
  induction h with
  | nil => exact .nil
  | val a _ ih => exact .val a ih
  | own a b _ ih => exact .own (a.un hP) b ih
  | bad a _ ih => exact .bad a ih
theorem m_val {a : Expr} {as : List Expr} {x : Ev.X} {xs : Xs} {fs : List Bool} (ha : PE X a (TB G xf Wx C x)) (hs : PA X as (TM G xf Wx C fs xs)) (hst : starEach (a :: as) X.env = (false, eval a X.env) :: starEach as X.env) : PA X (a :: as) (TM G xf Wx C (false :: fs) (.cons x xs)) :=
  pa_weak (pa_cons (tn_of ha) hs hst) fun σ H Q ⟨m, e, w, r, q⟩ => by
    rw [evs] at q
    refine ⟨m, e, w, r, q.step fun d w1 v m1 H1 x1 r1 y1 q1 => ⟨m1, e, w1, r1, q1.step fun ds w2 vs m2 H2 x2 r2 y2 q2 => ?_⟩⟩
    obtain ⟨ps, y2, y3⟩ := y2
    exact PostE.val (d := d :: ds) q2 r2 (show ∃ ps, (∀ p ∈ ps, ∃ d, Fresh G e m2 w2 H2 p d) ∧ RM G e m2 w2 H2 _ _ _ ps from ⟨ps, y2, .val (R.ext x2 y1) y3⟩)
theorem m_own {a : Expr} {as : List Expr} {x : Ev.X} {xs : Xs} {fs : List Bool} (ha : PE X a (TF G xf Wx C x)) (hs : PA X as (TM G xf Wx C fs xs)) (hst : starEach (a :: as) X.env = (false, eval a X.env) :: starEach as X.env) : PA X (a :: as) (TM G xf Wx C (true :: fs) (.cons x xs)) :=
  pa_weak (pa_cons ha hs hst) fun σ H Q ⟨m, e, w, r, q⟩ => by
    rw [evs] at q
    have q' : PostE G xf Wx m w H e σ (fun m w H vs ds => ∃ ps, (∀ p ∈ ps, ∃ d, Fresh G e m w H p d) ∧ RM G e m w H (true :: fs) vs ds ps) Q ((ev C x e >>= fun d => evs C xs e >>= fun ds => pure (d :: ds)) w) := by
      unfold nb at q
      by_cases ho : ownV e x = true
      · rw [if_pos ho] at q; exact PostE.stk_elim (by exact q)
      · rw [if_neg ho] at q; exact q
    refine ⟨m, e, w, r, q'.step fun d w1 v m1 H1 x1 r1 y1 q1 => ?_⟩
    by_cases hc : contD d = true
    · unfold RO at y1
      rw [if_pos hc] at y1
      obtain ⟨p, rfl, o1, o2, o3, o4, o5⟩ := y1
      have rh := r1.hold (p := p) o1.there o2 o4 o5
      refine ⟨m1.hold p, e, w1, rh, ?_⟩
      rw [bind_def] at q1
      cases z : evs C xs e w1 with
      | ok ds w2 =>
        rw [z] at q1
        intro vs m2 H2 x2 r2 ⟨ps, y2, y3⟩
        obtain ⟨x3, r3, n1, n2, n3, n4⟩ := r1.unhold x2 r2
        have hP : ∀ a, m1.P a → m2.P a := fun a h => by rw [x2.P]; exact .inl h
        have hp : m2.P p := by rw [x2.P]; exact .inr rfl
        have fr : Fresh G e { m2 with P := m1.P } w2 H2 p d := ⟨o1.mono x2.F x2.aF x2.wl x2.rho n4, n1, o3, n2, n3⟩
        refine q1 (.ref p :: vs) _ H2 x3 r3 ⟨p :: ps, fun p' hp' => ?_, .own fr (fun hm => ?_) (y3.un hP)⟩
        · rcases List.mem_cons.mp hp' with rfl | hp'
          · exact ⟨d, fr⟩
          · obtain ⟨d', f⟩ := y2 p' hp'
            exact ⟨d', f.un hP⟩
        · obtain ⟨d', f⟩ := y2 p hm
          exact f.nP hp
      | exc c x w2 =>
        rw [z] at q1
        intro pn m2 H2 x2 r2 y2
        obtain ⟨x3, r3, _⟩ := r1.unhold x2 r2
        exact q1 pn _ H2 x3 r3 y2
      | stk => rw [z] at q1; exact q1
    · refine ⟨m1, e, w1, r1, q1.step fun ds w2 vs m2 H2 x2 r2 y2 q2 => ?_⟩
      obtain ⟨ps, y2, y3⟩ := y2
      exact PostE.val (d := d :: ds) q2 r2 (show ∃ ps, (∀ p ∈ ps, ∃ d, Fresh G e m2 w2 H2 p d) ∧ RM G e m2 w2 H2 _ _ _ ps from ⟨ps, y2, .bad (by simpa using hc) y3⟩)
def setsσ : List (Nat × Bool) → List V → L2.St → L2.St
  | (i, _) :: ts, v :: vs, σ => setsσ ts vs (σ.set i (some v))
  | _, _, σ => σ
theorem par_rel : ∀ (ts : List (Nat × Bool)) (ds : List D) (vs : List V) (ps : List Addr) (m : Fm) (e : Env) (σ : L2.St) (e' : Env), Rel G m e w σ H → RM G e m w H (ts.map (·.2)) vs ds ps → parE ts ds e = some e' → ∃ m', Ext m w H m' w H ∧ Rel G m' e' w (setsσ ts vs σ) H
  | [], ds, vs, ps, m, e, σ, e', r, h, q => by
    cases h
    simp only [parE, Option.some.injEq] at q
    subst q
    exact ⟨m, .refl _ _ _, r⟩
  | (i, o) :: ts, ds, vs, ps, m, e, σ, e', r, h, q => by
    cases o with
    | false =>
      cases h with
      | @val v d _ vs ds _ a b =>
        simp only [parE] at q
        by_cases hi : i < e.length ∧ (false = true → contD d = true ∧ i ≠ 0)
        · rw [if_pos hi] at q
          simp only [Bool.false_eq_true, if_false] at q
          have hb : RM G (e.set i (.val d)) m w H (ts.map (·.2)) vs ds ps := by
            clear q
            generalize hfs : ts.map (·.2) = fs at b
            clear hfs
            induction b with
            | nil => exact .nil
            | val a _ ih => exact .val a ih
            | own a c _ ih =>
              refine .own ⟨a.own, a.nF, a.nP, a.nr, fun j d' hj => ?_⟩ c ih
              by_cases hij : i = j
              · subst hij
                rw [List.getElem?_set_self hi.1] at hj
                cases hj
              · rw [List.getElem?_set_ne hij] at hj
                exact a.no j d' hj
            | bad a _ ih => exact .bad a ih
          exact par_rel ts ds vs ps m _ _ e' (r.setVal hi.1 a) hb q
        · rw [if_neg hi] at q; cases q
    | true =>
      cases h with
      | @own p d _ vs ds ps a c b =>
        unfold parE at q
        by_cases hi : i < e.length ∧ (true = true → contD d = true ∧ i ≠ 0)
        · rw [if_pos hi] at q
          rw [if_pos rfl] at q
          obtain ⟨x2, r2⟩ := r.setOwn (hi.2 rfl).2 hi.1 a.own a.nF a.nP a.nr a.no
          have hb : RM G (e.set i (.own d)) (m.seto i p) w H (ts.map (·.2)) vs ds ps := by
            clear q
            generalize hfs : ts.map (·.2) = fs at b
            clear hfs
            induction b with
            | nil => exact .nil
            | val a _ ih => exact .val a (ih c)
            | @own p' d' _ _ _ _ a' c' _ ih =>
              simp only [List.mem_cons, not_or] at c
              refine .own ⟨a'.own, a'.nF, a'.nP, a'.nr, fun j d2 hj => ?_⟩ c' (ih c.2)
              by_cases hij : i = j
              · subst hij
                have e1 : (m.seto i p).oa i = p := if_pos rfl
                rw [e1]
                exact c.1
              · rw [List.getElem?_set_ne hij] at hj
                have e1 : (m.seto i p).oa j = m.oa j := if_neg fun z => hij z.symm
                rw [e1]
                exact a'.no j d2 hj
            | bad a' _ ih => exact .bad a' (ih c)
          obtain ⟨m', x3, r3⟩ := par_rel ts ds vs ps (m.seto i p) _ _ e' r2 hb q
          exact ⟨m', x2.trans x3, r3⟩
        · rw [if_neg hi] at q; cases q
      | @bad v d _ vs ds _ a b =>
        unfold parE at q
        rw [if_neg (by simp [a])] at q
        cases q
/-- the store of several names at once, by what the elements are -/
theorem par_weak {ts : List (Nat × Bool)} {es : Xs} {σ : L2.St} {H : Hp} {D : Ends} (hh : C.hot = false) (h : TSt G xf Wx C (.par ts es) D σ H) : TM G xf Wx C (ts.map (·.2)) es σ H fun vs H1 => vs.length = ts.length ∧ D.nx (setsσ ts vs σ) H1 := by
  obtain ⟨m, e, w, r, q⟩ := h
  rw [ex] at q
  rw [calm_cold hh] at q
  refine ⟨m, e, w, r, q.step fun ds w1 vs m1 H1 x1 r1 y1 q1 => ?_⟩
  obtain ⟨ps, y2, y3⟩ := y1
  cases z : parE ts ds e with
  | none => rw [z] at q1; exact PostS.cstk (e := e) (by exact q1)
  | some e' =>
    rw [z] at q1
    obtain ⟨m', x2, r2⟩ := par_rel ts ds vs ps m1 e σ e' r1 y3 z
    refine ⟨?_, (by exact q1 : PostS G xf Wx m1 w1 H1 D (.ok (.nx e') w1)) _ _ _ x2 r2⟩
    clear q1 z r2 x2
    have : ∀ {fs : List Bool} {vs : List V} {ds : List Ev.D} {ps : List Addr}, RM G e m1 w1 H1 fs vs ds ps → vs.length = fs.length := fun h => by
      induction h with
      | nil => rfl
      | val _ _ ih => simp [ih]
      | own _ _ _ ih => simp [ih]
      | bad _ _ ih => simp [ih]
    rw [this y3, List.length_map]
theorem s_par2 {i j : Nat} {oi oj : Bool} {x y : Str} {a b : Expr} {es : Xs} {px py pt : Pos} {kt k2 pt2} (hc : C.hot = false → X.calm = true) (hN : X.N.Nodup) (hi : X.N[i]? = some x) (hj : X.N[j]? = some y) (hij : i ≠ j)
    (hx : X.env.scope.names.lookup x = some .local) (hy : X.env.scope.names.lookup y = some .local) (ha : PA X [a, b] (TM G xf Wx C [oi, oj] es))
    (hw : swappedStores [.Tuple [.Name x px, .Name y py] kt pt] (.Tuple [a, b] k2 pt2) X.env = pure (some [x, y])) : PS X (.Assign [.Tuple [.Name x px, .Name y py] kt pt] (.Tuple [a, b] k2 pt2) pos) (TSt G xf Wx C (.par [(i, oi), (j, oj)] es)) := by
  by_cases hh : C.hot = true
  · refine ⟨fun pins s σ H D I ⟨m, e, w, r, q⟩ => ?_⟩
    rw [ex] at q
    rw [calm_hot hh] at q
    exact PostS.cstk q
  · have hh : C.hot = false := by simpa using hh
    refine ps_weak (ps_par (hc hh) hN hi hj hij hx hy ha hw rfl) fun D σ H h => ?_
    obtain ⟨m, e, w, r, q⟩ := par_weak hh h
    refine ⟨m, e, w, r, ?_⟩
    have im : ∀ vs H1, (vs.length = 2 ∧ D.nx (setsσ [(i, oi), (j, oj)] vs σ) H1) → ∃ v w, vs = [v, w] ∧ D.nx ((σ.set i (some v)).set j (some w)) H1 := fun vs H1 ⟨h1, h2⟩ => by
      match vs, h1 with
      | [v, w], _ => exact ⟨v, w, rfl, h2⟩
    cases z : evs C es e w with
    | ok ds w' => rw [z] at q; exact fun v m' H' x r y => im v H' (q v m' H' x r y)
    | exc c x w' => rw [z] at q; exact q
    | stk => rw [z] at q; exact q
theorem s_par3 {i j l : Nat} {oi oj ol : Bool} {x y z : Str} {a b c : Expr} {es : Xs} {px py pz pt : Pos} {kt k2 pt2} (hc : C.hot = false → X.calm = true) (hN : X.N.Nodup) (hi : X.N[i]? = some x) (hj : X.N[j]? = some y) (hl : X.N[l]? = some z) (hij : i ≠ j) (hil : i ≠ l) (hjl : j ≠ l)
    (hx : X.env.scope.names.lookup x = some .local) (hy : X.env.scope.names.lookup y = some .local) (hz : X.env.scope.names.lookup z = some .local) (ha : PA X [a, b, c] (TM G xf Wx C [oi, oj, ol] es))
    (hw : swappedStores [.Tuple [.Name x px, .Name y py, .Name z pz] kt pt] (.Tuple [a, b, c] k2 pt2) X.env = pure (some [x, y, z])) : PS X (.Assign [.Tuple [.Name x px, .Name y py, .Name z pz] kt pt] (.Tuple [a, b, c] k2 pt2) pos) (TSt G xf Wx C (.par [(i, oi), (j, oj), (l, ol)] es)) := by
  by_cases hh : C.hot = true
  · refine ⟨fun pins s σ H D I ⟨m, e, w, r, q⟩ => ?_⟩
    rw [ex] at q
    rw [calm_hot hh] at q
    exact PostS.cstk q
  · have hh : C.hot = false := by simpa using hh
    refine ps_weak (ps_par3 (hc hh) hN hi hj hl hij hil hjl hx hy hz ha hw rfl) fun D σ H h => ?_
    obtain ⟨m, e, w, r, q⟩ := par_weak hh h
    refine ⟨m, e, w, r, ?_⟩
    have im : ∀ vs H1, (vs.length = 3 ∧ D.nx (setsσ [(i, oi), (j, oj), (l, ol)] vs σ) H1) → ∃ u v w, vs = [u, v, w] ∧ D.nx (((σ.set i (some u)).set j (some v)).set l (some w)) H1 := fun vs H1 ⟨h1, h2⟩ => by
      match vs, h1 with
      | [u, v, w], _ => exact ⟨u, v, w, rfl, h2⟩
    cases z : evs C es e w with
    | ok ds w' => rw [z] at q; exact fun v m' H' x r y => im v H' (q v m' H' x r y)
    | exc c x w' => rw [z] at q; exact q
    | stk => rw [z] at q; exact q
/-! ### a tuple is made, then its names are stored -/
def gNames : List Nat → TGs
  | [] => gNil
  | i :: r => gCons (gName i) (gNames r)
theorem gNames_val : ∀ (ts : List (Nat × Bool)) (vs : List V) (σ : L2.St) (H : Hp) (Q : L2.St → Hp → Prop), vs.length = ts.length → Q (setsσ ts vs σ) H → gNames (ts.map (·.1)) vs σ H Q
  | [], [], σ, H, Q, _, q => ⟨rfl, q⟩
  | [], _ :: _, _, _, _, h, _ => by simp at h
  | _ :: _, [], _, _, _, h, _ => by simp at h
  | t :: ts, v :: vs, σ, H, Q, h, q => ⟨v, vs, rfl, gNames_val ts vs _ H Q (by simpa using h) q⟩
theorem par_weakT {ts : List (Nat × Bool)} {es : Xs} {σ : L2.St} {H : Hp} {D : Ends} (hh : C.hot = false) (h : TSt G xf Wx C (.par ts es) D σ H) : TM G xf Wx C (ts.map (·.2)) es σ H fun vs H1 => vs.length = ts.length ∧ ∀ p, H1 p = none → D.nx (setsσ ts vs σ) (upd H1 p (.tup vs)) := by
  obtain ⟨m, e, w, r, q⟩ := h
  rw [ex] at q
  rw [calm_cold hh] at q
  refine ⟨m, e, w, r, q.step fun ds w1 vs m1 H1 x1 r1 y1 q1 => ?_⟩
  obtain ⟨ps, y2, y3⟩ := y1
  cases z : parE ts ds e with
  | none => rw [z] at q1; exact PostS.cstk (e := e) (by exact q1)
  | some e' =>
    rw [z] at q1
    obtain ⟨m', x2, r2⟩ := par_rel ts ds vs ps m1 e σ e' r1 y3 z
    refine ⟨?_, fun p hp => ?_⟩
    · clear q1 z r2 x2
      have : ∀ {fs : List Bool} {vs : List V} {ds : List Ev.D} {ps : List Addr}, RM G e m1 w1 H1 fs vs ds ps → vs.length = fs.length := fun h => by
        induction h with
        | nil => rfl
        | val _ _ ih => simp [ih]
        | own _ _ _ ih => simp [ih]
        | bad _ _ ih => simp [ih]
      rw [this y3, List.length_map]
    · obtain ⟨xl, rl⟩ := r2.lay hp (.tup vs)
      exact (by exact q1 : PostS G xf Wx m1 w1 H1 D (.ok (.nx e') w1)) _ _ _ (x2.trans xl) rl
theorem s_parT {ts : List (Nat × Bool)} {tes vs : List Expr} {es : Xs} {pt : Pos} {kt k2 pt2} (hc : C.hot = false → X.calm = true) (ht : PGs X tes (gNames (ts.map (·.1)))) (hn : (assignEach tes X.env).length = ts.length) (hst : (assignEach tes X.env).findIdx? (·.1) = none) (hl : ts.length ≤ 10)
    (ha : PA X vs (TM G xf Wx C (ts.map (·.2)) es)) (hw : swappedStores [.Tuple tes kt pt] (.Tuple vs k2 pt2) X.env = pure none) : PS X (.Assign [.Tuple tes kt pt] (.Tuple vs k2 pt2) pos) (TSt G xf Wx C (.par ts es)) := by
  by_cases hh : C.hot = true
  · refine ⟨fun pins s σ H D I ⟨m, e, w, r, q⟩ => ?_⟩
    rw [ex] at q
    rw [calm_hot hh] at q
    exact PostS.cstk q
  · have hh : C.hot = false := by simpa using hh
    refine ps_weak (ps_asg (pe_tup ha) (pg_tup (hc hh) ht hn hst) rfl hw) fun D σ H h => ?_
    obtain ⟨m, e, w, r, q⟩ := par_weakT hh h
    refine ⟨m, e, w, r, ?_⟩
    have im : ∀ us H1, (us.length = ts.length ∧ ∀ p, H1 p = none → D.nx (setsσ ts us σ) (upd H1 p (.tup us))) → us.length ≤ sizeLine ∧ ∀ p, H1 p = none → gTup X.K ts.length (gNames (ts.map (·.1))) (.ref p) σ (upd H1 p (.tup us)) D.nx := fun us H1 ⟨h1, h2⟩ =>
      ⟨by rw [h1]; exact Nat.le_trans hl (by decide), fun p hp => ⟨p, us, rfl, .of upd_same, h1, gNames_val ts us σ _ _ h1 (h2 p hp)⟩⟩
    cases z : evs C es e w with
    | ok ds w' => rw [z] at q; exact fun v m' H' x r y => im v H' (q v m' H' x r y)
    | exc c x w' => rw [z] at q; exact q
    | stk => rw [z] at q; exact q
end
end Ev

set_option maxRecDepth 100000
set_option maxHeartbeats 4000000
/-! Which Python a term stands for: a test, and that it is right. -/
namespace Ev
open PySem PySem.Spec PyProof.Rows L2

structure Ck where
  N : List Str
  sc : Scope
  /-- a name whose cell is made here -/
  fnc : Str → Bool
  fnT : List (Str × Nat)
  clT : List (Str × Nat)
  glT : List (Str × Nat)
  bl : List Str
  /-- within an except suite -/
  hot : Bool
  fds : List Str
def Bo.op : Bo → Operator
  | .add => .Add | .sub => .Sub | .mul => .Mult | .fdv => .FloorDiv | .mod => .Mod | .pow => .Pow
section
variable (K : Ck)
def isG (x : Str) : Bool := decide (K.sc.names.lookup x = some .globalImplicit) && !(x == ("__debug__" : Str))
def visB (x : Str) : Bool := (match K.sc.names.lookup x with | some .local => true | some .cell => true | some .free => true | _ => false) && !(x == ("__debug__" : Str)) && !(x == ("__classdict__" : Str))
def locB (x : Str) : Bool := match K.sc.names.lookup x with | some .local => true | some .cell => K.fnc x | _ => false
def atN (i : Nat) (x : Str) : Bool := decide (K.N[i]? = some x)
def isB (x : Str) : Bool := isG K x && K.bl.contains x
def noSt : Expr → Bool
  | .Starred _ _ => false | _ => true
def noSl : Expr → Bool
  | .Slice _ _ _ _ => false | _ => true
def noSet : Expr → Bool
  | .Set _ _ _ => false | _ => true
/-- nothing of super -/
def plA : Expr → Bool
  | .Call _ _ _ _ => false | _ => true
def tyOf (x : Str) : Option Ty := if isG K x then (match K.clT.lookup x with
    | some c => some (.cls c)
    | none => if K.bl.contains x then (if x == ("int" : Str) then some .int else if x == ("bool" : Str) then some .bool else if x == ("str" : Str) then some .str else if x == ("tuple" : Str) then some .tuple else if x == ("list" : Str) then some .list else if x == ("dict" : Str) then some .dict else none) else none)
  else none
def kTys : List Ty → List Expr → Bool
  | [], [] => true
  | t :: ts, .Name x _ :: es => decide (tyOf K x = some t) && kTys ts es
  | _, _ => false
mutual
def kTg : Tg → Expr → Bool
  | .n i, e => (match e with | .Name x _ => atN K i x && locB K x | _ => false)
  | .t ts, e => (match e with | .Tuple es _ _ => kTgs ts es | _ => false)
def kTgs : List Tg → List Expr → Bool
  | [], es => es.isEmpty
  | t :: ts, es => (match es with | e :: es => noSt e && kTg t e && kTgs ts es | _ => false)
end
end
/-- a comprehension's block -/
def ownB (N : List Str) (vs : List Nat) : List (Str × Nat) := vs.filterMap fun i => N[i]?.map fun x => (x, i)
def Ck.blk (K : Ck) (scope : Scope) : Ck := { K with sc := relS scope K.sc, fnc := fun x => scope.names.lookup x == some .cell }
mutual
def kE : X → Ck → Expr → Bool
  | .k d, _, e => (match e with | .Constant c _ _ => litD c d | _ => false)
  | .v i, K, e => (match e with | .Name x _ => atN K i x && visB K x | _ => false)
  | .g j, K, e => (match e with | .Name x _ => isG K x && decide (K.glT.lookup x = some j) | _ => false)
  | .tup xs, K, e => (match e with | .Tuple es _ _ => kEs xs K es | _ => false)
  | .lst xs, K, e => (match e with | .List es _ => kEs xs K es | _ => false)
  | .bin o a b, K, e => (match e with | .BinOp ea p eb _ => decide (p = o.op) && kE a K ea && kE b K eb | _ => false)
  | .neg a, K, e => (match e with | .UnaryOp .USub ea _ => kE a K ea | _ => false)
  | .not a, K, e => (match e with | .UnaryOp .Not ea _ => kE a K ea | _ => false)
  | .cmp o a b, K, e => (match e with | .Compare ea [p] [eb] _ => decide (p = o.op) && kE a K ea && kE b K eb && noSet eb | _ => false)
  | .cmp2 o o' a b c, K, e => (match e with | .Compare ea [p, p'] [eb, ec] _ => decide (p = o.op) && decide (p' = o'.op) && kE a K ea && kE b K eb && kE c K ec && noSet ec | _ => false)
  | .and xs, K, e => (match e with | .BoolOp .And es _ => kBs xs K es | _ => false)
  | .or xs, K, e => (match e with | .BoolOp .Or es _ => kBs xs K es | _ => false)
  | .ite c a b, K, e => (match e with | .IfExp ec ea eb _ => kE c K ec && kE a K ea && kE b K eb | _ => false)
  | .idx a b, K, e => (match e with | .Subscript ea eb _ => kE a K ea && kE b K eb && noSl eb | _ => false)
  | .sli a lo hi, K, e => (match e with | .Subscript ea (.Slice l h none _) _ => kE a K ea && kO lo K l && kO hi K h | _ => false)
  | .rev a, K, e => (match e with | .Subscript ea (.Slice none none (some (.UnaryOp .USub (.Constant (.int 1) _ _) _)) _) _ => kE a K ea | _ => false)
  | .fld a f, K, e => (match e with | .Attribute ea g _ => decide (f = g) && K.fds.contains f && plA ea && kE a K ea | _ => false)
  | .call j xs, K, e => (match e with | .Call (.Name x _) (a :: as) [] _ => isG K x && decide (K.fnT.lookup x = some j) && kEs xs K (a :: as) | _ => false)
  | .cav i xs, K, e => (match e with | .Call (.Name x _) (a :: as) [] _ => atN K i x && visB K x && kEs xs K (a :: as) | _ => false)
  | .mk c xs, K, e => (match e with | .Call (.Name x _) (a :: as) [] _ => isG K x && decide (K.clT.lookup x = some c) && kEs xs K (a :: as) | _ => false)
  | .b1 b a, K, e => (match e with | .Call (.Name x _) [ea] [] _ => (match b.at with | some (n, _) => decide (x = Str.ofString n) && isB K x | none => false) && (b.hot || !K.hot) && noSt ea && kE a K ea | _ => false)
  | .max2 a b, K, e => (match e with | .Call (.Name x _) [ea, eb] [] _ => decide (x = ("max" : Str)) && isB K x && noSt ea && noSt eb && kE a K ea && kE b K eb | _ => false)
  | .min2 a b, K, e => (match e with | .Call (.Name x _) [ea, eb] [] _ => decide (x = ("min" : Str)) && isB K x && noSt ea && noSt eb && kE a K ea && kE b K eb | _ => false)
  | .isa a ts, K, e => (match e with | .Call (.Name x _) [ea, et] [] _ => decide (x = ("isinstance" : Str)) && isB K x && noSt ea && kE a K ea && (match et with | .Name y _ => (match ts with | [t] => decide (tyOf K y = some t) | _ => false) | .Tuple es _ _ => kTys K ts es && decide (ts.length ≤ 10) && !ts.isEmpty | _ => false) | _ => false)
  | .lc x g it c vs, K, e => (match e with | .ListComp elt [⟨tg, iter, ifs, 0⟩] scope _ => blkC K.N K.sc scope (ownB K.N vs) && decide ((ownB K.N vs).map (·.2) = vs) && (tgSl g).all (fun i => vs.contains i) && noSet iter && kI it K tg iter && kTg (K.blk scope) g tg && kC c (K.blk scope) ifs && kE x (K.blk scope) elt | _ => false)
  | .lenset a, K, e => (match e with | .Call (.Name x _) [.Call (.Name y _) [ea] [] _] [] _ => decide (x = ("len" : Str)) && decide (y = ("set" : Str)) && isB K x && isB K y && noSt ea && kE a K ea | _ => false)
  | .srtset a, K, e => (match e with | .Call (.Name x _) [.Call (.Name y _) [ea] [] _] [] _ => decide (x = ("sorted" : Str)) && decide (y = ("set" : Str)) && isB K x && isB K y && noSt ea && kE a K ea | _ => false)
  | .lidx a b, K, e => (match e with | .Call (.Attribute ed m apos) [eb] [] cpos => decide (m = ("index" : Str)) && plB ed && noSt eb && ((apos.endLine == cpos.line) || noNm ed) && kE a K ed && kE b K eb | _ => false)
  | .dict0, _, e => (match e with | .Dict [] [] _ => true | _ => false)
  | .dic1 a b, K, e => (match e with | .Dict [some ea] [eb] _ => kE a K ea && kE b K eb | _ => false)
  | .get d a b, K, e => (match e with | .Call (.Attribute ed m apos) [ea, eb] [] cpos => decide (m = ("get" : Str)) && plA ed && noSt ea && noSt eb && (apos.endLine == cpos.line) && kE d K ed && kE a K ea && kE b K eb | _ => false)
  | .lrng a, K, e => (match e with | .Call (.Name x _) [.Call (.Name y _) [ea] [] _] [] _ => decide (x = ("list" : Str)) && decide (y = ("range" : Str)) && isB K x && isB K y && noSt ea && kE a K ea | _ => false)
  | .bad, _, _ => true
def kEs : Xs → Ck → List Expr → Bool
  | .nil, _, es => es.isEmpty
  | .cons x r, K, es => (match es with | e :: es => noSt e && kE x K e && kEs r K es | _ => false)
def kBs : Xs → Ck → List Expr → Bool
  | .nil, _, _ => false
  | .cons x .nil, K, es => (match es with | [e] => kE x K e | _ => false)
  | .cons x (.cons y r), K, es => (match es with | e :: e' :: es => kE x K e && kBs (.cons y r) K (e' :: es) | _ => false)
def kO : Xo → Ck → Option Expr → Bool
  | .no, _, e => e.isNone
  | .so x, K, e => (match e with | some e => kE x K e | none => false)
def kC : Xo → Ck → List Expr → Bool
  | .no, _, es => es.isEmpty
  | .so x, K, es => (match es with | [e] => kE x K e | _ => false)
def kI : It → Ck → Expr → Expr → Bool
  | .x a, K, _, e => kE a K e
  | .rng xs, K, _, e => (match e with
      | .Call (.Name x _) [ea] [] _ => decide (x = ("range" : Str)) && isB K x && kEs xs K [ea]
      | .Call (.Name x _) [ea, eb] [] _ => decide (x = ("range" : Str)) && isB K x && kEs xs K [ea, eb]
      | _ => false)
  | .enum xs, K, tg, e => (match tg, e with | .Tuple _ _ _, .Call (.Name x _) [ea] [] _ => decide (x = ("enumerate" : Str)) && isB K x && kEs xs K [ea] | _, _ => false)
  | .zip xs, K, tg, e => (match tg, e with | .Tuple _ _ _, .Call (.Name x _) [ea, eb] [] _ => decide (x = ("zip" : Str)) && isB K x && kEs xs K [ea, eb] | _, _ => false)
end
end Ev

set_option maxRecDepth 100000
set_option maxHeartbeats 8000000
namespace Ev
open PySem PySem.Spec PyProof.Rows L2

/-- what a context gives: tables, room, classes -/
structure Gd (G : GG) (xf : Nat → Option Str) (C : Cfg) (K : Ck) (X : Cx) : Prop where
  hK : X.K = G.K
  un : X.A.units + 200 < cLine
  calm : C.hot = false → X.calm = true
  calm2 : K.hot = false → X.calm = true
  hot2 : K.hot = false → C.hot = false
  fns : ∀ x j, K.fnT.lookup x = some j → X.mg x = some (.ref (G.fa j)) ∧ (C.hot = false → FnUse G xf X j (C.cf j))
  fall : C.hot = false → ∀ j, j < C.nf → FnUse G xf X j (C.cf j)
  cls : ∀ x c, K.clT.lookup x = some c → X.mg x = some (.ref (G.cl c)) ∧ c < C.nc ∧ (C.hot = false → MkUse G xf X c (C.cm c))
  gls : ∀ x j, K.glT.lookup x = some j → ∃ v u d, X.mg x = some u ∧ RelV v u ∧ C.gs[j]? = some d ∧ ∀ F rho n H, R G F rho n H v d
  blt : ∀ n ∈ K.bl, X.mg n = none
  fld : ∀ f ∈ K.fds, ∀ c, c < C.nc → Cls X.K (G.cl c) ∧ NoAttr X.K (G.cl c) f
  eqs : ∀ c j, C.hot = false → C.ce c = some j → EqUse G X c j ∧ FnUse G xf X j (C.cf j)
  isa : IsaUse G X C.nc
structure Sy (K : Ck) (X : Cx) : Prop where
  N : X.N = K.N
  nd : K.N.Nodup
  sc : X.env.scope = K.sc
  fnc : ∀ x, K.fnc x = true → X.fn x = true
section
variable {G : GG} {xf : Nat → Option Str} {Wx : L2.WX} {C : Cfg} {X : Cx} {K : Ck} {pos : Pos}
theorem Gd.blk (g : Gd G xf C K X) {s : Shared} {H : Hp} {scope : Scope} {ce : PySem.Env} {fp : List Addr} : Gd G xf C (K.blk scope) (X.blk s H scope ce fp) :=
  ⟨g.hK, g.un, g.calm, g.calm2, g.hot2, fun x j e => ⟨(g.fns x j e).1, fun h => ⟨((g.fns x j e).2 h).ok⟩⟩, fun h j e => ⟨(g.fall h j e).ok⟩, fun x c e => ⟨(g.cls x c e).1, (g.cls x c e).2.1, fun h => ⟨((g.cls x c e).2.2 h).ok⟩⟩, g.gls, g.blt, g.fld,
    fun c j h e => ⟨⟨(g.eqs c j h e).1.find, (g.eqs c j h e).1.fn, (g.eqs c j h e).1.tup⟩, ⟨(g.eqs c j h e).2.ok⟩⟩, ⟨g.isa.ins, g.isa.bc, g.isa.cb, g.isa.cc⟩⟩
theorem Sy.blk (y : Sy K X) {s : Shared} {H : Hp} {scope : Scope} {Ca : Addr} {cl : List (Str × Addr)} {fp : List Addr} : Sy (K.blk scope) (X.blk s H scope (compEnvC scope cl Ca X.env) fp) := by
  refine ⟨y.N, y.nd, ?_, fun x h => h⟩
  show relabel scope X.env = relS scope K.sc
  rw [← y.sc]
  rfl
theorem gl_of (y : Sy K X) {x : Str} (h : isG K x = true) : Gl X x ∧ (x == ("__debug__" : Str)) = false := by
  unfold isG at h
  rw [Bool.and_eq_true, decide_eq_true_eq] at h
  refine ⟨?_, by simpa using h.2⟩
  show X.env.scope.names.lookup x = _
  rw [y.sc]
  exact h.1
theorem vis_of (y : Sy K X) {x : Str} (h : visB K x = true) : Vis X.env.scope x ∧ (x == ("__debug__" : Str)) = false ∧ (x == ("__classdict__" : Str)) = false := by
  unfold visB at h
  rw [Bool.and_eq_true, Bool.and_eq_true] at h
  obtain ⟨⟨h1, h2⟩, h3⟩ := h
  refine ⟨?_, by simpa using h2, by simpa using h3⟩
  unfold Vis
  rw [y.sc]
  split at h1 <;> first | exact .inl (by assumption) | exact .inr (.inl (by assumption)) | exact .inr (.inr (by assumption)) | cases h1
theorem loc_of (y : Sy K X) {x : Str} (h : locB K x = true) : L2.Loc X.env.scope x ∧ (X.fn x = true ∨ X.env.scope.names.lookup x = some .local) := by
  unfold locB at h
  unfold L2.Loc
  rw [y.sc]
  split at h
  · exact ⟨.inl (by assumption), .inr (by assumption)⟩
  · exact ⟨.inr (by assumption), .inl (y.fnc x h)⟩
  · cases h
theorem at_of (y : Sy K X) {i : Nat} {x : Str} (h : atN K i x = true) : X.N[i]? = some x := by
  unfold atN at h
  rw [y.N]
  exact of_decide_eq_true h
theorem star_one {ea : Expr} {es : List Expr} {env : PySem.Env} (h : noSt ea = true) : starEach (ea :: es) env = (false, eval ea env) :: starEach es env := by
  cases ea <;> first | rfl | cases h
theorem asg_one {ea : Expr} {es : List Expr} {env : PySem.Env} (h : noSt ea = true) : assignEach (ea :: es) env = (false, assign ea env) :: assignEach es env := by
  cases ea <;> first | rfl | cases h
theorem bl_of (y : Sy K X) (g : Gd G xf C K X) {x : Str} (h : isB K x = true) : Gl X x ∧ X.mg x = none := by
  unfold isB at h
  rw [Bool.and_eq_true] at h
  exact ⟨(gl_of y h.1).1, g.blt x (by simpa using h.2)⟩
theorem plain_of {ea : Expr} {f : Str} {env : PySem.Env} (h : plA ea = true) : attributeBase ea f env (eval ea env) = eval ea env := by
  cases ea <;> first | rfl | cases h
theorem mark_of {p : CmpOp} {e : Expr} (h : noSet e = true) : behindInMarks p e = false := by
  cases e <;> first | rfl | cases h
theorem pix_of {e : Expr} (h : noSl e = true) : PlainIx e := by
  cases e <;> first | (intro o i; rfl) | cases h
theorem nost_all : ∀ (xs : Xs) (es : List Expr), kEs xs K es = true → es.all noSt = true
  | .nil, es, h => by
    unfold kEs at h
    cases es with
    | nil => rfl
    | cons e es => cases h
  | .cons x r, es, h => by
    unfold kEs at h
    split at h
    · simp only [Bool.and_eq_true] at h
      rw [List.all_cons, h.1.1, nost_all r _ h.2]
      rfl
    · cases h
theorem back_one {pos : Pos} {env : PySem.Env} : ∀ es : List Expr, es.all noSt = true → (backTo pos (starEach es env)).any (·.1) = false
  | [], _ => rfl
  | e :: es, h => by
    rw [List.all_cons, Bool.and_eq_true] at h
    have ih := back_one (pos := pos) (env := env) es h.2
    rw [star_one h.1]
    unfold backTo at ih ⊢
    rw [List.map_cons, List.any_cons, ih]
    rfl
theorem ty_of (y : Sy K X) (g : Gd G xf C K X) {x : Str} {t : Ty} {p : Pos} (h : tyOf K x = some t) : PE X (.Name x p) (tC (t.v G)) ∧ ∀ c, t = .cls c → c < C.nc := by
  unfold tyOf at h
  split at h
  · rename_i hg
    obtain ⟨h1, h2⟩ := gl_of y hg
    cases z : K.clT.lookup x with
    | some c =>
      rw [z] at h
      cases h
      obtain ⟨m1, m2, _⟩ := g.cls x c z
      exact ⟨pe_glob h1 m1 rfl h2, fun c' e => by cases e; exact m2⟩
    | none =>
      rw [z] at h
      dsimp only at h
      split at h
      · rename_i hb
        have hm := g.blt x (by simpa using hb)
        split at h
        · rename_i e; have e := eq_of_beq e; subst e; cases h; exact ⟨pe_bltn h1 hm (v := .ty "int") (u := .type "int") (by decide +kernel) rfl, fun c e => nomatch e⟩
        · split at h
          · rename_i e; have e := eq_of_beq e; subst e; cases h; exact ⟨pe_bltn h1 hm (v := .ty "bool") (u := .type "bool") (by decide +kernel) rfl, fun c e => nomatch e⟩
          · split at h
            · rename_i e; have e := eq_of_beq e; subst e; cases h; exact ⟨pe_bltn h1 hm (v := .ty "str") (u := .type "str") (by decide +kernel) rfl, fun c e => nomatch e⟩
            · split at h
              · rename_i e; have e := eq_of_beq e; subst e; cases h; exact ⟨pe_bltn h1 hm (v := .ty "tuple") (u := .type "tuple") (by decide +kernel) rfl, fun c e => nomatch e⟩
              · split at h
                · rename_i e; have e := eq_of_beq e; subst e; cases h; exact ⟨pe_bltn h1 hm (v := .ty "list") (u := .type "list") (by decide +kernel) rfl, fun c e => nomatch e⟩
                · split at h
                  · rename_i e; have e := eq_of_beq e; subst e; cases h; exact ⟨pe_bltn h1 hm (v := .ty "dict") (u := .type "dict") (by decide +kernel) rfl, fun c e => nomatch e⟩
                  · cases h
      · cases h
  · cases h
theorem tys_of (y : Sy K X) (g : Gd G xf C K X) : ∀ (ts : List Ty) (es : List Expr), kTys K ts es = true → PA X es (tTys G ts) ∧ ∀ t ∈ ts, ∀ c, t = .cls c → c < C.nc
  | [], es, h => by
    cases es with
    | nil => exact ⟨pa_nil, fun t h => nomatch h⟩
    | cons e es => cases h
  | t :: ts, es, h => by
    cases es with
    | nil => cases h
    | cons e es =>
      cases e <;> first | cases h | skip
      unfold kTys at h
      rw [Bool.and_eq_true, decide_eq_true_eq] at h
      obtain ⟨h1, h2⟩ := ty_of y g (p := ‹Pos›) h.1
      obtain ⟨h3, h4⟩ := tys_of y g ts es h.2
      exact ⟨pa_cons h1 h3 rfl, fun t' ht c e => by
        rcases List.mem_cons.mp ht with rfl | ht
        · exact h2 c e
        · exact h4 t' ht c e⟩
mutual
theorem sTg (hK : X.K = G.K) (hc : X.calm = true) (y : Sy K X) : ∀ (t : Tg) (e : Expr), kTg K t e = true → PG X e (TGt G t)
  | .n i, e, h => by
    unfold kTg at h
    split at h
    · rw [Bool.and_eq_true] at h
      obtain ⟨h1, h2⟩ := loc_of y h.2
      exact g_n (by rw [y.N]; exact y.nd) (at_of y h.1) h1 h2
    · cases h
  | .t ts, e, h => by
    unfold kTg at h
    split at h
    · obtain ⟨h1, h2, h3⟩ := sTgs hK hc y ts _ h
      exact g_t hK hc h1 h2 h3
    · cases h
theorem sTgs (hK : X.K = G.K) (hc : X.calm = true) (y : Sy K X) : ∀ (ts : List Tg) (es : List Expr), kTgs K ts es = true → PGs X es (TGts G ts) ∧ (assignEach es X.env).length = ts.length ∧ (assignEach es X.env).findIdx? (·.1) = none
  | [], es, h => by
    unfold kTgs at h
    cases es with
    | nil => exact ⟨gs_nil, rfl, rfl⟩
    | cons e es => cases h
  | t :: ts, es, h => by
    unfold kTgs at h
    split at h
    · simp only [Bool.and_eq_true] at h
      obtain ⟨h1, h2, h3⟩ := sTgs hK hc y ts _ h.2
      have e1 := asg_one (es := ‹List Expr›) (env := X.env) h.1.1
      refine ⟨gs_cons (sTg hK hc y t _ h.1.2) h1 (by rw [e1]; rfl), by rw [e1, List.length_cons, h2]; rfl, ?_⟩
      rw [e1, List.findIdx?_cons, h3]
      rfl
    · cases h
end
theorem bin_of {o : Bo} {ea eb : Expr} {a b : Ev.X} {p : Pos} (hK : X.K = G.K) (ha : PE X ea (TB G xf Wx C a)) (hb : PE X eb (TB G xf Wx C b)) : PE X (.BinOp ea o.op eb p) (TB G xf Wx C (.bin o a b)) := by
  cases o
  · exact c_add hK ha hb
  · exact c_sub ha hb
  · exact c_mul hK ha hb
  · exact c_fdv ha hb
  · exact c_mod ha hb
  · exact c_pow ha hb
end
end Ev

set_option maxRecDepth 100000
set_option maxHeartbeats 8000000
namespace Ev
open PySem PySem.Spec PyProof.Rows L2

section
variable {G : GG} {xf : Nat → Option Str} {C : Cfg}
mutual
theorem sE : ∀ (x : X) (K : Ck) (Xc : Cx) (Wx : L2.WX) (e : Expr), Gd G xf C K Xc → Sy K Xc → Takes Xc Wx → kE x K e = true → PE Xc e (TB G xf Wx C x) ∧ PT Xc e (TT' G xf Wx C x)
  | .k d, K, X, Wx, e, g, y, tk, h => by
    unfold kE at h
    split at h
    · exact ⟨c_lit h, t_of (c_lit h) fun _ => rfl⟩
    · cases h
  | .v i, K, X, Wx, e, g, y, tk, h => by
    unfold kE at h
    split at h
    · rw [Bool.and_eq_true] at h
      obtain ⟨h1, h2, h3⟩ := vis_of y h.2
      exact ⟨c_var (at_of y h.1) h1 h2 h3, t_of (c_var (at_of y h.1) h1 h2 h3) fun _ => rfl⟩
    · cases h
  | .g j, K, X, Wx, e, g, y, tk, h => by
    unfold kE at h
    split at h
    · rw [Bool.and_eq_true, decide_eq_true_eq] at h
      obtain ⟨h1, h2⟩ := gl_of y h.1
      obtain ⟨v, u, d, m1, m2, m3, m4⟩ := g.gls _ _ h.2
      exact ⟨c_glob h1 m1 m2 m3 m4 h2, t_of (c_glob h1 m1 m2 m3 m4 h2) fun _ => rfl⟩
    · cases h
  | .tup xs, K, X, Wx, e, g, y, tk, h => by
    unfold kE at h
    split at h
    · exact ⟨c_tup (sEs xs K X Wx _ g y tk h).1, t_of (c_tup (sEs xs K X Wx _ g y tk h).1) fun _ => rfl⟩
    · cases h
  | .lst xs, K, X, Wx, e, g, y, tk, h => by
    unfold kE at h
    split at h
    · exact ⟨c_lst (sEs xs K X Wx _ g y tk h).1, t_of (c_lst (sEs xs K X Wx _ g y tk h).1) fun _ => rfl⟩
    · cases h
  | .bin o a b, K, X, Wx, e, g, y, tk, h => by
    unfold kE at h
    split at h
    · simp only [Bool.and_eq_true, decide_eq_true_eq] at h
      obtain ⟨⟨rfl, h2⟩, h3⟩ := h
      exact ⟨bin_of g.hK (sE a K X Wx _ g y tk h2).1 (sE b K X Wx _ g y tk h3).1, t_of (bin_of g.hK (sE a K X Wx _ g y tk h2).1 (sE b K X Wx _ g y tk h3).1) fun _ => rfl⟩
    · cases h
  | .neg a, K, X, Wx, e, g, y, tk, h => by
    unfold kE at h
    split at h
    · exact ⟨c_neg (sE a K X Wx _ g y tk h).1, t_of (c_neg (sE a K X Wx _ g y tk h).1) fun _ => rfl⟩
    · cases h
  | .not a, K, X, Wx, e, g, y, tk, h => by
    unfold kE at h
    split at h
    · obtain ⟨h1, h2⟩ := sE a K X Wx _ g y tk h
      exact ⟨c_not h1, t_not h2⟩
    · cases h
  | .cmp o a b, K, X, Wx, e, g, y, tk, h => by
    unfold kE at h
    split at h
    · simp only [Bool.and_eq_true, decide_eq_true_eq] at h
      obtain ⟨⟨⟨rfl, h2⟩, h3⟩, h4⟩ := h
      have pa := (sE a K X Wx _ g y tk h2).1
      have pb := (sE b K X Wx _ g y tk h3).1
      exact ⟨c_cmp g.hK g.un g.eqs pa pb (mark_of h4), t_cmp g.hK g.un g.eqs pa pb (mark_of h4)⟩
    · cases h
  | .cmp2 o o' a b c, K, X, Wx, e, g, y, tk, h => by
    unfold kE at h
    split at h
    · simp only [Bool.and_eq_true, decide_eq_true_eq] at h
      obtain ⟨⟨⟨⟨⟨rfl, rfl⟩, h2⟩, h3⟩, h5⟩, h4⟩ := h
      have pa := (sE a K X Wx _ g y tk h2).1
      have pb := (sE b K X Wx _ g y tk h3).1
      have pc := (sE c K X Wx _ g y tk h5).1
      exact ⟨c_cmp2 g.hK g.un g.eqs pa pb pc (by show behindInMarks o'.op _ = false; exact mark_of h4), t_cmp2 g.hK g.un g.eqs pa pb pc (by show behindInMarks o'.op _ = false; exact mark_of h4)⟩
    · cases h
  | .and xs, K, X, Wx, e, g, y, tk, h => by
    unfold kE at h
    split at h
    · obtain ⟨h1, h2⟩ := (sBs xs K X Wx _ _ g y tk h).1
      exact ⟨c_and h1, t_and h2⟩
    · cases h
  | .or xs, K, X, Wx, e, g, y, tk, h => by
    unfold kE at h
    split at h
    · obtain ⟨h1, h2⟩ := (sBs xs K X Wx _ _ g y tk h).2
      exact ⟨c_or h1, t_or h2⟩
    · cases h
  | .ite c a b, K, X, Wx, e, g, y, tk, h => by
    unfold kE at h
    split at h
    · simp only [Bool.and_eq_true] at h
      obtain ⟨⟨h1, h2⟩, h3⟩ := h
      obtain ⟨_, tc⟩ := sE c K X Wx _ g y tk h1
      obtain ⟨pa, ta⟩ := sE a K X Wx _ g y tk h2
      obtain ⟨pb, tb⟩ := sE b K X Wx _ g y tk h3
      exact ⟨c_ite tc pa pb, t_ite tc ta tb⟩
    · cases h
  | .idx a b, K, X, Wx, e, g, y, tk, h => by
    unfold kE at h
    split at h
    · simp only [Bool.and_eq_true] at h
      obtain ⟨⟨h1, h2⟩, h3⟩ := h
      exact ⟨c_idx g.hK g.un (sE a K X Wx _ g y tk h1).1 (sE b K X Wx _ g y tk h2).1 (pix_of h3), t_of (c_idx g.hK g.un (sE a K X Wx _ g y tk h1).1 (sE b K X Wx _ g y tk h2).1 (pix_of h3)) fun _ => rfl⟩
    · cases h
  | .sli a lo hi, K, X, Wx, e, g, y, tk, h => by
    unfold kE at h
    split at h
    · simp only [Bool.and_eq_true] at h
      obtain ⟨⟨h1, h2⟩, h3⟩ := h
      exact ⟨c_sli g.hK (sE a K X Wx _ g y tk h1).1 (sO lo K X Wx _ g y tk h2) (sO hi K X Wx _ g y tk h3), t_of (c_sli g.hK (sE a K X Wx _ g y tk h1).1 (sO lo K X Wx _ g y tk h2) (sO hi K X Wx _ g y tk h3)) fun _ => rfl⟩
    · cases h
  | .rev a, K, X, Wx, e, g, y, tk, h => by
    unfold kE at h
    split at h
    · exact ⟨c_rev g.hK (sE a K X Wx _ g y tk h).1, t_of (c_rev g.hK (sE a K X Wx _ g y tk h).1) fun _ => rfl⟩
    · cases h
  | .fld a f, K, X, Wx, e, g, y, tk, h => by
    unfold kE at h
    split at h
    · simp only [Bool.and_eq_true, decide_eq_true_eq] at h
      obtain ⟨⟨⟨rfl, h2⟩, h3⟩, h4⟩ := h
      exact ⟨c_fld (g.fld f (by simpa using h2)) (plain_of h3) (sE a K X Wx _ g y tk h4).1, t_of (c_fld (g.fld f (by simpa using h2)) (plain_of h3) (sE a K X Wx _ g y tk h4).1) fun _ => rfl⟩
    · cases h
  | .call j xs, K, X, Wx, e, g, y, tk, h => by
    unfold kE at h
    split at h
    · simp only [Bool.and_eq_true, decide_eq_true_eq] at h
      obtain ⟨⟨h1, h2⟩, h3⟩ := h
      obtain ⟨g1, g2⟩ := gl_of y h1
      obtain ⟨m1, m2⟩ := g.fns _ _ h2
      have ns := nost_all xs _ h3
      rw [List.all_cons, Bool.and_eq_true] at ns
      exact ⟨c_call m2 tk g1 m1 (sEs xs K X Wx _ g y tk h3).1 g2 (star_one ns.1) (back_one _ ns.2), t_of (c_call m2 tk g1 m1 (sEs xs K X Wx _ g y tk h3).1 g2 (star_one ns.1) (back_one _ ns.2)) fun _ => rfl⟩
    · cases h
  | .cav i xs, K, X, Wx, e, g, y, tk, h => by
    unfold kE at h
    split at h
    · simp only [Bool.and_eq_true] at h
      obtain ⟨⟨h1, h2⟩, h3⟩ := h
      obtain ⟨v1, v2, v3⟩ := vis_of y h2
      have ns := nost_all xs _ h3
      rw [List.all_cons, Bool.and_eq_true] at ns
      exact ⟨c_cav g.fall tk (at_of y h1) v1 v3 (sEs xs K X Wx _ g y tk h3).1 v2 (star_one ns.1) (back_one _ ns.2), t_of (c_cav g.fall tk (at_of y h1) v1 v3 (sEs xs K X Wx _ g y tk h3).1 v2 (star_one ns.1) (back_one _ ns.2)) fun _ => rfl⟩
    · cases h
  | .mk c xs, K, X, Wx, e, g, y, tk, h => by
    unfold kE at h
    split at h
    · simp only [Bool.and_eq_true, decide_eq_true_eq] at h
      obtain ⟨⟨h1, h2⟩, h3⟩ := h
      obtain ⟨g1, g2⟩ := gl_of y h1
      obtain ⟨m1, m2, m3⟩ := g.cls _ _ h2
      have ns := nost_all xs _ h3
      rw [List.all_cons, Bool.and_eq_true] at ns
      exact ⟨c_mk m3 tk g1 m1 (sEs xs K X Wx _ g y tk h3).1 g2 (star_one ns.1) (back_one _ ns.2), t_of (c_mk m3 tk g1 m1 (sEs xs K X Wx _ g y tk h3).1 g2 (star_one ns.1) (back_one _ ns.2)) fun _ => rfl⟩
    · cases h
  | .b1 b a, K, X, Wx, e, g, y, tk, h => by
    unfold kE at h
    split at h
    · simp only [Bool.and_eq_true, Bool.or_eq_true] at h
      obtain ⟨⟨⟨h1, h2⟩, h3⟩, h4⟩ := h
      cases z : b.at with
      | none => rw [z] at h1; cases h1
      | some nf =>
        obtain ⟨n, f⟩ := nf
        rw [z] at h1
        simp only [Bool.and_eq_true, decide_eq_true_eq] at h1
        obtain ⟨rfl, h5⟩ := h1
        obtain ⟨b1, b2⟩ := bl_of y g h5
        exact ⟨c_b1 z g.hK (h2.imp id fun q => g.calm2 (by simpa using q)) b1 b2 (sE a K X Wx _ g y tk h4).1 (star_one h3), t_of (c_b1 z g.hK (h2.imp id fun q => g.calm2 (by simpa using q)) b1 b2 (sE a K X Wx _ g y tk h4).1 (star_one h3)) fun _ => rfl⟩
    · cases h
  | .max2 a b, K, X, Wx, e, g, y, tk, h => by
    unfold kE at h
    split at h
    · simp only [Bool.and_eq_true, decide_eq_true_eq] at h
      obtain ⟨⟨⟨⟨⟨rfl, h2⟩, h3⟩, h4⟩, h5⟩, h6⟩ := h
      obtain ⟨b1, b2⟩ := bl_of y g h2
      exact ⟨c_max2 g.calm b1 b2 (sE a K X Wx _ g y tk h5).1 (sE b K X Wx _ g y tk h6).1 (star_one h3) (star_one h4), t_of (c_max2 g.calm b1 b2 (sE a K X Wx _ g y tk h5).1 (sE b K X Wx _ g y tk h6).1 (star_one h3) (star_one h4)) fun _ => rfl⟩
    · cases h
  | .min2 a b, K, X, Wx, e, g, y, tk, h => by
    unfold kE at h
    split at h
    · simp only [Bool.and_eq_true, decide_eq_true_eq] at h
      obtain ⟨⟨⟨⟨⟨rfl, h2⟩, h3⟩, h4⟩, h5⟩, h6⟩ := h
      obtain ⟨b1, b2⟩ := bl_of y g h2
      exact ⟨c_min2 g.calm b1 b2 (sE a K X Wx _ g y tk h5).1 (sE b K X Wx _ g y tk h6).1 (star_one h3) (star_one h4), t_of (c_min2 g.calm b1 b2 (sE a K X Wx _ g y tk h5).1 (sE b K X Wx _ g y tk h6).1 (star_one h3) (star_one h4)) fun _ => rfl⟩
    · cases h
  | .isa a ts, K, X, Wx, e, g, y, tk, h => by
    unfold kE at h
    split at h
    · simp only [Bool.and_eq_true, decide_eq_true_eq] at h
      obtain ⟨⟨⟨⟨rfl, h2⟩, h3⟩, h4⟩, h5⟩ := h
      obtain ⟨b1, b2⟩ := bl_of y g h2
      have pa := (sE a K X Wx _ g y tk h4).1
      split at h5
      · split at h5
        · obtain ⟨t1, t2⟩ := ty_of y g (p := ‹Pos›) (of_decide_eq_true h5)
          exact ⟨c_isa g.hK g.isa t2 b1 b2 pa t1 (star_one h3) rfl, t_of (c_isa g.hK g.isa t2 b1 b2 pa t1 (star_one h3) rfl) fun _ => rfl⟩
        · cases h5
      · simp only [Bool.and_eq_true, decide_eq_true_eq] at h5
        obtain ⟨⟨h6, h7⟩, h8⟩ := h5
        obtain ⟨t1, t2⟩ := tys_of y g ts _ h6
        exact ⟨c_isaT g.hK g.isa t2 h7 b1 b2 pa t1 (by intro e; subst e; cases h8) (star_one h3) rfl, t_of (c_isaT g.hK g.isa t2 h7 b1 b2 pa t1 (by intro e; subst e; cases h8) (star_one h3) rfl) fun _ => rfl⟩
      · cases h5
    · cases h
  | .lc x gt it c vs, K, X, Wx, e, g, y, tk, h => by
    unfold kE at h
    split at h
    · simp only [Bool.and_eq_true, decide_eq_true_eq] at h
      obtain ⟨⟨⟨⟨⟨⟨⟨h1, h2⟩, h3⟩, h4⟩, h5⟩, h6⟩, h7⟩, h8⟩ := h
      rename_i elt tg iter ifs scope pos
      have ok := blkOk_by h1
      rw [← y.N, ← y.sc] at ok
      have hv : (ownB X.N vs).map (·.2) = vs := by rw [y.N]; exact h2
      have hsl : ∀ i ∈ tgSl gt, i ∈ (ownB X.N vs).map (·.2) := fun i hi => by
        rw [hv]
        have := List.all_eq_true.mp h3 i hi
        simpa using this
      have yb : ∀ (s : Shared) (H : Hp) (Ca : Addr) (cl : List (Str × Addr)) (fp : List Addr), Sy (K.blk scope) (X.blk s H scope (compEnvC scope cl Ca X.env) fp) := fun s H Ca cl fp => y.blk
      have gb : ∀ (s : Shared) (H : Hp) (Ca : Addr) (cl : List (Str × Addr)) (fp : List Addr), Gd G xf C (K.blk scope) (X.blk s H scope (compEnvC scope cl Ca X.env) fp) := fun s H Ca cl fp => g.blk
      have p : PE X (.ListComp elt [⟨tg, iter, ifs, 0⟩] scope pos) (TB G xf Wx C (.lc x gt it c ((ownB X.N vs).map (·.2)))) := c_lc g.calm (by rw [y.N]; exact y.nd) (fun _ => sI it K X Wx tg iter g y tk h5) ok hsl
        (fun hh s H Ca cl fp => sTg (K := K.blk scope) (X := X.blk s H scope (compEnvC scope cl Ca X.env) fp) g.hK (g.calm hh) (yb s H Ca cl fp) gt tg h6)
        (fun hh s H Ca cl fp => sC c (K.blk scope) _ ifs (gb s H Ca cl fp) (yb s H Ca cl fp) takes0 h7) (fun hh s H Ca cl fp => (sE x (K.blk scope) _ _ elt (gb s H Ca cl fp) (yb s H Ca cl fp) takes0 h8).1)
        (fun z => by cases iter <;> first | rfl | cases h4)
      rw [hv] at p
      exact ⟨p, t_of p fun _ => rfl⟩
    · cases h
  | .lenset a, K, X, Wx, e, g, y, tk, h => by
    unfold kE at h
    split at h
    · simp only [Bool.and_eq_true, decide_eq_true_eq] at h
      obtain ⟨⟨⟨⟨⟨rfl, rfl⟩, h3⟩, h4⟩, h5⟩, h6⟩ := h
      obtain ⟨b1, b2⟩ := bl_of y g h3
      obtain ⟨b3, b4⟩ := bl_of y g h4
      exact ⟨c_lenset g.hK g.calm b1 b2 b3 b4 (sE a K X Wx _ g y tk h6).1 (star_one h5), t_of (c_lenset g.hK g.calm b1 b2 b3 b4 (sE a K X Wx _ g y tk h6).1 (star_one h5)) fun _ => rfl⟩
    · cases h
  | .srtset a, K, X, Wx, e, g, y, tk, h => by
    unfold kE at h
    split at h
    · simp only [Bool.and_eq_true, decide_eq_true_eq] at h
      obtain ⟨⟨⟨⟨⟨rfl, rfl⟩, h3⟩, h4⟩, h5⟩, h6⟩ := h
      obtain ⟨b1, b2⟩ := bl_of y g h3
      obtain ⟨b3, b4⟩ := bl_of y g h4
      exact ⟨c_srtset g.hK g.calm b1 b2 b3 b4 (sE a K X Wx _ g y tk h6).1 (star_one h5), t_of (c_srtset g.hK g.calm b1 b2 b3 b4 (sE a K X Wx _ g y tk h6).1 (star_one h5)) fun _ => rfl⟩
    · cases h
  | .lidx a b, K, X, Wx, e, g, y, tk, h => by
    unfold kE at h
    split at h
    · simp only [Bool.and_eq_true, decide_eq_true_eq] at h
      obtain ⟨⟨⟨⟨⟨rfl, h2⟩, h3⟩, h4⟩, h5⟩, h6⟩ := h
      rename_i ed apos eb cpos
      have e1 := star_one (es := []) (env := X.env) h3
      have p : PE X (.Call (.Attribute ed "index" apos) [eb] [] cpos) (TB G xf Wx C (.lidx a b)) := c_lidx g.hK (sE a K X Wx _ g y tk h5).1 (sE b K X Wx _ g y tk h6).1 (plainB_of h2) (by rw [e1]; rfl) ((Bool.or_eq_true _ _).mp h4) e1
      exact ⟨p, t_of p fun _ => rfl⟩
    · cases h
  | .dict0, K, X, Wx, e, g, y, tk, h => by
    unfold kE at h
    split at h
    · exact ⟨c_dict0, t_of (c_dict0) fun _ => rfl⟩
    · cases h
  | .dic1 a b, K, X, Wx, e, g, y, tk, h => by
    unfold kE at h
    split at h
    · rw [Bool.and_eq_true] at h
      have p := c_dic1 (pos := by assumption) (sE a K X Wx _ g y tk h.1).1 (sE b K X Wx _ g y tk h.2).1
      exact ⟨p, t_of p fun _ => rfl⟩
    · cases h
  | .get d a b, K, X, Wx, e, g, y, tk, h => by
    unfold kE at h
    split at h
    · simp only [Bool.and_eq_true, decide_eq_true_eq] at h
      obtain ⟨⟨⟨⟨⟨⟨⟨rfl, h2⟩, h3⟩, h4⟩, h5⟩, h6⟩, h7⟩, h8⟩ := h
      rename_i ed apos ea eb cpos
      have e1 := star_one (es := [eb]) (env := X.env) h3
      have e2 := star_one (es := []) (env := X.env) h4
      have p : PE X (.Call (.Attribute ed "get" apos) [ea, eb] [] cpos) (TB G xf Wx C (.get d a b)) := c_get g.un (sE d K X Wx _ g y tk h6).1 (sE a K X Wx _ g y tk h7).1 (sE b K X Wx _ g y tk h8).1
        ⟨plain_of h2, by rw [e1, e2]; rfl, h5, by rw [e1, e2]; rfl⟩
      exact ⟨p, t_of p fun _ => rfl⟩
    · cases h
  | .lrng a, K, X, Wx, e, g, y, tk, h => by
    unfold kE at h
    split at h
    · simp only [Bool.and_eq_true, decide_eq_true_eq] at h
      obtain ⟨⟨⟨⟨⟨rfl, rfl⟩, h3⟩, h4⟩, h5⟩, h6⟩ := h
      obtain ⟨b1, b2⟩ := bl_of y g h3
      obtain ⟨b3, b4⟩ := bl_of y g h4
      exact ⟨c_lrng g.calm b1 b2 b3 b4 (sE a K X Wx _ g y tk h6).1 (star_one h5), t_of (c_lrng g.calm b1 b2 b3 b4 (sE a K X Wx _ g y tk h6).1 (star_one h5)) fun _ => rfl⟩
    · cases h
  | .bad, K, X, Wx, e, g, y, tk, h => ⟨c_bad, t_bad⟩
theorem sEs : ∀ (xs : Xs) (K : Ck) (Xc : Cx) (Wx : L2.WX) (es : List Expr), Gd G xf C K Xc → Sy K Xc → Takes Xc Wx → kEs xs K es = true → PA Xc es (TS' G xf Wx C xs) ∧ xs.len = es.length
  | .nil, K, X, Wx, es, g, y, tk, h => by
    unfold kEs at h
    cases es with
    | nil => exact ⟨c_nil, rfl⟩
    | cons e es => cases h
  | .cons x r, K, X, Wx, es, g, y, tk, h => by
    unfold kEs at h
    split at h
    · simp only [Bool.and_eq_true] at h
      obtain ⟨⟨h1, h2⟩, h3⟩ := h
      obtain ⟨q1, q2⟩ := sEs r K X Wx _ g y tk h3
      exact ⟨c_cons (sE x K X Wx _ g y tk h2).1 q1 (star_one h1), by rw [Xs.len, q2]; rfl⟩
    · cases h
theorem sBs : ∀ (xs : Xs) (K : Ck) (Xc : Cx) (Wx : L2.WX) (es : List Expr) (pos : Pos), Gd G xf C K Xc → Sy K Xc → Takes Xc Wx → kBs xs K es = true →
    (PE Xc (.BoolOp .And es pos) (TAnd G xf Wx C xs) ∧ PW Xc (.BoolOp .And es pos) (TAndT G xf Wx C xs)) ∧ (PE Xc (.BoolOp .Or es pos) (TOr G xf Wx C xs) ∧ PW Xc (.BoolOp .Or es pos) (TOrT G xf Wx C xs))
  | .nil, K, X, Wx, es, pos, g, y, tk, h => by unfold kBs at h; cases h
  | .cons x .nil, K, X, Wx, es, pos, g, y, tk, h => by
    unfold kBs at h
    split at h
    · obtain ⟨h1, h2⟩ := sE x K X Wx _ g y tk h
      exact ⟨⟨and_one h1, and_oneT h2⟩, or_one h1, or_oneT h2⟩
    · cases h
  | .cons x (.cons z r), K, X, Wx, es, pos, g, y, tk, h => by
    unfold kBs at h
    split at h
    · rw [Bool.and_eq_true] at h
      obtain ⟨h1, h2⟩ := sE x K X Wx _ g y tk h.1
      obtain ⟨⟨q1, q2⟩, q3, q4⟩ := sBs (.cons z r) K X Wx _ pos g y tk h.2
      exact ⟨⟨and_cons h1 q1, and_consT h2 q2⟩, or_cons h1 q3, or_consT h2 q4⟩
    · cases h
theorem sO : ∀ (x : Xo) (K : Ck) (Xc : Cx) (Wx : L2.WX) (e : Option Expr), Gd G xf C K Xc → Sy K Xc → Takes Xc Wx → kO x K e = true → PO Xc e (TO' G xf Wx C x)
  | .no, K, X, Wx, e, g, y, tk, h => by
    unfold kO at h
    cases e with
    | none => exact po_no
    | some e => cases h
  | .so x, K, X, Wx, e, g, y, tk, h => by
    unfold kO at h
    split at h
    · exact po_so (sE x K X Wx _ g y tk h).1
    · cases h
theorem sC : ∀ (x : Xo) (K : Ck) (Xc : Cx) (es : List Expr), Gd G xf C K Xc → Sy K Xc → Takes Xc (fun _ _ _ _ => False) → kC x K es = true → PTs Xc es (TTc G xf C x)
  | .no, K, X, es, g, y, tk, h => by
    unfold kC at h
    cases es with
    | nil => exact pts_no
    | cons e es => cases h
  | .so x, K, X, es, g, y, tk, h => by
    unfold kC at h
    split at h
    · exact pts_so (sE x K X _ _ g y tk h).2
    · cases h
theorem sI : ∀ (x : It) (K : Ck) (Xc : Cx) (Wx : L2.WX) (tg e : Expr), Gd G xf C K Xc → Sy K Xc → Takes Xc Wx → kI x K tg e = true → PI Xc tg e (TI' G xf Wx C x)
  | .x a, K, X, Wx, tg, e, g, y, tk, h => by
    unfold kI at h
    exact i_x g.hK (sE a K X Wx _ g y tk h).1
  | .rng xs, K, X, Wx, tg, e, g, y, tk, h => by
    unfold kI at h
    split at h
    · simp only [Bool.and_eq_true, decide_eq_true_eq] at h
      obtain ⟨⟨rfl, h2⟩, h3⟩ := h
      obtain ⟨b1, b2⟩ := bl_of y g h2
      obtain ⟨q1, q2⟩ := sEs xs K X Wx _ g y tk h3
      have ns := nost_all xs _ h3
      simp only [List.all_cons, List.all_nil, Bool.and_true] at ns
      exact i_rng1 b1 b2 q1 (star_one ns) q2
    · simp only [Bool.and_eq_true, decide_eq_true_eq] at h
      obtain ⟨⟨rfl, h2⟩, h3⟩ := h
      obtain ⟨b1, b2⟩ := bl_of y g h2
      obtain ⟨q1, q2⟩ := sEs xs K X Wx _ g y tk h3
      have ns := nost_all xs _ h3
      simp only [List.all_cons, List.all_nil, Bool.and_true, Bool.and_eq_true] at ns
      exact i_rng2 b1 b2 q1 (by rw [star_one ns.1, star_one ns.2]; rfl) (by rw [star_one ns.2]; rfl) q2
    · cases h
  | .enum xs, K, X, Wx, tg, e, g, y, tk, h => by
    unfold kI at h
    split at h
    · simp only [Bool.and_eq_true, decide_eq_true_eq] at h
      obtain ⟨⟨rfl, h2⟩, h3⟩ := h
      obtain ⟨b1, b2⟩ := bl_of y g h2
      obtain ⟨q1, q2⟩ := sEs xs K X Wx _ g y tk h3
      have ns := nost_all xs _ h3
      simp only [List.all_cons, List.all_nil, Bool.and_true] at ns
      exact i_enum g.hK b1 b2 q1 (star_one ns) q2
    · cases h
  | .zip xs, K, X, Wx, tg, e, g, y, tk, h => by
    unfold kI at h
    split at h
    · simp only [Bool.and_eq_true, decide_eq_true_eq] at h
      obtain ⟨⟨rfl, h2⟩, h3⟩ := h
      obtain ⟨b1, b2⟩ := bl_of y g h2
      obtain ⟨q1, q2⟩ := sEs xs K X Wx _ g y tk h3
      have ns := nost_all xs _ h3
      have ns2 := ns
      simp only [List.all_cons, List.all_nil, Bool.and_true, Bool.and_eq_true] at ns
      exact i_zip g.hK b1 b2 q1 (star_one ns.1) (back_one _ (by simp [ns.2])) q2
    · cases h
end
end
end Ev

set_option maxRecDepth 100000
set_option maxHeartbeats 4000000
namespace Ev
open PySem PySem.Spec PyProof.Rows L2

/-- a term that makes a new container -/
def freshB : B1 → Bool
  | .list => true | _ => false
def freshO : Bo → Bool
  | .add => true | .mul => true | _ => false
def freshX : X → Bool
  | .lst _ => true | .dict0 => true | .b1 b _ => freshB b | .bin o _ _ => freshO o | .lc _ _ _ _ _ => true | .lrng _ => true | _ => false
def isLC : Expr → Bool
  | .ListComp _ _ _ _ => true | .SetComp _ _ _ _ => true | .DictComp _ _ _ _ _ => true | _ => false
section
variable {G : GG} {xf : Nat → Option Str} {C : Cfg}
/-- the parts of a comprehension -/
structure LcP (G : GG) (xf : Nat → Option Str) (C : Cfg) (X : Cx) (Wx : L2.WX) (x : Ev.X) (gt : Tg) (it : Ev.It) (c : Xo) (vs : List Nat) (elt tg iter : Expr) (ifs : List Expr) (scope : Scope) : Prop where
  ok : ∃ own : List (Str × Nat), own.map (·.2) = vs ∧ BlkOk X.N X.env.scope scope own
  nd : X.N.Nodup
  hi : PI X tg iter (TI' G xf Wx C it)
  hsl : ∀ i ∈ tgSl gt, i ∈ vs
  hg : C.hot = false → ∀ (s : Shared) (H : Hp) (Ca : Addr) (cl : List (Str × Addr)) (fp : List Addr), PG (X.blk s H scope (compEnvC scope cl Ca X.env) fp) tg (TGt G gt)
  ht : ∀ (s : Shared) (H : Hp) (Ca : Addr) (cl : List (Str × Addr)) (fp : List Addr), PTs (X.blk s H scope (compEnvC scope cl Ca X.env) fp) ifs (TTc G xf C c)
  he : ∀ (s : Shared) (H : Hp) (Ca : Addr) (cl : List (Str × Addr)) (fp : List Addr), PE (X.blk s H scope (compEnvC scope cl Ca X.env) fp) elt (TB G xf (fun _ _ _ _ => False) C x)
  hs : ∀ z, foldedSetIterable iter X.env z = pure z
theorem lc_parts {x : Ev.X} {gt : Tg} {it : Ev.It} {c : Xo} {vs : List Nat} {K : Ck} {X : Cx} {Wx : L2.WX} {e : Expr} (g : Gd G xf C K X) (y : Sy K X) (tk : Takes X Wx) (h : kE (.lc x gt it c vs) K e = true) :
    ∃ elt tg iter ifs scope pos, e = .ListComp elt [⟨tg, iter, ifs, 0⟩] scope pos ∧ LcP G xf C X Wx x gt it c vs elt tg iter ifs scope := by
  unfold kE at h
  split at h
  · simp only [Bool.and_eq_true, decide_eq_true_eq] at h
    obtain ⟨⟨⟨⟨⟨⟨⟨h1, h2⟩, h3⟩, h4⟩, h5⟩, h6⟩, h7⟩, h8⟩ := h
    rename_i elt tg iter ifs scope pos
    have ok := blkOk_by h1
    rw [← y.N, ← y.sc] at ok
    have hv : (ownB X.N vs).map (·.2) = vs := by rw [y.N]; exact h2
    refine ⟨elt, tg, iter, ifs, scope, pos, rfl, ⟨⟨_, hv, ok⟩, by rw [y.N]; exact y.nd, sI it K X Wx tg iter g y tk h5, fun i hi => by simpa using List.all_eq_true.mp h3 i hi, fun hh s H Ca cl fp => ?_, fun s H Ca cl fp => ?_, fun s H Ca cl fp => ?_, fun z => ?_⟩⟩
    · exact sTg (K := K.blk scope) (X := X.blk s H scope (compEnvC scope cl Ca X.env) fp) g.hK (g.calm hh) y.blk gt tg h6
    · exact sC c (K.blk scope) _ ifs g.blk y.blk takes0 h7
    · exact (sE x (K.blk scope) _ _ elt g.blk y.blk takes0 h8).1
    · cases iter <;> first | rfl | cases h4
  · cases h
theorem f_lc {x : Ev.X} {gt : Tg} {it : Ev.It} {c : Xo} {vs : List Nat} {X : Cx} {Wx : L2.WX} {elt tg iter : Expr} {ifs : List Expr} {scope : Scope} {pos : Pos} (hh : C.hot = false) (hc : X.calm = true) (P : LcP G xf C X Wx x gt it c vs elt tg iter ifs scope) :
    PE X (.ListComp elt [⟨tg, iter, ifs, 0⟩] scope pos) (TF G xf Wx C (.lc x gt it c vs)) := by
  obtain ⟨own, rfl, ok⟩ := P.ok
  exact pe_weak (pe_lc hc P.nd P.hi ok (P.hg hh) P.ht (fun s H Ca cl fp => tn_of (P.he s H Ca cl fp)) P.hs) fun σ H Q h => lc_weakF hh P.hsl h
theorem sF (x : X) (K : Ck) (Xc : Cx) (Wx : L2.WX) (e : Expr) (hh : C.hot = false) (g : Gd G xf C K Xc) (y : Sy K Xc) (tk : Takes Xc Wx) (hf : freshX x = true) (h : kE x K e = true) : PE Xc e (TF G xf Wx C x) := by
  cases x
  case lst xs =>
    unfold kE at h
    split at h
    · exact f_lst (sEs xs K Xc Wx _ g y tk h).1
    · cases h
  case dict0 =>
    unfold kE at h
    split at h
    · exact f_dict0
    · cases h
  case b1 b a =>
    cases b
    case list =>
      unfold kE at h
      split at h
      · simp only [Bool.and_eq_true, Bool.or_eq_true] at h
        obtain ⟨⟨⟨h1, h2⟩, h3⟩, h4⟩ := h
        simp only [B1.at, Bool.and_eq_true, decide_eq_true_eq] at h1
        obtain ⟨rfl, h5⟩ := h1
        obtain ⟨b1, b2⟩ := bl_of y g h5
        exact f_list g.hK b1 b2 (sE a K Xc Wx _ g y tk h4).1 (star_one h3)
      · cases h
    all_goals exact absurd hf (by simp [freshX, freshB])
  case bin o a b =>
    unfold kE at h
    split at h
    · simp only [Bool.and_eq_true, decide_eq_true_eq] at h
      obtain ⟨⟨rfl, h2⟩, h3⟩ := h
      have pa := (sE a K Xc Wx _ g y tk h2).1
      have pb := (sE b K Xc Wx _ g y tk h3).1
      cases o
      case add => exact f_add g.hK pa pb
      case mul => exact f_mul g.hK pa pb
      all_goals exact absurd hf (by simp [freshX, freshO])
    · cases h
  case lc x gt it c vs =>
    obtain ⟨elt, tg, iter, ifs, scope, pos, rfl, P⟩ := lc_parts g y tk h
    exact f_lc hh (g.calm hh) P
  case lrng a =>
    unfold kE at h
    split at h
    · simp only [Bool.and_eq_true, decide_eq_true_eq] at h
      obtain ⟨⟨⟨⟨⟨rfl, rfl⟩, h3⟩, h4⟩, h5⟩, h6⟩ := h
      obtain ⟨b1, b2⟩ := bl_of y g h3
      obtain ⟨b3, b4⟩ := bl_of y g h4
      exact f_lrng g.calm b1 b2 b3 b4 (sE a K Xc Wx _ g y tk h6).1 (star_one h5)
    · cases h
  all_goals exact absurd hf (by simp [freshX])
end
end Ev

set_option maxRecDepth 100000
set_option maxHeartbeats 4000000
namespace Ev
open PySem PySem.Spec PyProof.Rows L2

/-- two or three names stored at once -/
def swNames (K : Ck) (ts vs : List Expr) : Option (List Str) :=
  if ts.length == vs.length && vs.all noSt && !(vs.all (foldedForSure 8)) && !(vs.all (constantsAlone 8)) then
    (match ts with
    | [.Name x p, .Name y q] => if p.line == q.line && decide (K.sc.names.lookup x = some .local) && decide (K.sc.names.lookup y = some .local) && !(x == y) then some [x, y] else none
    | [.Name x p, .Name y q, .Name z r] => if p.line == q.line && p.line == r.line && decide (K.sc.names.lookup x = some .local) && decide (K.sc.names.lookup y = some .local) && decide (K.sc.names.lookup z = some .local) && !(x == y) && !(x == z) && !(y == z) then some [x, y, z] else none
    | _ => none)
  else none
def kNames (K : Ck) : List Nat → List Expr → Bool
  | [], es => es.isEmpty
  | i :: r, es => (match es with | .Name x _ :: es => atN K i x && locB K x && kNames K r es | _ => false)
/-- a name among them that is not plainly local: no swap -/
def anyCell (K : Ck) (es : List Expr) : Bool := es.any fun e => match e with | .Name x _ => !decide (K.sc.names.lookup x = some .local) | _ => true
def kM : List Bool → Xs → Ck → List Expr → Bool
  | [], .nil, _, [] => true
  | o :: os, .cons x r, K, e :: es => noSt e && kE x K e && (!o || (freshX x && !K.hot)) && kM os r K es
  | _, _, _, _ => false
def lcX : X → Bool
  | .lc _ _ _ _ _ => true | _ => false
def isMeth (K : Ck) (i : Nat) (m : Str) (e : Expr) : Option (List Expr) := match e with
  | .Call (.Attribute (.Name x _) n apos) as [] cpos => if decide (n = m) && atN K i x && visB K x && (apos.endLine == cpos.line) then some as else none
  | _ => none
def kS0 (K : Ck) : S → Stmt → Bool
  | .set i x o, st => (match st with | .Assign [.Name y _] e _ => atN K i y && locB K y && kE x K e && (!o || (freshX x && !K.hot)) && (!isLC e || (lcX x && !K.hot)) | _ => false)
  | .setG t x, st => (match st with | .Assign [.Tuple es k p] e _ => kTg K t (.Tuple es k p) && kE x K e && (match e with | .Tuple vs _ _ => decide (4 ≤ es.length) || vs.all (foldedForSure 8) | _ => true) | _ => false)
  | .par ts xs, st => (match st with | .Assign [.Tuple es _ _] (.Tuple vs _ _) _ => (match swNames K es vs with | some ns => decide (ts.length = ns.length) && (List.range ns.length).all (fun n => match ts[n]?, ns[n]? with | some (i, _), some x => atN K i x | _, _ => false) && decide ((ts.map (·.1)).Nodup) && kM (ts.map (·.2)) xs K vs && !K.hot | none => kNames K (ts.map (·.1)) es && anyCell K es && decide (ts.length ≤ 10) && kM (ts.map (·.2)) xs K vs && !K.hot) | _ => false)
  | .stx i k x, st => (match st with | .Assign [.Subscript (.Name y _) ek _] e _ => atN K i y && visB K y && kE k K ek && kE x K e | _ => false)
  | .stf i f x, st => (match st with | .Assign [.Attribute (.Name y _) g _] e _ => atN K i y && visB K y && decide (g = f) && K.fds.contains f && kE x K e | _ => false)
  | .app i xs, st => (match st with | .Expr e _ => (match isMeth K i "append" e with | some as => kEs xs K as && decide (as.length = 1) | none => false) | _ => false)
  | .ext i xs, st => (match st with | .Expr e _ => (match isMeth K i "extend" e with | some as => kEs xs K as && decide (as.length = 1) | none => false) | _ => false)
  | .popx i xs, st => (match st with | .Expr e _ => (match isMeth K i "pop" e with | some as => kEs xs K as && decide (as.length = 1) | none => false) | _ => false)
  | .pop j i, st => (match st with | .Assign [.Name y _] e _ => atN K j y && locB K y && (match isMeth K i "pop" e with | some as => as.isEmpty | none => false) | _ => false)
  | .popat j i xs, st => (match st with | .Assign [.Name y _] e _ => atN K j y && locB K y && (match isMeth K i "pop" e with | some as => kEs xs K as && decide (as.length = 1) | none => false) | _ => false)
  | .apppop l i xs, st => (match st with | .Expr e _ => (match isMeth K l "append" e with | some [a] => (match isMeth K i "pop" a with | some as => kEs xs K as && decide (as.length = 1) | none => false) | _ => false) | _ => false)
  | .ex x, st => (match st with | .Expr e _ => kE x K e && !isLC e | _ => false)
  | .ret x, st => (match st with | .Return (some e) _ => kE x K e | .Return none _ => (match x with | .k .non => true | _ => false) | _ => false)
  | .retc x, st => (match st with | .Return (some e) _ => kE x K e && freshX x && !K.hot | _ => false)
  | .brk, st => (match st with | .Break _ => true | _ => false)
  | .cnt, st => (match st with | .Continue _ => true | _ => false)
  | .pas, st => (match st with | .Pass _ => true | .Expr (.Constant (.str _) _ _) _ => true | _ => false)
  | .bad, _ => true
  | _, _ => false
mutual
def kS : S → Ck → Stmt → Bool
  | .iff c a b, K, st => (match st with | .If ec sa sb _ => kE c K ec && kSs a K sa && kSs b K sb | _ => false)
  | .whl c b, K, st => (match st with | .While ec sb [] _ => kE c K ec && kSs b K sb | _ => false)
  | .for t it b, K, st => (match st with | .For tg iter sb [] _ => noSet iter && kTg K t tg && kI it K tg iter && kSs b K sb | _ => false)
  | .frz _ s, K, st => kS s K st
  | .tri _ _, _, _ => false
  | s, K, st => kS0 K s st
def kSs : Ss → Ck → List Stmt → Bool
  | .nil, _, sts => sts.isEmpty
  | .cons s r, K, sts => (match sts with | st :: sts => kS s K st && kSs r K sts | _ => false)
end
section
variable {G : GG} {xf : Nat → Option Str} {C : Cfg}
theorem swaps_no {e : Expr} {t : Option Expr} {n : Nat} {env : PySem.Env} (h : isLC e = false) : swapsWith e t n env = pure false := by
  cases e <;> first | rfl | cases h
/-- name = value, the value any term -/
theorem set_any {x : Ev.X} {K : Ck} {X : Cx} {Wx : L2.WX} {e : Expr} {i : Nat} {z : Str} {py spos : Pos} (g : Gd G xf C K X) (y : Sy K X) (tk : Takes X Wx) (hi : atN K i z = true) (hl : locB K z = true) (h : kE x K e = true) (hh : isLC e = false ∨ (lcX x = true ∧ K.hot = false)) :
    PS X (.Assign [.Name z py] e spos) (TSt G xf Wx C (.set i x false)) ∧ (freshX x = true → K.hot = false → PS X (.Assign [.Name z py] e spos) (TSt G xf Wx C (.set i x true))) := by
  obtain ⟨l1, l2⟩ := loc_of y hl
  have hN := at_of y hi
  have nd : X.N.Nodup := by rw [y.N]; exact y.nd
  by_cases hc : isLC e = false
  · exact ⟨s_set (ps_set nd hN l1 (tn_of (sE x K X Wx e g y tk h).1) (swaps_no hc) l2), fun hf hk => s_own (ps_set nd hN l1 (sF x K X Wx e (g.hot2 hk) g y tk hf h) (swaps_no hc) l2)⟩
  · obtain ⟨hlx, hk⟩ := hh.resolve_left hc
    have hot := g.hot2 hk
    have hx : ∃ a b c d f, x = .lc a b c d f := by
      cases x <;> first | exact ⟨_, _, _, _, _, rfl⟩ | cases hlx
    obtain ⟨a, b, c, d, f, rfl⟩ := hx
    obtain ⟨elt, tg, iter, ifs, scope, pos, rfl, P⟩ := lc_parts g y tk h
    obtain ⟨own, rfl, ok⟩ := P.ok
    have sw : swapsWith (.ListComp elt [⟨tg, iter, ifs, 0⟩] scope pos) (some (.Name z py)) spos.line X.env = pure (X.env.blockKind == .function && X.env.kindOf z == some .local && py.line == (Expr.ListComp elt [⟨tg, iter, ifs, 0⟩] scope pos).pos.line && !(scope.names.any fun (n, k) => n == z && (k == .local || k == .cell))) := rfl
    cases hb : (X.env.blockKind == .function && X.env.kindOf z == some .local && py.line == (Expr.ListComp elt [⟨tg, iter, ifs, 0⟩] scope pos).pos.line && !(scope.names.any fun (n, k) => n == z && (k == .local || k == .cell))) with
    | false =>
      rw [hb] at sw
      exact ⟨s_set (ps_set nd hN l1 (tn_of (sE _ K X Wx _ g y tk h).1) sw l2), fun hf hk => s_own (ps_set nd hN l1 (sF _ K X Wx _ hot g y tk hf h) sw l2)⟩
    | true =>
      rw [hb] at sw
      simp only [Bool.and_eq_true] at hb
      have hy : X.env.scope.names.lookup z = some .local := by
        have := hb.1.1.2
        exact eq_of_beq this
      have base := ps_setLc (i := i) (py := py) (spos := spos) (pos := pos) (g.calm hot) nd hN hy sw P.hi ok (P.hg hot) P.ht (fun s H Ca cl fp => tn_of (P.he s H Ca cl fp)) P.hs
      refine ⟨s_set (ps_weak base fun D σ H q => ?_), fun _ _ => s_own (ps_weak base fun D σ H q => ?_)⟩
      · refine lc_weak hot P.hsl (Q := fun x H1 => gName i x σ H1 D.nx) ?_
        obtain ⟨m, e, w, r, q⟩ := q
        exact ⟨m, e, w, r, (PostE.rx rfl).mpr q⟩
      · exact lc_weakF hot P.hsl (Q := fun x H1 => gName i x σ H1 D.nx) q
end
end Ev

set_option maxRecDepth 100000
set_option maxHeartbeats 4000000
namespace Ev
open PySem PySem.Spec PyProof.Rows L2

section
variable {G : GG} {xf : Nat → Option Str} {C : Cfg} {K : Ck} {X : Cx} {Wx : L2.WX}
theorem kM_sound (g : Gd G xf C K X) (y : Sy K X) (tk : Takes X Wx) : ∀ (os : List Bool) (xs : Xs) (es : List Expr), kM os xs K es = true → PA X es (TM G xf Wx C os xs)
  | [], xs, es, h => by
    cases xs with
    | nil =>
      cases es with
      | nil => exact m_nil
      | cons e es => cases h
    | cons x r => cases h
  | o :: os, xs, es, h => by
    cases xs with
    | nil => cases h
    | cons x r =>
      cases es with
      | nil => cases h
      | cons e es =>
        simp only [kM, Bool.and_eq_true, Bool.or_eq_true] at h
        obtain ⟨⟨⟨h1, h2⟩, h3⟩, h4⟩ := h
        have ih := kM_sound g y tk os r es h4
        cases o with
        | false => exact m_val (sE x K X Wx e g y tk h2).1 ih (star_one h1)
        | true =>
          have h5 : freshX x = true ∧ (!K.hot) = true := by simpa using h3
          exact m_own (sF x K X Wx e (g.hot2 (by simpa using h5.2)) g y tk h5.1 h2) ih (star_one h1)
theorem noStar_any : ∀ {vs : List Expr}, vs.all noSt = true → (vs.any fun | .Starred .. => true | _ => false) = false
  | [], _ => rfl
  | v :: vs, h => by
    rw [List.all_cons, Bool.and_eq_true] at h
    rw [List.any_cons, noStar_any h.2]
    cases v <;> first | rfl | cases h.1
theorem ne_of_beq0 {x y : Str} (h : (x == y) = false) : x ≠ y := by simpa using h
theorem sw2 {x z : Str} {p q : Pos} {vs : List Expr} {k k2 : Nat} {pt pt2 : Pos} {env : PySem.Env} (hk : env.blockKind = .function) (hl : vs.length = 2) (h1 : vs.all noSt = true) (h2 : vs.all (foldedForSure 8) = false) (h3 : vs.all (constantsAlone 8) = false)
    (hp : (p.line == q.line) = true) (hx : env.kindOf x = some .local) (hz : env.kindOf z = some .local) (hne : x ≠ z) : swappedStores [.Tuple [.Name x p, .Name z q] k pt] (.Tuple vs k2 pt2) env = pure (some [x, z]) := by
  have hp' : q.line = p.line := (eq_of_beq hp).symm
  unfold swappedStores
  have hd : ([x, z] : List Str).eraseDups = [x, z] := by
    simp [List.eraseDups_cons, Ne.symm hne]
  simp [hk, hl, h2, h3, hx, hz, hp', hd, Expr.pos]
  intro a ha hm
  have := List.all_eq_true.mp h1 a ha
  cases a <;> first | (simp [noSt] at this; done) | (simp at hm; done)
theorem sw3 {x z u : Str} {p q r : Pos} {vs : List Expr} {k k2 : Nat} {pt pt2 : Pos} {env : PySem.Env} (hk : env.blockKind = .function) (hl : vs.length = 3) (h1 : vs.all noSt = true) (h2 : vs.all (foldedForSure 8) = false) (h3 : vs.all (constantsAlone 8) = false)
    (hp : (p.line == q.line) = true) (hp2 : (p.line == r.line) = true) (hx : env.kindOf x = some .local) (hz : env.kindOf z = some .local) (hu : env.kindOf u = some .local) (hne : x ≠ z) (hne2 : x ≠ u) (hne3 : z ≠ u) : swappedStores [.Tuple [.Name x p, .Name z q, .Name u r] k pt] (.Tuple vs k2 pt2) env = pure (some [x, z, u]) := by
  have hp' : q.line = p.line := (eq_of_beq hp).symm
  have hp2' : r.line = p.line := (eq_of_beq hp2).symm
  unfold swappedStores
  have hd : ([x, z, u] : List Str).eraseDups = [x, z, u] := by
    simp [List.eraseDups_cons, Ne.symm hne, Ne.symm hne2, Ne.symm hne3]
  simp [hk, hl, h2, h3, hx, hz, hu, hp', hp2', hd, Expr.pos]
  intro a ha hm
  have := List.all_eq_true.mp h1 a ha
  cases a <;> first | (simp [noSt] at this; done) | (simp at hm; done)
theorem meth_of (y : Sy K X) {i : Nat} {m : Str} {e : Expr} {as : List Expr} (h : isMeth K i m e = some as) : ∃ x px apos cpos, e = .Call (.Attribute (.Name x px) m apos) as [] cpos ∧ X.N[i]? = some x ∧ Vis X.env.scope x ∧ (x == ("__debug__" : Str)) = false ∧ (x == ("__classdict__" : Str)) = false ∧ (apos.endLine == cpos.line) = true := by
  unfold isMeth at h
  split at h
  · split at h
    · rename_i hh
      simp only [Bool.and_eq_true, decide_eq_true_eq] at hh
      obtain ⟨⟨⟨rfl, h2⟩, h3⟩, h4⟩ := hh
      cases h
      obtain ⟨v1, v2, v3⟩ := vis_of y h3
      exact ⟨_, _, _, _, rfl, at_of y h2, v1, v2, v3, h4⟩
    · cases h
  · cases h
theorem meth_c {i : Nat} {x m : Str} {ea : Expr} {px apos cpos : Pos} (h1 : X.N[i]? = some x) (h2 : Vis X.env.scope x) (h3 : (x == ("__debug__" : Str)) = false) (h4 : (x == ("__classdict__" : Str)) = false) (h5 : (apos.endLine == cpos.line) = true) (ns : noSt ea = true) : MethC X i x px m ea apos cpos :=
  ⟨h1, h2, h3, h4, rfl, by rw [star_one ns]; rfl, h5, star_one ns⟩
theorem one_of {as : List Expr} (h : as.length = 1) : ∃ a, as = [a] := by
  match as, h with
  | [a], _ => exact ⟨a, rfl⟩
theorem nost1 {xs : Xs} {a : Expr} (h : kEs xs K [a] = true) : noSt a = true := by
  have := nost_all xs _ h
  simpa using this
theorem kNames_sound {K : Ck} {X : Cx} (y : Sy K X) : ∀ (is : List Nat) (es : List Expr), kNames K is es = true → PGs X es (gNames is) ∧ (assignEach es X.env).length = is.length ∧ (assignEach es X.env).findIdx? (·.1) = none
  | [], es, h => by
    unfold kNames at h
    cases es with
    | nil => exact ⟨pgs_nil, rfl, rfl⟩
    | cons e es => cases h
  | i :: is, es, h => by
    unfold kNames at h
    split at h
    · simp only [Bool.and_eq_true] at h
      obtain ⟨n1, n2, n3⟩ := kNames_sound y is _ h.2
      obtain ⟨l1, l2⟩ := loc_of y h.1.2
      rename_i x p es'
      have e1 := asg_one (ea := .Name x p) (es := es') (env := X.env) rfl
      refine ⟨pgs_cons (pg_name (by rw [y.N]; exact y.nd) (at_of y h.1.1) l1 l2) n1 (by rw [e1]; rfl), by rw [e1, List.length_cons, n2]; rfl, ?_⟩
      rw [e1, List.findIdx?_cons, n3]
      rfl
    · cases h
theorem swap_none {K : Ck} {X : Cx} (y : Sy K X) {es vs : List Expr} {k k2 : Nat} {p p2 : Pos} (h : anyCell K es = true) : swappedStores [.Tuple es k p] (.Tuple vs k2 p2) X.env = pure none := by
  unfold anyCell at h
  obtain ⟨e, he, hc⟩ := List.any_eq_true.mp h
  have short : ∀ line : Nat, (es.filterMap fun | .Name id pos => if X.env.kindOf id == some .local && pos.line == line then some id else none | _ => none).length ≠ es.length := fun line z => by
    have q := List.filterMap_length_eq_length.mp z e he
    cases e with
    | Name x pos =>
      dsimp only at hc q
      have k : X.env.kindOf x = K.sc.names.lookup x := by unfold PySem.Env.kindOf; rw [y.sc]
      rw [k] at q
      simp only [Bool.not_eq_true', decide_eq_false_iff_not] at hc
      have : (K.sc.names.lookup x == some NameKind.local) = false := by simpa using hc
      rw [this] at q
      simp at q
    | _ => simp at q
  unfold swappedStores
  dsimp only
  split
  · rfl
  · split
    · rfl
    · split
      · rfl
      · rename_i z
        exact (z (by rw [Bool.or_eq_true]; exact .inl (bne_iff_ne.mpr (short _)))).elim
theorem sS0 (hfk : X.env.blockKind = .function) (g : Gd G xf C K X) (y : Sy K X) (tk : Takes X Wx) : ∀ (s : S) (st : Stmt), kS0 K s st = true → PS X st (TSt G xf Wx C s) := by
  intro s st h
  have nd : X.N.Nodup := by rw [y.N]; exact y.nd
  cases s
  case set i x o =>
    simp only [kS0] at h
    split at h
    · simp only [Bool.and_eq_true, Bool.or_eq_true] at h
      obtain ⟨⟨⟨⟨h1, h2⟩, h3⟩, h4⟩, h5⟩ := h
      obtain ⟨q1, q2⟩ := set_any g y tk h1 h2 h3 (h5.imp (fun q => by simpa using q) (fun q => by simpa using q))
      cases o with
      | false => exact q1
      | true =>
        have h6 : freshX x = true ∧ K.hot = false := by simpa using h4
        exact q2 h6.1 h6.2
    · cases h
  case setG t x =>
    simp only [kS0] at h
    split at h
    · rename_i es k p e pos
      simp only [Bool.and_eq_true] at h
      obtain ⟨⟨h1, h2⟩, h3⟩ := h
      refine s_setG (fun hh => sTg g.hK (g.calm hh) y t _ h1) (sE x K X Wx _ g y tk h2).1 (by cases e <;> rfl) ?_ rfl
      cases e <;> first | rfl | skip
      rename_i vs k2 p2
      simp only [Bool.or_eq_true, decide_eq_true_eq] at h3
      unfold swappedStores
      rcases h3 with h3 | h3
      · have e2 : (es.length == 2) = false := by simp; omega
        have e3 : (es.length == 3) = false := by simp; omega
        simp [e2, e3]
      · dsimp only
        repeat' split
        all_goals first | rfl | (simp [h3]; done) | skip
    · cases h
  case par ts xs =>
    simp only [kS0] at h
    split at h
    · rename_i es k p vs k2 p2 pos
      cases hn : swNames K es vs with
      | none =>
        rw [hn] at h
        simp only [Bool.and_eq_true, decide_eq_true_eq] at h
        obtain ⟨⟨⟨⟨h1, h2⟩, h3⟩, h4⟩, h5⟩ := h
        have hh := g.calm2 (by simpa using h5)
        have pm := kM_sound g y tk _ xs vs h4
        obtain ⟨n1, n2, n3⟩ := kNames_sound y _ _ h1
        exact s_parT (fun _ => hh) n1 (by rw [n2, List.length_map]) n3 h3 pm (swap_none y h2)
      | some ns =>
        rw [hn] at h
        simp only [Bool.and_eq_true, decide_eq_true_eq] at h
        obtain ⟨⟨⟨⟨h1, h2⟩, h3⟩, h4⟩, h5⟩ := h
        have hh := g.calm2 (by simpa using h5)
        have pm := kM_sound g y tk _ xs vs h4
        unfold swNames at hn
        split at hn
        · rename_i hc
          simp only [Bool.and_eq_true, Bool.not_eq_true'] at hc
          obtain ⟨⟨⟨c1, c2⟩, c3⟩, c4⟩ := hc
          have c1 := eq_of_beq c1
          split at hn
          · split at hn
            · rename_i hd
              simp only [Bool.and_eq_true, decide_eq_true_eq, Bool.not_eq_true'] at hd
              obtain ⟨⟨⟨d1, d2⟩, d3⟩, d4⟩ := hd
              cases hn
              match ts, h1, pm, h2, h3 with
              | [(i, oi), (j, oj)], _, pm, h2, h3 =>
                match vs, c1, c2, c3, c4, pm with
                | [va, vb], c1, c2, c3, c4, pm =>
                  have a1 := List.all_eq_true.mp h2 0 (by simp)
                  have a2 := List.all_eq_true.mp h2 1 (by simp)
                  have hne := ne_of_beq0 d4
                  rw [← y.sc] at d2 d3
                  exact s_par2 (fun _ => hh) nd (at_of y a1) (at_of y a2) (by simpa using h3) d2 d3 pm (sw2 hfk rfl c2 c3 c4 d1 d2 d3 hne)
            · cases hn
          · split at hn
            · rename_i hd
              simp only [Bool.and_eq_true, decide_eq_true_eq, Bool.not_eq_true'] at hd
              obtain ⟨⟨⟨⟨⟨⟨⟨d1, d1'⟩, d2⟩, d3⟩, d4⟩, d5⟩, d6⟩, d7⟩ := hd
              cases hn
              match ts, h1, pm, h2, h3 with
              | [(i, oi), (j, oj), (l, ol)], _, pm, h2, h3 =>
                match vs, c1, c2, c3, c4, pm with
                | [va, vb, vc], c1, c2, c3, c4, pm =>
                  have a1 := List.all_eq_true.mp h2 0 (by simp)
                  have a2 := List.all_eq_true.mp h2 1 (by simp)
                  have a3 := List.all_eq_true.mp h2 2 (by simp)
                  have n1 := ne_of_beq0 d5
                  have n2 := ne_of_beq0 d6
                  have n3 := ne_of_beq0 d7
                  have h3' : (i ≠ j ∧ i ≠ l) ∧ j ≠ l := by simpa using h3
                  rw [← y.sc] at d2 d3 d4
                  exact s_par3 (fun _ => hh) nd (at_of y a1) (at_of y a2) (at_of y a3) h3'.1.1 h3'.1.2 h3'.2 d2 d3 d4 pm (sw3 hfk rfl c2 c3 c4 d1 d1' d2 d3 d4 n1 n2 n3)
            · cases hn
          · cases hn
        · cases hn
    · cases h
  case stx i k x =>
    simp only [kS0] at h
    split at h
    · simp only [Bool.and_eq_true] at h
      obtain ⟨⟨⟨h1, h2⟩, h3⟩, h4⟩ := h
      obtain ⟨v1, v2, v3⟩ := vis_of y h2
      exact s_stx (by have := g.un; omega) (at_of y h1) v1 v2 v3 (sE k K X Wx _ g y tk h3).1 (sE x K X Wx _ g y tk h4).1
    · cases h
  case stf i f x =>
    simp only [kS0] at h
    split at h
    · simp only [Bool.and_eq_true, decide_eq_true_eq] at h
      obtain ⟨⟨⟨⟨h1, h2⟩, rfl⟩, h4⟩, h5⟩ := h
      obtain ⟨v1, v2, v3⟩ := vis_of y h2
      exact s_stf (g.fld _ (by simpa using h4)) (at_of y h1) v1 v2 v3 (sE x K X Wx _ g y tk h5).1
    · cases h
  case app i xs =>
    simp only [kS0] at h
    split at h
    · split at h
      · rename_i hm
        simp only [Bool.and_eq_true, decide_eq_true_eq] at h
        obtain ⟨a, rfl⟩ := one_of h.2
        obtain ⟨x, px, apos, cpos, rfl, m1, m2, m3, m4, m5⟩ := meth_of y hm
        obtain ⟨q1, q2⟩ := sEs xs K X Wx _ g y tk h.1
        exact s_app (meth_c m1 m2 m3 m4 m5 (nost1 h.1)) q1 q2
      · cases h
    · cases h
  case ext i xs =>
    simp only [kS0] at h
    split at h
    · split at h
      · rename_i hm
        simp only [Bool.and_eq_true, decide_eq_true_eq] at h
        obtain ⟨a, rfl⟩ := one_of h.2
        obtain ⟨x, px, apos, cpos, rfl, m1, m2, m3, m4, m5⟩ := meth_of y hm
        obtain ⟨q1, q2⟩ := sEs xs K X Wx _ g y tk h.1
        exact s_ext g.hK (meth_c m1 m2 m3 m4 m5 (nost1 h.1)) q1 q2
      · cases h
    · cases h
  case popx i xs =>
    simp only [kS0] at h
    split at h
    · split at h
      · rename_i hm
        simp only [Bool.and_eq_true, decide_eq_true_eq] at h
        obtain ⟨a, rfl⟩ := one_of h.2
        obtain ⟨x, px, apos, cpos, rfl, m1, m2, m3, m4, m5⟩ := meth_of y hm
        obtain ⟨q1, q2⟩ := sEs xs K X Wx _ g y tk h.1
        exact s_popx (meth_c m1 m2 m3 m4 m5 (nost1 h.1)) q1 q2
      · cases h
    · cases h
  case pop j i =>
    simp only [kS0] at h
    split at h
    · simp only [Bool.and_eq_true] at h
      obtain ⟨⟨h1, h2⟩, h3⟩ := h
      obtain ⟨l1, l2⟩ := loc_of y h2
      split at h3
      · rename_i as hm
        cases as with
        | nil =>
          obtain ⟨x, px, apos, cpos, rfl, m1, m2, m3, m4, m5⟩ := meth_of y hm
          exact s_pop m1 m2 m3 m4 rfl m5 nd (at_of y h1) l1 l2
        | cons a as => cases h3
      · cases h3
    · cases h
  case popat j i xs =>
    simp only [kS0] at h
    split at h
    · simp only [Bool.and_eq_true] at h
      obtain ⟨⟨h1, h2⟩, h3⟩ := h
      obtain ⟨l1, l2⟩ := loc_of y h2
      split at h3
      · rename_i hm
        simp only [Bool.and_eq_true, decide_eq_true_eq] at h3
        obtain ⟨a, rfl⟩ := one_of h3.2
        obtain ⟨x, px, apos, cpos, rfl, m1, m2, m3, m4, m5⟩ := meth_of y hm
        obtain ⟨q1, q2⟩ := sEs xs K X Wx _ g y tk h3.1
        exact s_popat (meth_c m1 m2 m3 m4 m5 (nost1 h3.1)) q1 q2 nd (at_of y h1) l1 l2
      · cases h3
    · cases h
  case apppop l i xs =>
    simp only [kS0] at h
    split at h
    · split at h
      · rename_i hm
        split at h
        · rename_i hm2
          simp only [Bool.and_eq_true, decide_eq_true_eq] at h
          obtain ⟨a, rfl⟩ := one_of h.2
          obtain ⟨x, px, apos, cpos, rfl, m1, m2, m3, m4, m5⟩ := meth_of y hm2
          obtain ⟨x', px', apos', cpos', rfl, n1, n2, n3, n4, n5⟩ := meth_of y hm
          obtain ⟨q1, q2⟩ := sEs xs K X Wx _ g y tk h.1
          exact s_apppop (meth_c m1 m2 m3 m4 m5 (nost1 h.1)) (meth_c n1 n2 n3 n4 n5 rfl) q1 q2
        · cases h
      · cases h
    · cases h
  case ex x =>
    simp only [kS0] at h
    split at h
    · simp only [Bool.and_eq_true] at h
      exact s_ex (sE x K X Wx _ g y tk h.1).1 (swaps_no (by simpa using h.2))
    · cases h
  case ret x =>
    simp only [kS0] at h
    split at h
    · exact s_ret (sE x K X Wx _ g y tk h).1
    · split at h
      · exact s_retN
      · cases h
    · cases h
  case retc x =>
    simp only [kS0] at h
    split at h
    · simp only [Bool.and_eq_true] at h
      obtain ⟨⟨h1, h2⟩, h3⟩ := h
      exact s_retc (sF x K X Wx _ (g.hot2 (by simpa using h3)) g y tk h2 h1)
    · cases h
  case brk =>
    simp only [kS0] at h
    split at h
    · exact s_brk
    · cases h
  case cnt =>
    simp only [kS0] at h
    split at h
    · exact s_cnt
    · cases h
  case pas =>
    simp only [kS0] at h
    split at h
    · exact s_pas
    · exact s_doc
    · cases h
  case bad => exact s_bad
  all_goals (simp only [kS0] at h; cases h)
end
end Ev

set_option maxRecDepth 100000
set_option maxHeartbeats 4000000
namespace Ev
open PySem PySem.Spec PyProof.Rows L2

section
variable {G : GG} {xf : Nat → Option Str} {C : Cfg}
mutual
theorem sS : ∀ (s : S) (K : Ck) (X : Cx) (Wx : L2.WX) (st : Stmt), X.env.blockKind = .function → PassesOwn (model X.prog X.w) X.A X.env X.xe → Gd G xf C K X → Sy K X → Takes X Wx → kS s K st = true → PS X st (TSt G xf Wx C s)
  | .iff c a b, K, X, Wx, st, hf, hp, g, y, tk, h => by
    unfold kS at h
    split at h
    · simp only [Bool.and_eq_true] at h
      exact s_iff (sE c K X Wx _ g y tk h.1.1).2 (sSs a K X Wx _ hf hp g y tk h.1.2) (sSs b K X Wx _ hf hp g y tk h.2)
    · cases h
  | .whl c b, K, X, Wx, st, hf, hp, g, y, tk, h => by
    unfold kS at h
    split at h
    · simp only [Bool.and_eq_true] at h
      exact s_whl hp (sE c K X Wx _ g y tk h.1).2 (sSs b K X Wx _ hf hp g y tk h.2)
    · cases h
  | .for t it b, K, X, Wx, st, hf, hp, g, y, tk, h => by
    unfold kS at h
    split at h
    · rename_i tg iter sb pos
      simp only [Bool.and_eq_true] at h
      exact s_for hp g.calm (fun _ => sI it K X Wx tg iter g y tk h.1.2) (fun hh => sTg g.hK (g.calm hh) y t tg h.1.1.2) (fun _ => sSs b K X Wx sb hf hp g y tk h.2) fun z => by
        have h4 := h.1.1.1
        cases iter <;> first | rfl | cases h4
    · cases h
  | .frz is s, K, X, Wx, st, hf, hp, g, y, tk, h => by
    unfold kS at h
    exact s_frz (sS s K X Wx st hf hp g y tk h)
  | .tri b hs, K, X, Wx, st, hf, hp, g, y, tk, h => by
    unfold kS at h
    cases h
  | .set i x o, K, X, Wx, st, hf, hp, g, y, tk, h => sS0 hf g y tk _ st (by unfold kS at h; exact h)
  | .setG i x, K, X, Wx, st, hf, hp, g, y, tk, h => sS0 hf g y tk _ st (by unfold kS at h; exact h)
  | .par i x, K, X, Wx, st, hf, hp, g, y, tk, h => sS0 hf g y tk _ st (by unfold kS at h; exact h)
  | .stx i x z, K, X, Wx, st, hf, hp, g, y, tk, h => sS0 hf g y tk _ st (by unfold kS at h; exact h)
  | .stf i x z, K, X, Wx, st, hf, hp, g, y, tk, h => sS0 hf g y tk _ st (by unfold kS at h; exact h)
  | .augx i x o z, K, X, Wx, st, hf, hp, g, y, tk, h => sS0 hf g y tk _ st (by unfold kS at h; exact h)
  | .app i x, K, X, Wx, st, hf, hp, g, y, tk, h => sS0 hf g y tk _ st (by unfold kS at h; exact h)
  | .ext i x, K, X, Wx, st, hf, hp, g, y, tk, h => sS0 hf g y tk _ st (by unfold kS at h; exact h)
  | .pop i x, K, X, Wx, st, hf, hp, g, y, tk, h => sS0 hf g y tk _ st (by unfold kS at h; exact h)
  | .popat i x z, K, X, Wx, st, hf, hp, g, y, tk, h => sS0 hf g y tk _ st (by unfold kS at h; exact h)
  | .popx i x, K, X, Wx, st, hf, hp, g, y, tk, h => sS0 hf g y tk _ st (by unfold kS at h; exact h)
  | .apppop i x z, K, X, Wx, st, hf, hp, g, y, tk, h => sS0 hf g y tk _ st (by unfold kS at h; exact h)
  | .ex x, K, X, Wx, st, hf, hp, g, y, tk, h => sS0 hf g y tk _ st (by unfold kS at h; exact h)
  | .ret x, K, X, Wx, st, hf, hp, g, y, tk, h => sS0 hf g y tk _ st (by unfold kS at h; exact h)
  | .retc x, K, X, Wx, st, hf, hp, g, y, tk, h => sS0 hf g y tk _ st (by unfold kS at h; exact h)
  | .brk, K, X, Wx, st, hf, hp, g, y, tk, h => sS0 hf g y tk _ st (by unfold kS at h; exact h)
  | .cnt, K, X, Wx, st, hf, hp, g, y, tk, h => sS0 hf g y tk _ st (by unfold kS at h; exact h)
  | .pas, K, X, Wx, st, hf, hp, g, y, tk, h => sS0 hf g y tk _ st (by unfold kS at h; exact h)
  | .rse c x, K, X, Wx, st, hf, hp, g, y, tk, h => sS0 hf g y tk _ st (by unfold kS at h; exact h)
  | .bad, K, X, Wx, st, hf, hp, g, y, tk, h => s_bad
theorem sSs : ∀ (s : Ss) (K : Ck) (X : Cx) (Wx : L2.WX) (st : List Stmt), X.env.blockKind = .function → PassesOwn (model X.prog X.w) X.A X.env X.xe → Gd G xf C K X → Sy K X → Takes X Wx → kSs s K st = true → PSs X st (TSs G xf Wx C s)
  | .nil, K, X, Wx, st, hf, hp, g, y, tk, h => by
    unfold kSs at h
    cases st with
    | nil => exact ss_nil
    | cons a b => cases h
  | .cons s r, K, X, Wx, st, hf, hp, g, y, tk, h => by
    unfold kSs at h
    split at h
    · rw [Bool.and_eq_true] at h
      exact ss_cons (sS s K X Wx _ hf hp g y tk h.1) (sSs r K X Wx _ hf hp g y tk h.2)
    · cases h
end
end
/-! ### plain parameters -/
def plainP (a : Arguments) (ps : List Str) : Bool := a.posonlyargs.isEmpty && a.vararg.isNone && a.kwonlyargs.isEmpty && a.kwarg.isNone && decide (a.args.map (·.arg) = ps)
theorem zip_get : ∀ (ps : List Str) (us : List Value), us.length = ps.length → ∀ n ∈ ps, ∃ u, (ps.zip us).lookup n = some u
  | [], _, _, _, h => by cases h
  | p :: ps, [], hl, _, _ => by cases hl
  | p :: ps, u :: us, hl, n, h => by
    rw [List.zip_cons_cons, List.lookup_cons]
    cases hb : n == p with
    | true => exact ⟨u, rfl⟩
    | false =>
      rcases List.mem_cons.mp h with e | h
      · subst e; simp at hb
      · exact zip_get ps us (by simpa using hl) n h
theorem zip_some (ps : List Str) (us : List Value) (hl : us.length = ps.length) (qs : List Str) (hq : ∀ n ∈ qs, n ∈ ps) : (qs.filter fun n => ((ps.zip us).lookup n).isNone) = [] := by
  rw [List.filter_eq_nil_iff]
  intro n hn
  obtain ⟨u, h⟩ := zip_get ps us hl n (hq n hn)
  rw [h]
  simp
theorem fm_congr {α β : Type} {f g : α → Option β} : ∀ l : List α, (∀ a ∈ l, f a = g a) → l.filterMap f = l.filterMap g
  | [], _ => rfl
  | a :: l, h => by
    rw [List.filterMap_cons, List.filterMap_cons, h a List.mem_cons_self, fm_congr l fun b hb => h b (List.mem_cons_of_mem _ hb)]
theorem zip_look : ∀ (ps : List Str) (us : List Value), ps.Nodup → us.length = ps.length → (ps.filterMap fun n => ((ps.zip us).lookup n).map (n, ·)) = ps.zip us
  | [], _, _, _ => by simp
  | p :: ps, [], _, hl => by cases hl
  | p :: ps, u :: us, nd, hl => by
    rw [List.nodup_cons] at nd
    have ih := zip_look ps us nd.2 (by simpa using hl)
    rw [List.zip_cons_cons, List.filterMap_cons]
    have e1 : (((p, u) :: ps.zip us).lookup p).map (p, ·) = some (p, u) := by rw [List.lookup_cons, beq_self_eq_true]; rfl
    rw [e1]
    dsimp only
    congr 1
    rw [← ih]
    refine fm_congr _ fun n hn => ?_
    have hne : (n == p) = false := by
      cases hb : n == p with
      | false => rfl
      | true => exact absurd (eq_of_beq hb ▸ hn) nd.1
    rw [List.lookup_cons, hne, ih]
theorem plain_binds {x qual : Str} {a : Arguments} {body : List Stmt} {scope : Scope} {kV doc pm : Value} {an : Option Addr} {cdv ct : Value} {ps : List Str} {us : List Value} (h : plainP a ps = true) (nd : ps.Nodup) (hl : us.length = ps.length) :
    bindArgs (PySem.W.fnOf x qual a body scope .none kV doc pm an cdv ct) ⟨us, []⟩ = pure (ps.zip us) := by
  obtain ⟨po, as, va, ko, kd, kw, df⟩ := a
  unfold plainP at h
  simp only [Bool.and_eq_true, List.isEmpty_iff, Option.isNone_iff_eq_none, decide_eq_true_eq] at h
  obtain ⟨⟨⟨⟨rfl, rfl⟩, rfl⟩, rfl⟩, rfl⟩ := h
  have e1 := zip_look (as.map (·.arg)) us nd hl
  have e2 := zip_some (as.map (·.arg)) us hl (as.map (·.arg)) fun _ h => h
  have hl2 : us.length = as.length := by simpa using hl
  unfold bindArgs PySem.W.fnOf seqItems?
  simp [hl2, e1, e2]
  have en : notAStandIn Value.none = pure () := rfl
  have e4 : (List.take ((List.map (fun x : Arg => x.arg) [] ++ List.map (fun x : Arg => x.arg) as).length - (List.drop ((#[] : Array Value).size - (List.map (fun x : Arg => x.arg) [] ++ List.map (fun x : Arg => x.arg) as).length) ([] : List Value)).length) (List.map (fun x : Arg => x.arg) ([] : List Arg) ++ List.map (fun x : Arg => x.arg) as)) = as.map (·.arg) := by
    simp only [List.map_nil, List.nil_append, List.drop_nil, List.length_nil, Nat.sub_zero]
    exact List.take_of_length_le (Nat.le_refl _)
  have e5 : (as.filterMap ((fun n => Option.map (fun x => (n, x)) (List.lookup n ((List.map (fun x => x.arg) as).zip us))) ∘ fun x : Arg => x.arg)) = (as.map (·.arg)).zip us := by
    have e6 := e1
    rw [List.filterMap_map] at e6
    exact e6
  rw [en]
  simp only [e4, e2, e5]
  rfl
end Ev

set_option maxRecDepth 100000
set_option maxHeartbeats 4000000
/-! All defs of a program keep what the machine says. -/
namespace Ev
open PySem PySem.Spec PyProof.Rows L2

/-- a def's text, its names -/
structure AF where
  name : Str
  qual : Str
  params : Arguments
  body : List Stmt
  scope : Scope
  N : List Str
def Tabs.ck (T : Tabs) (a : AF) : Ck := { N := a.N, sc := a.scope, fnc := fun _ => true, fnT := T.fnT, clT := T.clT, glT := T.glT, bl := T.bl, hot := false, fds := T.fds }
def chkFn (T : Tabs) (a : AF) (f : Fn) : Bool :=
  plainP a.params (a.N.take f.np) && decide (f.np ≤ a.N.length) && decide (a.N.length = f.ns) && decide a.N.Nodup &&
  (match a.scope.kind with | .function => true | _ => false) && !a.scope.isCoroutine && !a.scope.isGenerator &&
  ((a.N.take f.np).all fun x => decide (a.scope.names.lookup x = some .local) || decide (a.scope.names.lookup x = some .cell)) && (a.scope.names.all fun y => decide (y.2 ≠ .free)) &&
  kSs f.body (T.ck a) a.body
structure PF (P : Prog) (G : GG) (prog : Program) (w : World) (mg : Str → Option Value) (AS : List AF) (T : Tabs) : Prop where
  len : AS.length = P.fns.length
  fn : ∀ (j : Nat) (a : AF), AS[j]? = some a → ∃ fd, FunD G.K a.name a.qual a.params a.body a.scope [] [] (G.fa j) fd
  chk : ∀ (j : Nat) (a : AF) (f : Fn), AS[j]? = some a → P.fns[j]? = some f → chkFn T a f = true
  fnT : ∀ (x : Str) (j : Nat), T.fnT.lookup x = some j → mg x = some (.ref (G.fa j)) ∧ j < P.fns.length
  clT : ∀ (x : Str) (c : Nat), T.clT.lookup x = some c → mg x = some (.ref (G.cl c)) ∧ c < P.nc
  cl : ∀ c, c < P.nc → ∃ k : Cl, P.cls c = some k ∧ k.ini < P.fns.length ∧ Mk G.K (G.cl c) (G.fa k.ini)
  gl : ∀ (x : Str) (j : Nat), T.glT.lookup x = some j → ∃ v u d, mg x = some u ∧ RelV v u ∧ P.gs[j]? = some d ∧ ∀ F rho n H, R G F rho n H v d
  blt : ∀ n ∈ T.bl, mg n = none
  fld : ∀ f ∈ T.fds, ∀ c, c < P.nc → Cls G.K (G.cl c) ∧ NoAttr G.K (G.cl c) f
  eq : ∀ (c : Nat) (k : Cl) (j : Nat), P.cls c = some k → k.eqf = some j → j < P.fns.length ∧ PySem.W.findIn G.K (.ref (G.cl c)) "__eq__" = some (some (.ref (G.fa j))) ∧ PySem.W.isFn G.K (.ref (G.fa j)) = true ∧ PySem.W.notFirst G.K (G.cl c) (.type "tuple") = true
  isa : ∀ X : Cx, X.K = G.K → IsaUse G X P.nc
section
variable {P : Prog} {G : GG} {xf : Nat → Option Str} {prog : Program} {w : World} {mg : Str → Option Value} {base : Heap} {AS : List AF} {T : Tabs}
def okFn (G : GG) (xf : Nat → Option Str) (prog : Program) (w : World) (mg : Str → Option Value) (base : Heap) (AS : List AF) (P : Prog) (k : Nat) (j : Nat) (sp : Sp) : Prop :=
  ∃ (a : AF) (f : Fn) (fd : FuncData), AS[j]? = some a ∧ P.fns[j]? = some f ∧ FunD G.K a.name a.qual a.params a.body a.scope [] [] (G.fa j) fd ∧ Binds G.K fd (a.N.take f.np) [] ∧ FnOk prog w G.K mg base (L2.CX prog w) k (G.fa j) fd (a.N.take f.np) sp
theorem fnScope_of {a : AF} {f : Fn} (h : chkFn T a f = true) : FnScope a.N (a.N.take f.np) a.scope ∧ plainP a.params (a.N.take f.np) = true ∧ f.np ≤ a.N.length ∧ a.N.length = f.ns ∧ a.N.Nodup ∧ kSs f.body (T.ck a) a.body = true := by
  unfold chkFn at h
  simp only [Bool.and_eq_true, decide_eq_true_eq, Bool.not_eq_true'] at h
  obtain ⟨⟨⟨⟨⟨⟨⟨⟨⟨h1, h2⟩, h3⟩, h4⟩, h5⟩, h6⟩, h7⟩, h8⟩, h9⟩, h10⟩ := h
  refine ⟨⟨?_, h6, h7, h4, ?_, fun x hx => ?_, fun y hy => ?_⟩, h1, h2, h3, h4, h10⟩
  · split at h5
    · assumption
    · cases h5
  · rw [List.length_take, Nat.min_eq_left h2]
  · have := List.all_eq_true.mp h8 x hx
    simpa using this
  · have := List.all_eq_true.mp h9 y hy
    simpa using this
theorem binds_of (F : PF P G prog w mg AS T) {j : Nat} {a : AF} {f : Fn} {fd : FuncData} (ha : AS[j]? = some a) (hf : P.fns[j]? = some f) (D : FunD G.K a.name a.qual a.params a.body a.scope [] [] (G.fa j) fd) : Binds G.K fd (a.N.take f.np) [] := by
  obtain ⟨_, h1, h2, h3, h4, _⟩ := fnScope_of (F.chk j a f ha hf)
  exact D.bindsN fun kV doc pm an cdv ct us hl => plain_binds h1 (h4.sublist (List.take_sublist _ _)) hl
theorem start_rel {m : Fm} {wd : Wd} {H : Hp} {vs : List V} {ds : List D} {N : List Str} {f : Fn} (r : RelW G m wd H) (ra : RA G m.F m.rho wd.length H vs ds) (hl : N.length = f.ns) (hn : ds.length = f.np) (hle : f.np ≤ N.length) : Rel G m (start f ds) wd (L2.start N vs) H := by
  have hv := ra.length
  refine ⟨r, ?_, fun i s h => ?_, fun i j d d' h1 h2 => ?_⟩
  · unfold Ev.start L2.start
    simp only [List.length_append, List.length_map, List.length_replicate]
    omega
  · unfold Ev.start at h
    unfold L2.start
    by_cases hi : i < ds.length
    · rw [List.getElem?_append_left (by simpa using hi), List.getElem?_map] at h
      rw [List.getElem?_eq_getElem hi] at h
      simp only [Option.map_some, Option.some.injEq] at h
      subst h
      obtain ⟨v, h1, h2⟩ := ra.get (List.getElem?_eq_getElem hi)
      refine ⟨v, ?_, h2⟩
      rw [List.getElem?_append_left (by simpa [hv] using hi), List.getElem?_map, h1]
      rfl
    · rw [List.getElem?_append_right (by simpa using hi)] at h
      rw [List.getElem?_replicate] at h
      split at h
      · cases h; trivial
      · cases h
  · unfold Ev.start at h1
    by_cases hi : i < ds.length
    · rw [List.getElem?_append_left (by simpa using hi), List.getElem?_map, List.getElem?_eq_getElem hi] at h1
      cases h1
    · rw [List.getElem?_append_right (by simpa using hi), List.getElem?_replicate] at h1
      split at h1 <;> cases h1
/-- a def's context is good -/
theorem gd_of (F : PF P G prog w mg AS T) {a : AF} {qual : Str} {f : Addr} {cdv : Value} {A : Around} {outer : List PySem.Env} {s : Shared} {H : Hp} {E : XK} {k : Nat} {cf cm : Nat → List D → M D}
    (hcf : ∀ j, j < P.fns.length → okFn G xf prog w mg base AS P (k + 1) j (spOf G xf (cf j)))
    (hcm : ∀ c kk, P.cls c = some kk → c < P.nc → okFn G xf prog w mg base AS P k kk.ini (spIni G xf c (cm c)))
    (hr : Room (k + 1) (A.deeper (envOfC qual a.scope s.heap.objs.size f cdv))) : Gd G xf (cfgOf P cf cm) (T.ck a) (cxOf (L2.CX prog w) prog w G.K mg base a.N qual a.scope f cdv A outer s H E) := by
  have use : ∀ j, j < P.fns.length → FnUse G xf (cxOf (L2.CX prog w) prog w G.K mg base a.N qual a.scope f cdv A outer s H E) j (cf j) := fun j hj => by
    obtain ⟨a', f', fd, h1, h2, h3, h4, h5⟩ := hcf j hj
    exact ⟨k + 1, fd, _, h5, hr, h4, h3.kp⟩
  refine ⟨rfl, ?_, fun _ => rfl, fun _ => rfl, fun _ => rfl, fun x j h => ⟨(F.fnT x j h).1, fun _ => use j (F.fnT x j h).2⟩, fun _ j hj => use j hj, fun x c h => ⟨(F.clT x c h).1, (F.clT x c h).2, fun _ => ?_⟩, F.gl, F.blt, F.fld, fun c j _ h => ?_, F.isa _ rfl⟩
  · have := hr.un
    show (A.deeper _).units + 200 < cLine
    omega
  · obtain ⟨kk, h1, h2, h3⟩ := F.cl c (F.clT x c h).2
    obtain ⟨a', f', fd, h4, h5, h6, h7, h8⟩ := hcm c kk h1 (F.clT x c h).2
    exact ⟨k, _, fd, _, h3, h8, hr, h7⟩
  · have h' : (P.cls c).bind (·.eqf) = some j := h
    cases z : P.cls c with
    | none => rw [z] at h'; cases h'
    | some kk =>
      rw [z] at h'
      obtain ⟨e1, e2, e3, e4⟩ := F.eq c kk j z h'
      exact ⟨⟨e2, e3, e4⟩, use j e1⟩
theorem sy_of {a : AF} {qual : Str} {f : Addr} {cdv : Value} {A : Around} {outer : List PySem.Env} {s : Shared} {H : Hp} {E : XK} {base : Heap} (nd : a.N.Nodup) : Sy (T.ck a) (cxOf (L2.CX prog w) prog w G.K mg base a.N qual a.scope f cdv A outer s H E) :=
  ⟨rfl, nd, rfl, fun _ _ => rfl⟩
theorem ok_run1 (F : PF P G prog w mg AS T) {k : Nat} {cf cm : Nat → List D → M D} (hcf : ∀ j, j < P.fns.length → okFn G xf prog w mg base AS P (k + 1) j (spOf G xf (cf j)))
    (hcm : ∀ c kk, P.cls c = some kk → c < P.nc → okFn G xf prog w mg base AS P k kk.ini (spIni G xf c (cm c))) (j : Nat) (hj : j < P.fns.length) : okFn G xf prog w mg base AS P (k + 2) j (spOf G xf (run1 P cf cm j)) := by
  obtain ⟨a, ha⟩ : ∃ a, AS[j]? = some a := ⟨AS[j]'(by rw [F.len]; exact hj), List.getElem?_eq_getElem _⟩
  obtain ⟨f, hf⟩ : ∃ f, P.fns[j]? = some f := ⟨P.fns[j], List.getElem?_eq_getElem _⟩
  obtain ⟨fd, D⟩ := F.fn j a ha
  obtain ⟨S, h1, h2, h3, h4, h5⟩ := fnScope_of (F.chk j a f ha hf)
  refine ⟨a, f, fd, ha, hf, D, binds_of F ha hf D, ?_⟩
  refine D.ok S (fun vs H Q E h => ?_) fun cdv A outer s H vs Q E hr hsp => ?_
  · obtain ⟨m, wd, ds, r, ra, q⟩ := h
    unfold run1 at q
    rw [hf] at q
    dsimp only at q
    split at q
    · rename_i hd
      rw [ra.length, hd, List.length_take, Nat.min_eq_left h2]
    · exact q.elim
  · have X : Cx := cxOf (L2.CX prog w) prog w G.K mg base a.N a.qual a.scope (G.fa j) cdv A outer s H E
    have tk : Takes (cxOf (L2.CX prog w) prog w G.K mg base a.N a.qual a.scope (G.fa j) cdv A outer s H E) (fun cls d _ H => E cls d H) := takes_of rfl rfl rfl rfl
    have hp : PassesOwn (model prog w) (A.deeper (envOfC a.qual a.scope s.heap.objs.size (G.fa j) cdv)) (envOfC a.qual a.scope s.heap.objs.size (G.fa j) cdv) (cxOf (L2.CX prog w) prog w G.K mg base a.N a.qual a.scope (G.fa j) cdv A outer s H E).xe := passes_of (X := cxOf (L2.CX prog w) prog w G.K mg base a.N a.qual a.scope (G.fa j) cdv A outer s H E) rfl
    have hb : (envOfC a.qual a.scope s.heap.objs.size (G.fa j) cdv).blockKind = .function := by
      show (if a.scope.kind.isAnnotationScope then ScopeKind.function else a.scope.kind) = .function
      rw [S.kind]
      rfl
    refine ⟨TSs G xf (fun cls d _ H => E cls d H) (cfgOf P cf cm) f.body, sSs f.body (T.ck a) _ _ a.body hb hp (gd_of F hcf hcm hr) (sy_of h4) tk h5, ?_⟩
    obtain ⟨m, wd, ds, r, ra, q⟩ := hsp
    unfold run1 at q
    rw [hf] at q
    dsimp only at q
    split at q
    · rename_i hd
      refine ⟨m, _, wd, start_rel r ra h3 hd h2, ?_⟩
      unfold endF at q
      cases z : exs (cfgOf P cf cm) f.body (Ev.start f ds) wd with
      | ok fl w' =>
        rw [z] at q
        cases fl with
        | nx e => exact fun m' σ' H' x r => q .non m' H' x r.toRelW .non
        | rt d => exact fun m' v H' x r y => q v m' H' x r y
        | bk e => exact q.elim
        | ct e => exact q.elim
        | xc c x e => exact fun pn m' σ' H' x r y => q pn m' H' x r.toRelW y
      | exc c x w' => rw [z] at q; exact q.elim
      | stk => rw [z] at q; exact q.elim
    · exact q.elim
end
end Ev

set_option maxRecDepth 100000
set_option maxHeartbeats 4000000
namespace Ev
open PySem PySem.Spec PyProof.Rows L2

section
variable {P : Prog} {G : GG} {xf : Nat → Option Str} {prog : Program} {w : World} {mg : Str → Option Value} {base : Heap} {AS : List AF} {T : Tabs}
theorem RelW.seto {m : Fm} {wd : Wd} {H : Hp} (r : RelW G m wd H) (oa : Nat → Addr) : RelW G { m with oa := oa } wd H := ⟨r.cell, r.inj, r.allF, r.allP, r.FP⟩
/-- an __init__'s start -/
theorem startI_rel {m : Fm} {wd : Wd} {H : Hp} {x dx : Addr} {c : Nat} {vs : List V} {ds : List D} {N : List Str} {f : Fn} (r : RelW G m wd H) (ra : RA G m.F m.rho wd.length H vs ds) (hx : H x = some (.ins (G.cl c) dx [])) (nF : ¬ m.F x) (nP : ¬ m.P x) (nr : ∀ k, k < wd.length → m.rho k ≠ x)
    (hl : N.length = f.ns) (hn : ds.length + 1 = f.np) (hle : f.np ≤ N.length) : Rel G (m.seto 0 x) (Slot.own (.ins c []) :: (ds.map .val ++ List.replicate (f.ns - f.np) .un)) wd (L2.start N (.ref x :: vs)) H := by
  have hv := ra.length
  have e0 : (m.seto 0 x).oa 0 = x := by simp [Fm.seto]
  refine ⟨r.seto _, ?_, fun i s h => ?_, fun i j d d' h1 h2 _ => ?_⟩
  · unfold L2.start
    simp only [List.length_append, List.length_map, List.length_replicate, List.length_cons]
    omega
  · cases i with
    | zero =>
      rw [List.getElem?_cons_zero] at h
      cases h
      refine ⟨by rw [e0]; rfl, by rw [e0]; exact ⟨dx, [], hx, .nil⟩, by rw [e0]; exact nF, by rw [e0]; exact nP, fun k hk z => nr k hk (by rw [e0] at z; exact z.symm)⟩
    | succ i =>
      rw [List.getElem?_cons_succ] at h
      by_cases hi : i < ds.length
      · rw [List.getElem?_append_left (by simpa using hi), List.getElem?_map, List.getElem?_eq_getElem hi] at h
        simp only [Option.map_some, Option.some.injEq] at h
        subst h
        obtain ⟨v, h1, h2⟩ := ra.get (List.getElem?_eq_getElem hi)
        refine ⟨v, ?_, h2⟩
        unfold L2.start
        rw [List.map_cons, List.cons_append, List.getElem?_cons_succ, List.getElem?_append_left (by simpa [hv] using hi), List.getElem?_map, h1]
        rfl
      · rw [List.getElem?_append_right (by simpa using hi), List.getElem?_replicate] at h
        split at h
        · cases h; trivial
        · cases h
  · have zero : ∀ {i : Nat} {d : D}, (Slot.own (.ins c []) :: (ds.map .val ++ List.replicate (f.ns - f.np) .un))[i]? = some (.own d) → i = 0 := fun {i d} h => by
      cases i with
      | zero => rfl
      | succ i =>
        rw [List.getElem?_cons_succ] at h
        by_cases hi : i < ds.length
        · rw [List.getElem?_append_left (by simpa using hi), List.getElem?_map, List.getElem?_eq_getElem hi] at h
          cases h
        · rw [List.getElem?_append_right (by simpa using hi), List.getElem?_replicate] at h
          split at h <;> cases h
    rw [zero h1, zero h2]
theorem ok_runI (F : PF P G prog w mg AS T) {k : Nat} {cf cm : Nat → List D → M D} (hcf : ∀ j, j < P.fns.length → okFn G xf prog w mg base AS P (k + 1) j (spOf G xf (cf j)))
    (hcm : ∀ c kk, P.cls c = some kk → c < P.nc → okFn G xf prog w mg base AS P k kk.ini (spIni G xf c (cm c))) (c : Nat) (kk : Cl) (hk : P.cls c = some kk) (hc : c < P.nc) : okFn G xf prog w mg base AS P (k + 2) kk.ini (spIni G xf c (runI P cf cm c)) := by
  have hj : kk.ini < P.fns.length := by
    obtain ⟨k2, h1, h2, _⟩ := F.cl c hc
    rw [hk] at h1
    cases h1
    exact h2
  obtain ⟨a, ha⟩ : ∃ a, AS[kk.ini]? = some a := ⟨AS[kk.ini]'(by rw [F.len]; exact hj), List.getElem?_eq_getElem _⟩
  obtain ⟨f, hf⟩ : ∃ f, P.fns[kk.ini]? = some f := ⟨P.fns[kk.ini], List.getElem?_eq_getElem _⟩
  obtain ⟨fd, D⟩ := F.fn _ a ha
  obtain ⟨S, h1, h2, h3, h4, h5⟩ := fnScope_of (F.chk _ a f ha hf)
  refine ⟨a, f, fd, ha, hf, D, binds_of F ha hf D, ?_⟩
  refine D.ok S (fun vs H Q E h => ?_) fun cdv A outer s H vs Q E hr hsp => ?_
  · obtain ⟨m, wd, ds, x, dx, vs', rfl, r, ra, _, _, _, _, q⟩ := h
    unfold runI at q
    rw [hk] at q
    dsimp only at q
    rw [hf] at q
    dsimp only at q
    split at q
    · rename_i hd
      rw [List.length_cons, ra.length, hd, List.length_take, Nat.min_eq_left h2]
    · exact q.elim
  · have tk : Takes (cxOf (L2.CX prog w) prog w G.K mg base a.N a.qual a.scope (G.fa kk.ini) cdv A outer s H E) (fun cls d _ H => E cls d H) := takes_of rfl rfl rfl rfl
    have hp : PassesOwn (model prog w) (A.deeper (envOfC a.qual a.scope s.heap.objs.size (G.fa kk.ini) cdv)) (envOfC a.qual a.scope s.heap.objs.size (G.fa kk.ini) cdv) (cxOf (L2.CX prog w) prog w G.K mg base a.N a.qual a.scope (G.fa kk.ini) cdv A outer s H E).xe := passes_of (X := cxOf (L2.CX prog w) prog w G.K mg base a.N a.qual a.scope (G.fa kk.ini) cdv A outer s H E) rfl
    have hb : (envOfC a.qual a.scope s.heap.objs.size (G.fa kk.ini) cdv).blockKind = .function := by
      show (if a.scope.kind.isAnnotationScope then ScopeKind.function else a.scope.kind) = .function
      rw [S.kind]
      rfl
    refine ⟨TSs G xf (fun cls d _ H => E cls d H) (cfgOf P cf cm) f.body, sSs f.body (T.ck a) _ _ a.body hb hp (gd_of F hcf hcm hr) (sy_of h4) tk h5, ?_⟩
    obtain ⟨m, wd, ds, x, dx, vs', rfl, r, ra, hx, nF, nP, nr, q⟩ := hsp
    unfold runI at q
    rw [hk] at q
    dsimp only at q
    rw [hf] at q
    dsimp only at q
    split at q
    · rename_i hd
      have rl := startI_rel r ra hx nF nP nr h3 hd h2
      refine ⟨_, _, wd, rl, ?_⟩
      have bk : ∀ {m' : Fm} {w' : Wd} {H' : Hp}, Ext (m.seto 0 x) wd H m' w' H' → Ext m wd H { m' with oa := m.oa } w' H' := fun x => ⟨x.P, x.F, x.aF, x.aP, x.wl, x.rho, rfl⟩
      have e0 : (m.seto 0 x).oa 0 = x := by simp [Fm.seto]
      unfold endI at q
      cases z : exs (cfgOf P cf cm) f.body (Slot.own (.ins c []) :: (ds.map .val ++ List.replicate (f.ns - f.np) .un)) wd with
      | ok fl w' =>
        rw [z] at q
        cases fl with
        | nx e =>
          intro m' σ' H' x2 r2
          dsimp only at q
          cases z0 : e[0]? with
          | none => rw [z0] at q; exact q.elim
          | some s0 =>
            rw [z0] at q
            cases s0 with
            | own d =>
              obtain ⟨o1, o2, o3, o4, o5⟩ := r2.sl 0 _ z0
              have ea : m'.oa 0 = x := x2.oa0.trans e0
              rw [ea] at o2 o3 o4 o5
              exact (q : PostI G xf m wd H x Q E (.ok d w')) { m' with oa := m.oa } H' (bk x2) (r2.toRelW.seto _) o2 o3 o4 fun k hk z => o5 k hk z.symm
            | _ => exact q.elim
        | rt d => exact q.elim
        | bk e => exact q.elim
        | ct e => exact q.elim
        | xc c' x' e => exact fun pn m' σ' H' x2 r2 y => (q : PostI G xf m wd H x Q E (.exc c' x' w')) pn { m' with oa := m.oa } H' (bk x2) (r2.toRelW.seto _) y
      | exc c x w' => rw [z] at q; exact q.elim
      | stk => rw [z] at q; exact q.elim
    · exact q.elim
theorem ok_stk (F : PF P G prog w mg AS T) (k : Nat) (j : Nat) (hj : j < P.fns.length) (sp : Sp) (h : ∀ vs H Q E, ¬ sp vs H Q E) : okFn G xf prog w mg base AS P k j sp := by
  obtain ⟨a, ha⟩ : ∃ a, AS[j]? = some a := ⟨AS[j]'(by rw [F.len]; exact hj), List.getElem?_eq_getElem _⟩
  obtain ⟨f, hf⟩ : ∃ f, P.fns[j]? = some f := ⟨P.fns[j], List.getElem?_eq_getElem _⟩
  obtain ⟨fd, D⟩ := F.fn j a ha
  exact ⟨a, f, fd, ha, hf, D, binds_of F ha hf D, ⟨fun vs H Q E q => absurd q (h vs H Q E), fun A outer s H args us vs Q E _ _ _ _ q => absurd q (h vs H Q E)⟩⟩
theorem sp_stk (j : Nat) (vs : List V) (H : Hp) (Q : VK) (E : XK) : ¬ spOf G xf (fun _ => stk) vs H Q E := fun ⟨_, _, _, _, _, q⟩ => q
theorem spI_stk (c : Nat) (vs : List V) (H : Hp) (Q : VK) (E : XK) : ¬ spIni G xf c (fun _ => stk) vs H Q E := fun ⟨_, _, _, _, _, _, _, _, _, _, _, _, _, q⟩ => q
/-- THE THEOREM: at each depth -/
theorem ok_deep (F : PF P G prog w mg AS T) : ∀ n, (∀ j, j < P.fns.length → okFn G xf prog w mg base AS P (n + 1) j (spOf G xf ((deep P n).1 j))) ∧ (∀ c kk, P.cls c = some kk → c < P.nc → okFn G xf prog w mg base AS P (n + 1) kk.ini (spIni G xf c ((deep P n).2.1 c))) ∧
    ∀ c kk, P.cls c = some kk → c < P.nc → okFn G xf prog w mg base AS P n kk.ini (spIni G xf c ((deep P n).2.2 c))
  | 0 => by
    have hj : ∀ c kk, P.cls c = some kk → c < P.nc → kk.ini < P.fns.length := fun c kk h1 h2 => by
      obtain ⟨k2, h3, h4, _⟩ := F.cl c h2
      rw [h1] at h3
      cases h3
      exact h4
    exact ⟨fun j hj => ok_stk F _ j hj _ (sp_stk j), fun c kk h1 h2 => ok_stk F _ _ (hj c kk h1 h2) _ (spI_stk c), fun c kk h1 h2 => ok_stk F _ _ (hj c kk h1 h2) _ (spI_stk c)⟩
  | n + 1 => by
    obtain ⟨h1, h2, h3⟩ := ok_deep F n
    exact ⟨fun j hj => ok_run1 F h1 h3 j hj, fun c kk a b => ok_runI F h1 h3 c kk a b, fun c kk a b => h2 c kk a b⟩
/-- a def of the program, by callF -/
theorem ok_call (F : PF P G prog w mg AS T) (n j : Nat) (hj : j < P.fns.length) : okFn G xf prog w mg base AS P (n + 1) j (spOf G xf (callF P n j)) := (ok_deep F n).1 j hj
end
end Ev

set_option maxRecDepth 100000
set_option maxHeartbeats 4000000
/-! The facts of a program as one test of what its top leaves. -/
namespace Ev
open PySem PySem.Spec PyProof.Rows L2

mutual
theorem relD_ok {d : Dt} {K : PySem.W.Frag} : ∀ (x : D) (u : Value), relD d K x u = true → ∃ v, RelV v u ∧ ∀ F rho n H, R (d.G K) F rho n H v x
  | .non, u, h => by
    unfold relD at h
    split at h
    · exact ⟨.non, rfl, fun _ _ _ _ => .non⟩
    · cases h
  | .bl b, u, h => by
    unfold relD at h
    split at h
    · have e := eq_of_beq h
      subst e
      exact ⟨.bl _, rfl, fun _ _ _ _ => .bl _⟩
    · cases h
  | .int i, u, h => by
    unfold relD at h
    split at h
    · have e := of_decide_eq_true h
      subst e
      exact ⟨.int _, ⟨_, rfl⟩, fun _ _ _ _ => .int _⟩
    · cases h
  | .str i, u, h => by
    unfold relD at h
    split at h
    · have e := of_decide_eq_true h
      subst e
      exact ⟨.str _, ⟨_, rfl⟩, fun _ _ _ _ => .str _⟩
    · cases h
  | .tup ds, u, h => by
    unfold relD at h
    split at h
    · rename_i a
      cases z : K.lookup a with
      | none => rw [z] at h; cases h
      | some o =>
        rw [z] at h
        simp only [Bool.and_eq_true, decide_eq_true_eq] at h
        obtain ⟨h1, h2⟩ := h
        split at h2
        · rename_i its n hd
          simp only [Bool.and_eq_true, decide_eq_true_eq] at h2
          obtain ⟨vs, r1, r2⟩ := relDs_ok ds _ h2.2
          have hl : vs.length = its.size := by rw [r1.length]; simp
          exact ⟨.ref a, rfl, fun F rho n' H => .tup (.inr ⟨o, its, n, z, h1, hd, by rw [← SZ_eq]; exact h2.1, r1⟩) (by rw [hl]; exact h2.1) (r2 F rho n' H)⟩
        · cases h2
    · cases h
  | .fn j, u, h => by
    unfold relD at h
    split at h
    · have e := of_decide_eq_true h
      subst e
      exact ⟨.ref _, rfl, fun _ _ _ _ => .fn⟩
    · cases h
  | .lst _, u, h => by unfold relD at h; cases h
  | .dic _, u, h => by unfold relD at h; cases h
  | .ins _ _, u, h => by unfold relD at h; cases h
  | .cel _, u, h => by unfold relD at h; cases h
  | .scr _, u, h => by unfold relD at h; cases h
theorem relDs_ok {d : Dt} {K : PySem.W.Frag} : ∀ (xs : List D) (us : List Value), relDs d K xs us = true → ∃ vs, Vals vs us ∧ ∀ F rho n H, RA (d.G K) F rho n H vs xs
  | [], us, h => by
    unfold relDs at h
    cases us with
    | nil => exact ⟨[], .nil, fun _ _ _ _ => .nil⟩
    | cons a b => cases h
  | x :: xs, us, h => by
    unfold relDs at h
    split at h
    · rw [Bool.and_eq_true] at h
      obtain ⟨v, h1, h2⟩ := relD_ok x _ h.1
      obtain ⟨vs, h3, h4⟩ := relDs_ok xs _ h.2
      exact ⟨v :: vs, .cons h1 h3, fun F rho n H => .cons (h2 F rho n H) (h4 F rho n H)⟩
    · cases h
end
theorem look_mem {α : Type} : ∀ {l : List (Str × α)} {x : Str} {a : α}, l.lookup x = some a → (x, a) ∈ l
  | [], _, _, h => by cases h
  | (y, b) :: l, x, a, h => by
    rw [List.lookup_cons] at h
    cases hb : x == y with
    | true =>
      rw [hb] at h
      cases h
      rw [eq_of_beq hb]
      exact List.mem_cons_self
    | false =>
      rw [hb] at h
      exact List.mem_cons_of_mem _ (look_mem h)
theorem getD_of {α : Type} {l : List α} {i : Nat} {a b : α} (h : l[i]? = some a) : l.getD i b = a := by
  rw [List.getD_eq_getElem?_getD, h]
  rfl
theorem mem_range {n c : Nat} (h : c < n) : c ∈ List.range n := List.mem_range.mpr h
structure ClsOk (d : Dt) (P : Prog) (K : PySem.W.Frag) (c : Nat) (x : Str) (k : Cl) : Prop where
  nx : d.cls[c]? = some x
  kx : P.cls c = some k
  cls : Cls K (He.ga K x)
  mkr : Mk K (He.ga K x) (He.ma K (He.ga K x) "__init__")
  ini : k.ini < P.fns.length
  at_ : d.at_[k.ini]? = some (x, some ("__init__" : Str))
  no : ∀ f ∈ d.T.fds, NoAttr K (He.ga K x) f
  eq : ∀ j, k.eqf = some j → j < P.fns.length ∧ d.at_[j]? = some (x, some ("__eq__" : Str)) ∧ PySem.W.findIn K (.ref (He.ga K x)) "__eq__" = some (some (.ref (He.ma K (He.ga K x) "__eq__"))) ∧ PySem.W.isFn K (.ref (He.ma K (He.ga K x) "__eq__")) = true ∧ PySem.W.notFirst K (He.ga K x) (.type "tuple") = true
  c1 : PySem.W.findIn K (.ref (He.ga K x)) "__class__" = some (some (.builtin "object.__class__"))
  c2 : PySem.W.specialIn K (.builtin "object.__class__") "__get__" = some (some (.builtin "getset_descriptor.__get__"))
  c3 : PySem.W.takesIn K (.builtin "object.__class__") = some true
  c4 : PySem.W.mroIn K (He.ga K x) (.type "object") = some true
  c5 : ∀ n ∈ tyNs, PySem.W.kitOne K (.type n) (.ref (He.ga K x)) = some false
  c6 : ∀ n ∈ tyNs2, PySem.W.kitOne K (.ref (He.ga K x)) (.type n) = some false
  c7 : ∀ c', c' < P.nc → PySem.W.kitOne K (.ref (He.ga K x)) (.ref ((d.G K).cl c')) = some (c == c')
theorem clsB_ok {d : Dt} {P : Prog} {K : PySem.W.Frag} {c : Nat} (h : clsB d P K c = true) : ∃ x k, ClsOk d P K c x k := by
  unfold clsB at h
  cases h1 : d.cls[c]? with
  | none => rw [h1] at h; cases h
  | some x =>
  cases h2 : P.cls c with
  | none => rw [h1, h2] at h; cases h
  | some k =>
    rw [h1, h2] at h
    dsimp only at h
    unfold clsB1 at h
    simp only [Bool.and_eq_true, decide_eq_true_eq] at h
    obtain ⟨⟨⟨⟨⟨⟨⟨⟨⟨⟨⟨⟨a1, a2⟩, a3⟩, a4⟩, a5⟩, a6⟩, a7⟩, a8⟩, a9⟩, a10⟩, a11⟩, a12⟩, a13⟩ := h
    refine ⟨x, k, h1, h2, He.cls_ok a1, He.mkr_ok a2, a3, a4, fun f hf => He.noat_ok (List.all_eq_true.mp a5 f hf), fun j hj => ?_, a7, a8, a9, a10, fun n hn => by simpa using List.all_eq_true.mp a11 n hn, fun n hn => by simpa using List.all_eq_true.mp a12 n hn, fun c' hc => by simpa using List.all_eq_true.mp a13 c' (mem_range hc)⟩
    rw [hj] at a6
    simp only [Bool.and_eq_true, decide_eq_true_eq] at a6
    obtain ⟨⟨⟨⟨b1, b2⟩, b3⟩, b4⟩, b5⟩ := a6
    exact ⟨b1, b2, b3, b4, b5⟩
theorem pf_of {d : Dt} {P : Prog} {K : PySem.W.Frag} {h : Heap} {mg : Str → Option Value} {prog : Program} {w : World} {AS : List AF} (X : K.In h) (N : h.Ns mainGlobals mg) (hb : factsB d P K = true) (hl : AS.length = d.at_.length) (hcl : ∀ c k, P.cls c = some k → c < P.nc)
    (hfn : ∀ (j : Nat) (a : AF), AS[j]? = some a → ∃ fd, FunD K a.name a.qual a.params a.body a.scope [] [] ((d.G K).fa j) fd) (hchk : ∀ (j : Nat) (a : AF) (f : Fn), AS[j]? = some a → P.fns[j]? = some f → chkFn d.T a f = true) : PF P (d.G K) prog w mg AS d.T := by
  unfold factsB at hb
  simp only [Bool.and_eq_true, decide_eq_true_eq] at hb
  obtain ⟨⟨⟨⟨⟨b1, b2⟩, b3⟩, b4⟩, b5⟩, b6⟩ := hb
  have cl : ∀ c, c < P.nc → ∃ x k, ClsOk d P K c x k ∧ (d.G K).cl c = He.ga K x := fun c hc => by
    obtain ⟨x, k, q⟩ := clsB_ok (List.all_eq_true.mp b4 c (mem_range hc))
    exact ⟨x, k, q, by show He.ga K (d.cls.getD c Str.empty) = _; rw [getD_of q.nx]⟩
  have fa : ∀ j p, d.at_[j]? = some p → (d.G K).fa j = He.fAd K p := fun j p hp => by
    show He.fAd K (d.at_.getD j (Str.empty, none)) = _
    rw [getD_of hp]
  refine ⟨by rw [hl, b1], hfn, hchk, fun x j hx => ?_, fun x c hx => ?_, fun c hc => ?_, fun x j hx => ?_, fun n hn => He.free_ok X N (List.all_eq_true.mp b6 n hn), fun f hf c hc => ?_, fun c k j hk hj => ?_, fun Y hY => ⟨fun c hc => ?_, fun n hn c hc => ?_, fun c hc n hn => ?_, fun c c' hc hc' => ?_⟩⟩
  · have q := List.all_eq_true.mp b2 _ (look_mem hx)
    simp only [Bool.and_eq_true, decide_eq_true_eq] at q
    rw [fa j _ q.2]
    exact ⟨He.glo_ok X N q.1, by rw [← b1]; exact (List.getElem?_eq_some_iff.mp q.2).1⟩
  · have q := List.all_eq_true.mp b3 _ (look_mem hx)
    simp only [Bool.and_eq_true, decide_eq_true_eq] at q
    refine ⟨?_, q.2⟩
    show mg x = some (.ref (He.ga K (d.cls.getD c Str.empty)))
    rw [getD_of q.1.2]
    exact He.glo_ok X N q.1.1
  · obtain ⟨x, k, q, e⟩ := cl c hc
    refine ⟨k, q.kx, q.ini, ?_⟩
    rw [e, fa _ _ q.at_]
    exact q.mkr
  · have q := List.all_eq_true.mp b5 _ (look_mem hx)
    unfold glB at q
    split at q
    · rename_i u dd h1 h2
      obtain ⟨v, r1, r2⟩ := relD_ok dd u q
      refine ⟨v, u, dd, ?_, r1, h2, r2⟩
      exact PySem.W.mg_of X N h1
    · cases q
  · obtain ⟨x, k, q, e⟩ := cl c hc
    rw [e]
    exact ⟨q.cls, q.no f hf⟩
  · obtain ⟨x, k2, q, e⟩ := cl c (hcl c k hk)
    have hq := q.kx
    rw [hk] at hq
    cases hq
    obtain ⟨e1, e2, e3, e4, e5⟩ := q.eq j hj
    have ef : (d.G K).fa j = He.ma K (He.ga K x) "__eq__" := fa j _ e2
    rw [ef, e]
    exact ⟨e1, e3, e4, e5⟩
  · obtain ⟨x, k, q, e⟩ := cl c hc
    rw [hY, e]
    exact ⟨q.cls, q.c1, q.c2, q.c3, q.c4⟩
  · obtain ⟨x, k, q, e⟩ := cl c hc
    rw [hY, e]
    exact q.c5 n hn
  · obtain ⟨x, k, q, e⟩ := cl c hc
    rw [hY, e]
    exact q.c6 n hn
  · obtain ⟨x, k, q, e⟩ := cl c hc
    rw [hY, e]
    exact q.c7 c' hc'
end Ev

set_option maxRecDepth 100000
set_option maxHeartbeats 4000000
/-! The head: the top's run tells the facts; the law's def is asked. -/
namespace Ev
open PySem PySem.Spec PyProof.Rows L2

def afOf (d : He.DefD) (N : List Str) : AF := ⟨d.name, d.qual, d.params, d.body, d.scope, N⟩
theorem says_pf {d : Dt} {P : Prog} {fn : List He.DefD} {Ns : List (List Str)} {K : PySem.W.Frag} {h : Heap} {mg : Str → Option Value} {prog : Program} {w : World} (X : K.In h) (N : h.Ns mainGlobals mg) (c : obsM d P fn K = valM fn) (hat : fn.map (·.at_) = d.at_) (hl : Ns.length = fn.length)
    (hd : fn.all (fun d => d.dfl.isEmpty && d.kwd.isEmpty) = true) (hcl : ∀ c k, P.cls c = some k → c < P.nc) (hchk : ((fn.zip Ns).zip P.fns).all (fun p => chkFn d.T (afOf p.1.1 p.1.2) p.2) = true) :
    PF P (d.G K) prog w mg ((fn.zip Ns).map fun p => afOf p.1 p.2) d.T := by
  have c1 : (factsB d P K && fn.all fun d => d.ok K) = true := congrArg (fun z : AlM => z.1) c
  have c2 : fn.map (fun d => He.fnW K d.at_) = fn.map He.DefD.val := congrArg (fun z : AlM => z.2) c
  rw [Bool.and_eq_true] at c1
  refine pf_of X N c1.1 ?_ hcl (fun j a ha => ?_) fun j a f ha hf => ?_
  · rw [← hat]
    simp [hl]
  · rw [List.getElem?_map] at ha
    obtain ⟨p, hp, rfl⟩ := Option.map_eq_some_iff.mp ha
    obtain ⟨h1, h2⟩ := List.getElem?_zip_eq_some.mp hp
    have e2 : (fn.map fun d => He.fnW K d.at_)[j]? = (fn.map He.DefD.val)[j]? := by rw [c2]
    rw [List.getElem?_map, List.getElem?_map, h1] at e2
    obtain ⟨fd, F⟩ := He.DefD.funD (Option.some.inj e2) (List.all_eq_true.mp c1.2 _ (List.mem_of_getElem? h1))
    have hk := List.all_eq_true.mp hd _ (List.mem_of_getElem? h1)
    simp only [Bool.and_eq_true, List.isEmpty_iff] at hk
    have e3 : d.at_[j]? = some p.1.at_ := by rw [← hat, List.getElem?_map, h1]; rfl
    have e4 : (d.G K).fa j = He.fAd K p.1.at_ := by
      show He.fAd K (d.at_.getD j (Str.empty, none)) = _
      rw [getD_of e3]
    rw [e4]
    have e5 : p.1.dvs K = [] := by unfold He.DefD.dvs; rw [hk.1]; rfl
    have e6 : p.1.kws K = [] := by unfold He.DefD.kws; rw [hk.2]; rfl
    rw [e5, e6] at F
    exact ⟨fd, F⟩
  · rw [List.getElem?_map] at ha
    obtain ⟨p, hp, rfl⟩ := Option.map_eq_some_iff.mp ha
    have hz : ((fn.zip Ns).zip P.fns)[j]? = some (p, f) := List.getElem?_zip_eq_some.mpr ⟨hp, hf⟩
    have q := List.all_eq_true.mp hchk (p, f) (List.mem_of_getElem? hz)
    dsimp only at q
    exact q
/-- the law's def, asked of a script -/
theorem law_sp {G : GG} {xf : Nat → Option Str} {H : Hp} {a : Addr} {ns : List Int} {r : List D → M D} (hl : ns.length ≤ SZ) (hO : Only H) (hS : SqL G.K H a (ns.map V.int)) (hr : ∃ w, r [.scr ns] [] = .ok (.bl true) w) : spOf G xf r [.ref a] H (fun v _ => v = .bl true) fun _ _ _ => False := by
  obtain ⟨w', hr⟩ := hr
  have fin : ∀ F : Pr, (∀ b, F b → H b ≠ none) → R G F (fun _ => 0) 0 H (.ref a) (.scr ns) → spOf G xf r [.ref a] H (fun v _ => v = .bl true) fun _ _ _ => False := fun F hF y =>
    ⟨⟨F, fun _ => False, fun _ => 0, fun _ => 0⟩, [], [.scr ns], ⟨fun k d h => by simp at h, fun j k hj => by simp at hj, hF, fun _ h => h.elim, fun _ h => h.elim⟩, .cons y .nil, by
      rw [hr]
      intro v m' H' x r' y'
      cases y'
      rfl⟩
  rcases hS with hS | hS
  · rcases hO a with z | ⟨o, xs, z⟩
    · exfalso
      rcases hS with hS | ⟨o, hS⟩
      · rw [z] at hS; cases hS
      · rw [z] at hS; cases hS
    · have hx : H a = some (.frz o (.lst (ns.map V.int))) := by
        rcases hS with hS | ⟨o', hS⟩
        · rw [z] at hS; cases hS
        · rw [z] at hS; cases hS; exact z
      exact fin (fun b => b = a) (fun b hb => by rw [hb, hx]; simp) (.scr rfl hx hl)
  · exact fin (fun _ => False) (fun _ h => h.elim) (.scrK hS hl)
end Ev

set_option maxRecDepth 100000
set_option maxHeartbeats 0
namespace K13
open PySem PySem.Spec PyProof.Rows L2 Ev
theorem chk : ((fn.zip names).zip prg.fns).all (fun p => chkFn dt.T (afOf p.1.1 p.1.2) p.2) = true := by kernel_rfl
end K13

set_option maxRecDepth 100000
set_option maxHeartbeats 4000000
/-! What a run gives: weakest preconditions. -/
namespace Ev
open PySem

abbrev EK : Type := Nat → Option D → Wd → Prop
def NoE : EK := fun _ _ _ => False
def wp {α : Type} (m : M α) (w : Wd) (Q : α → Wd → Prop) (E : EK) : Prop := match m w with
  | .ok a w' => Q a w'
  | .exc c x w' => E c x w'
  | .stk => False
theorem wp_mono {α : Type} {m : M α} {w : Wd} {Q Q' : α → Wd → Prop} {E E' : EK} (h : wp m w Q E) (hq : ∀ a w', Q a w' → Q' a w') (he : ∀ c x w', E c x w' → E' c x w') : wp m w Q' E' := by
  unfold wp at *
  cases z : m w with
  | ok a w' => rw [z] at h; exact hq _ _ h
  | exc c x w' => rw [z] at h; exact he _ _ _ h
  | stk => rw [z] at h; exact h
theorem wp_mq {α : Type} {m : M α} {w : Wd} {Q Q' : α → Wd → Prop} {E : EK} (h : wp m w Q NoE) (hq : ∀ a w', Q a w' → Q' a w') : wp m w Q' E := wp_mono h hq fun _ _ _ h => h.elim
theorem wp_pure {α : Type} {a : α} {w : Wd} {Q : α → Wd → Prop} {E : EK} : wp (pure a) w Q E = Q a w := id rfl
theorem wp_bind {α β : Type} {m : M α} {f : α → M β} {w : Wd} {Q : β → Wd → Prop} {E : EK} : wp (m >>= f) w Q E = wp m w (fun a w' => wp (f a) w' Q E) E := by
  unfold wp
  rw [bind_def]
  cases m w <;> rfl
theorem wp_stk {α : Type} {w : Wd} {Q : α → Wd → Prop} {E : EK} : wp stk w Q E = False := id rfl
theorem wp_rse {α : Type} {c : Nat} {x : Option D} {w : Wd} {Q : α → Wd → Prop} {E : EK} : wp (rse c x) w Q E = E c x w := id rfl
theorem wp_grd {p : Prop} [Decidable p] {m : M D} {w : Wd} {Q : D → Wd → Prop} {E : EK} : wp (grd p m) w Q E = (p ∧ wp m w Q E) := by
  rw [grd_if]
  by_cases h : p
  · rw [if_pos h]; simp [h]
  · rw [if_neg h]; simp [h, wp_stk]
theorem wp_if {α : Type} {p : Prop} [Decidable p] {a b : M α} {w : Wd} {Q : α → Wd → Prop} {E : EK} : wp (if p then a else b) w Q E = if p then wp a w Q E else wp b w Q E := by
  by_cases h : p
  · simp [h]
  · simp [h]
theorem wp_ifs {α : Type} {p : Prop} [Decidable p] {a : M α} {w : Wd} {Q : α → Wd → Prop} {E : EK} : wp (if p then a else stk) w Q E = (p ∧ wp a w Q E) := by
  by_cases h : p
  · simp [h]
  · simp [h, wp_stk]
theorem wp_cat {e : Env} {m : M Fl} {w : Wd} {Q : Fl → Wd → Prop} {E : EK} : wp (cat e m) w Q E = wp m w Q (fun c x w' => Q (.xc c x e) w') := by
  unfold wp cat
  cases m w <;> rfl
/-- a value that must be a flag -/
def onB (Q : Bool → Wd → Prop) : D → Wd → Prop
  | .bl b, w => Q b w
  | _, _ => False
theorem onB_bl {Q : Bool → Wd → Prop} {b : Bool} {w : Wd} : onB Q (.bl b) w = Q b w := id rfl
theorem wp_tst {m : M D} {w : Wd} {Q : Bool → Wd → Prop} {E : EK} : wp (tst m) w Q E = wp m w (onB Q) E := by
  unfold tst
  rw [wp_bind]
  unfold wp
  cases m w with
  | ok a w' => cases a <;> rfl
  | exc c x w' => rfl
  | stk => rfl
def endK (Q : D → Wd → Prop) (E : EK) : Fl → Wd → Prop
  | .nx _, w => Q .non w
  | .rt d, w => Q d w
  | .xc c x _, w => E c x w
  | _, _ => False
theorem endK_nx {Q : D → Wd → Prop} {E : EK} {e : Env} {w : Wd} : endK Q E (.nx e) w = Q .non w := id rfl
theorem endK_rt {Q : D → Wd → Prop} {E : EK} {d : D} {w : Wd} : endK Q E (.rt d) w = Q d w := id rfl
theorem endK_xc {Q : D → Wd → Prop} {E : EK} {c : Nat} {x : Option D} {e : Env} {w : Wd} : endK Q E (.xc c x e) w = E c x w := id rfl
theorem wp_endF {m : M Fl} {w : Wd} {Q : D → Wd → Prop} {E : EK} : wp (endF m) w Q E = wp m w (endK Q E) NoE := by
  unfold wp endF
  cases m w with
  | ok a w' => cases a <;> rfl
  | exc c x w' => rfl
  | stk => rfl
def endKI (Q : D → Wd → Prop) (E : EK) : Fl → Wd → Prop
  | .nx (.own d :: _), w => Q d w
  | .xc c x _, w => E c x w
  | _, _ => False
theorem endKI_nx {Q : D → Wd → Prop} {E : EK} {d : D} {e : Env} {w : Wd} : endKI Q E (.nx (.own d :: e)) w = Q d w := id rfl
theorem endKI_xc {Q : D → Wd → Prop} {E : EK} {c : Nat} {x : Option D} {e : Env} {w : Wd} : endKI Q E (.xc c x e) w = E c x w := id rfl
theorem wp_endI {m : M Fl} {w : Wd} {Q : D → Wd → Prop} {E : EK} : wp (endI m) w Q E = wp m w (endKI Q E) NoE := by
  unfold wp endI
  cases m w with
  | ok a w' =>
    cases a with
    | nx e => cases e with
      | nil => rfl
      | cons s e => cases s <;> rfl
    | _ => rfl
  | exc c x w' => rfl
  | stk => rfl
theorem wp_noX {α : Type} {m : M α} {w : Wd} {Q : α → Wd → Prop} {E : EK} : wp (noX m) w Q E = wp m w Q NoE := by
  unfold wp noX
  cases m w <;> rfl
theorem eq_pure {α : Type} {m : M α} {d : α} (h : ∀ w, wp m w (fun a w' => a = d ∧ w' = w) NoE) : m = pure d := by
  funext w
  have q := h w
  unfold wp at q
  cases z : m w with
  | ok a w' => rw [z] at q; obtain ⟨rfl, rfl⟩ := q; rfl
  | exc c x w' => rw [z] at q; exact q.elim
  | stk => rw [z] at q; exact q.elim
theorem eq_rse {α : Type} {m : M α} {c : Nat} {x : Option D} (h : ∀ w, wp m w (fun _ _ => False) (fun c' x' w' => c' = c ∧ x' = x ∧ w' = w)) : m = rse c x := by
  funext w
  have q := h w
  unfold wp at q
  cases z : m w with
  | ok a w' => rw [z] at q; exact q.elim
  | exc c x w' => rw [z] at q; obtain ⟨rfl, rfl, rfl⟩ := q; rfl
  | stk => rw [z] at q; exact q.elim

/-! ### statements -/
/-- what stands behind a statement -/
def kont (C : Cfg) (r : Ss) (Q : Fl → Wd → Prop) (E : EK) : Fl → Wd → Prop
  | .nx e, w => wp (exs C r e) w Q E
  | f, w => Q f w
theorem kont_nx {C : Cfg} {r : Ss} {Q : Fl → Wd → Prop} {E : EK} {e : Env} {w : Wd} : kont C r Q E (.nx e) w = wp (exs C r e) w Q E := id rfl
theorem kont_rt {C : Cfg} {r : Ss} {Q : Fl → Wd → Prop} {E : EK} {d : D} {w : Wd} : kont C r Q E (.rt d) w = Q (.rt d) w := id rfl
theorem kont_bk {C : Cfg} {r : Ss} {Q : Fl → Wd → Prop} {E : EK} {e : Env} {w : Wd} : kont C r Q E (.bk e) w = Q (.bk e) w := id rfl
theorem kont_ct {C : Cfg} {r : Ss} {Q : Fl → Wd → Prop} {E : EK} {e : Env} {w : Wd} : kont C r Q E (.ct e) w = Q (.ct e) w := id rfl
theorem kont_xc {C : Cfg} {r : Ss} {Q : Fl → Wd → Prop} {E : EK} {c : Nat} {x : Option D} {e : Env} {w : Wd} : kont C r Q E (.xc c x e) w = Q (.xc c x e) w := id rfl
theorem kont_nil {C : Cfg} {Q : Fl → Wd → Prop} {E : EK} : kont C .nil Q E = Q := by
  funext f w
  cases f with
  | nx e => show wp (exs C .nil e) w Q E = _; rw [exs]; rfl
  | _ => rfl
theorem wp_nil {C : Cfg} {e : Env} {w : Wd} {Q : Fl → Wd → Prop} {E : EK} : wp (exs C .nil e) w Q E = Q (.nx e) w := by rw [exs]; rfl
theorem wp_cons {C : Cfg} {s : S} {r : Ss} {e : Env} {w : Wd} {Q : Fl → Wd → Prop} {E : EK} : wp (exs C (.cons s r) e) w Q E = wp (ex C s e) w (kont C r Q E) E := by
  rw [exs, wp_bind]
  unfold wp
  cases ex C s e w with
  | ok a w' => cases a <;> rfl
  | exc c x w' => rfl
  | stk => rfl
def kif (C : Cfg) (a b : Ss) (e : Env) (Q : Fl → Wd → Prop) (E : EK) : Bool → Wd → Prop
  | true, w => wp (exs C a e) w Q E
  | false, w => wp (exs C b e) w Q E
theorem kif_t {C : Cfg} {a b : Ss} {e : Env} {Q : Fl → Wd → Prop} {E : EK} {w : Wd} : kif C a b e Q E true w = wp (exs C a e) w Q E := id rfl
theorem kif_f {C : Cfg} {a b : Ss} {e : Env} {Q : Fl → Wd → Prop} {E : EK} {w : Wd} : kif C a b e Q E false w = wp (exs C b e) w Q E := id rfl
/-- what a term of a statement raises -/
def kx (Q : Fl → Wd → Prop) (e : Env) : EK := fun c x w => Q (.xc c x e) w
theorem wp_iff {C : Cfg} {c : X} {a b : Ss} {e : Env} {w : Wd} {Q : Fl → Wd → Prop} {E : EK} : wp (ex C (.iff c a b) e) w Q E = wp (ev C c e) w (onB (kif C a b e Q E)) (kx Q e) := by
  rw [ex, ← wp_tst]
  unfold wp
  dsimp only
  cases tst (ev C c e) w with
  | ok a w' => cases a <;> rfl
  | exc c x w' => rfl
  | stk => rfl
theorem wp_set {C : Cfg} {i : Nat} {x : X} {e : Env} {w : Wd} {Q : Fl → Wd → Prop} {E : EK} : wp (ex C (.set i x false) e) w Q E = wp (nb e x (ev C x e)) w (fun d w' => wp (setS e i (.val d)) w' Q (kx Q e)) (kx Q e) := by
  rw [ex, wp_cat, wp_bind]; rfl
theorem wp_seto {C : Cfg} {i : Nat} {x : X} {e : Env} {w : Wd} {Q : Fl → Wd → Prop} {E : EK} : wp (ex C (.set i x true) e) w Q E = wp (ev C x e) w (fun d w' => (contD d = true ∧ i ≠ 0) ∧ wp (setS e i (.own d)) w' Q (kx Q e)) (kx Q e) := by
  rw [ex, wp_cat]
  simp only [wp_bind, wp_ifs]; rfl
theorem wp_setG {C : Cfg} (hh : C.hot = false) {t : Tg} {x : X} {e : Env} {w : Wd} {Q : Fl → Wd → Prop} {E : EK} : wp (ex C (.setG t x) e) w Q E = wp (nb e x (ev C x e)) w (fun d w' => ∃ e', bindTg t d e = some e' ∧ Q (.nx e') w') (kx Q e) := by
  rw [ex, wp_cat]
  unfold calm
  rw [hh]
  simp only [Bool.false_eq_true, if_false, wp_bind]
  show wp (nb e x (ev C x e)) w _ (kx Q e) = _
  refine congrArg (fun q => wp (nb e x (ev C x e)) w q (kx Q e)) ?_
  funext d w'
  cases bindTg t d e with
  | none => simp [wp_stk]
  | some e' => simp [wp_pure]
theorem wp_par {C : Cfg} (hh : C.hot = false) {ts : List (Nat × Bool)} {es : Xs} {e : Env} {w : Wd} {Q : Fl → Wd → Prop} {E : EK} : wp (ex C (.par ts es) e) w Q E = wp (evs C es e) w (fun d w' => ∃ e', parE ts d e = some e' ∧ Q (.nx e') w') (kx Q e) := by
  rw [ex, wp_cat]
  unfold calm
  rw [hh]
  simp only [Bool.false_eq_true, if_false, wp_bind]
  show wp (evs C es e) w _ (kx Q e) = _
  refine congrArg (fun q => wp (evs C es e) w q (kx Q e)) ?_
  funext d w'
  cases parE ts d e with
  | none => simp [wp_stk]
  | some e' => simp [wp_pure]
theorem wp_ret {C : Cfg} {x : X} {e : Env} {w : Wd} {Q : Fl → Wd → Prop} {E : EK} : wp (ex C (.ret x) e) w Q E = wp (nb e x (ev C x e)) w (fun d w' => Q (.rt d) w') (kx Q e) := by
  rw [ex, wp_cat, wp_bind]; rfl
theorem wp_retc {C : Cfg} {x : X} {e : Env} {w : Wd} {Q : Fl → Wd → Prop} {E : EK} : wp (ex C (.retc x) e) w Q E = wp (ev C x e) w (fun d w' => contD d = true ∧ Q (.rt (.cel w'.length)) (w' ++ [d])) (kx Q e) := by
  rw [ex, wp_cat, wp_bind]
  refine congrArg (fun q => wp (ev C x e) w q (kx Q e)) ?_
  funext d w'
  rw [wp_ifs]; rfl
theorem wp_ex {C : Cfg} {x : X} {e : Env} {w : Wd} {Q : Fl → Wd → Prop} {E : EK} : wp (ex C (.ex x) e) w Q E = wp (ev C x e) w (fun d w' => Q (.nx e) w') (kx Q e) := by
  rw [ex, wp_cat, wp_bind]; rfl
theorem wp_stx {C : Cfg} {i : Nat} {k x : X} {e : Env} {w : Wd} {Q : Fl → Wd → Prop} {E : EK} : wp (ex C (.stx i k x) e) w Q E = wp (nb e x (ev C x e)) w (fun d w' => wp (isS e i) w' (fun _ w' => wp (ev C k e) w' (fun k w' => wp (putAt e i k d) w' Q (kx Q e)) (kx Q e)) (kx Q e)) (kx Q e) := by
  rw [ex, wp_cat]
  simp only [wp_bind]; rfl
theorem wp_stf {C : Cfg} {i : Nat} {f : Str} {x : X} {e : Env} {w : Wd} {Q : Fl → Wd → Prop} {E : EK} : wp (ex C (.stf i f x) e) w Q E = wp (nb e x (ev C x e)) w (fun d w' => wp (putFld C e i f d) w' Q (kx Q e)) (kx Q e) := by
  rw [ex, wp_cat]
  simp only [wp_bind]; rfl
def app1 (e : Env) (i : Nat) (Q : Fl → Wd → Prop) (E : EK) : List D → Wd → Prop
  | [d], w => wp (toL e i fun xs => if xs.length < SZ then some (xs ++ [d]) else none) w Q E
  | _, _ => False
theorem app1_one {e : Env} {i : Nat} {Q : Fl → Wd → Prop} {E : EK} {d : D} {w : Wd} : app1 e i Q E [d] w = wp (toL e i fun xs => if xs.length < SZ then some (xs ++ [d]) else none) w Q E := id rfl
theorem wp_app {C : Cfg} {i : Nat} {es : Xs} {e : Env} {w : Wd} {Q : Fl → Wd → Prop} {E : EK} : wp (ex C (.app i es) e) w Q E = wp (isL e i) w (fun _ w' => wp (evs C es e) w' (app1 e i Q (kx Q e)) (kx Q e)) (kx Q e) := by
  rw [ex, wp_cat]
  simp only [wp_bind]
  refine congrArg (fun q => wp (isL e i) w q (kx Q e)) ?_
  funext _ w'
  refine congrArg (fun q => wp (evs C es e) w' q (kx Q e)) ?_
  funext d w'
  match d with
  | [] => rfl
  | [d] => rfl
  | _ :: _ :: _ => rfl
def ext1 (e : Env) (i : Nat) (Q : Fl → Wd → Prop) (E : EK) : List D → Wd → Prop
  | [.lst ys], w => wp (toL e i fun xs => if xs.length + ys.length ≤ SZ then some (xs ++ ys) else none) w Q E
  | [.tup ys], w => wp (toL e i fun xs => if xs.length + ys.length ≤ SZ then some (xs ++ ys) else none) w Q E
  | _, _ => False
theorem ext1_l {e : Env} {i : Nat} {Q : Fl → Wd → Prop} {E : EK} {ys : List D} {w : Wd} : ext1 e i Q E [.lst ys] w = wp (toL e i fun xs => if xs.length + ys.length ≤ SZ then some (xs ++ ys) else none) w Q E := id rfl
theorem ext1_t {e : Env} {i : Nat} {Q : Fl → Wd → Prop} {E : EK} {ys : List D} {w : Wd} : ext1 e i Q E [.tup ys] w = wp (toL e i fun xs => if xs.length + ys.length ≤ SZ then some (xs ++ ys) else none) w Q E := id rfl
theorem wp_ext {C : Cfg} {i : Nat} {es : Xs} {e : Env} {w : Wd} {Q : Fl → Wd → Prop} {E : EK} : wp (ex C (.ext i es) e) w Q E = wp (isL e i) w (fun _ w' => wp (evs C es e) w' (ext1 e i Q (kx Q e)) (kx Q e)) (kx Q e) := by
  rw [ex, wp_cat]
  simp only [wp_bind]
  refine congrArg (fun q => wp (isL e i) w q (kx Q e)) ?_
  funext _ w'
  refine congrArg (fun q => wp (evs C es e) w' q (kx Q e)) ?_
  funext d w'
  match d with
  | [] => rfl
  | [d] => cases d <;> rfl
  | d :: _ :: _ => cases d <;> rfl
theorem wp_for {C : Cfg} (hh : C.hot = false) {tg : Tg} {it : It} {b : Ss} {e : Env} {w : Wd} {Q : Fl → Wd → Prop} {E : EK} : wp (ex C (.for tg it b) e) w Q E = wp (evI C it e) w (fun ds w' => wp (forGo tg (fun e => exs C b e) ds e) w' Q E) (kx Q e) := by
  rw [ex]
  unfold calm
  rw [hh]
  show wp (onL e (evI C it e) fun ds => forGo tg (fun e => exs C b e) ds e) w Q E = _
  unfold wp onL
  cases evI C it e w <;> rfl
theorem wp_brk {C : Cfg} {e : Env} {w : Wd} {Q : Fl → Wd → Prop} {E : EK} : wp (ex C .brk e) w Q E = Q (.bk e) w := by rw [ex]; rfl
theorem wp_cnt {C : Cfg} {e : Env} {w : Wd} {Q : Fl → Wd → Prop} {E : EK} : wp (ex C .cnt e) w Q E = Q (.ct e) w := by rw [ex]; rfl
theorem wp_pas {C : Cfg} {e : Env} {w : Wd} {Q : Fl → Wd → Prop} {E : EK} : wp (ex C .pas e) w Q E = Q (.nx e) w := by rw [ex]; rfl
theorem wp_frz {C : Cfg} {is : List Nat} {s : S} {e : Env} {w : Wd} {Q : Fl → Wd → Prop} {E : EK} : wp (ex C (.frz is s) e) w Q E = wp (ex C s (frzE e is)) w Q E := by rw [ex]
theorem wp_rse1 {C : Cfg} (hh : C.hot = false) {c : Nat} {x : X} {e : Env} {w : Wd} {Q : Fl → Wd → Prop} {E : EK} : wp (ex C (.rse c (.so x)) e) w Q E = wp (nb e x (ev C x e)) w (fun d w' => Q (.xc c (some d) e) w') (kx Q e) := by
  rw [ex]
  unfold calm
  rw [hh]
  rw [if_neg (by simp), wp_cat, wp_bind]; rfl
theorem wp_rse0 {C : Cfg} (hh : C.hot = false) {c : Nat} {e : Env} {w : Wd} {Q : Fl → Wd → Prop} {E : EK} : wp (ex C (.rse c .no) e) w Q E = Q (.xc c none e) w := by
  rw [ex]
  unfold calm
  rw [hh]; rfl
/-! ### slots -/
theorem wp_setS {e : Env} {i : Nat} {s : Slot} {w : Wd} {Q : Fl → Wd → Prop} {E : EK} : wp (setS e i s) w Q E = (i < e.length ∧ Q (.nx (e.set i s)) w) := by
  unfold setS
  rw [wp_ifs]; rfl
/-! ### loops -/
/-- a for: before turn i stands I i -/
theorem wp_forGo {tg : Tg} {b : Env → M Fl} {Q : Fl → Wd → Prop} {E : EK} (I : Nat → Env → Wd → Prop) : ∀ (ds : List D) (k : Nat) (e : Env) (w : Wd), I k e w →
    (∀ i d e w, ds[i]? = some d → I (k + i) e w → ∃ e', bindTg tg d e = some e' ∧ wp (b e') w (fun f w' => match f with
      | .nx e2 => I (k + i + 1) e2 w'
      | .ct e2 => I (k + i + 1) e2 w'
      | .bk e2 => Q (.nx e2) w'
      | f => Q f w') E) → (∀ e w, I (k + ds.length) e w → Q (.nx e) w) → wp (forGo tg b ds e) w Q E
  | [], k, e, w, h0, _, hQ => by
    rw [forGo, wp_pure]
    exact hQ _ _ h0
  | d :: r, k, e, w, h0, hs, hQ => by
    rw [forGo]
    obtain ⟨e', h1, h2⟩ := hs 0 d e w rfl h0
    rw [h1]
    dsimp only
    rw [wp_bind]
    refine wp_mono h2 (fun f w' hf => ?_) fun c x w' h => h
    have next : ∀ e2, I (k + 1) e2 w' → wp (forGo tg b r e2) w' Q E := fun e2 h => by
      refine wp_forGo I r (k + 1) e2 w' h (fun i d e w hd hi => ?_) fun e w h => ?_
      · have q := hs (i + 1) d e w (by simpa using hd) (by rw [show k + (i + 1) = k + 1 + i from by omega]; exact hi)
        rw [show k + (i + 1) = k + 1 + i from by omega] at q
        exact q
      · refine hQ e w ?_
        rw [List.length_cons, show k + (r.length + 1) = k + 1 + r.length from by omega]
        exact h
    cases f with
    | nx e2 => exact next e2 hf
    | ct e2 => exact next e2 hf
    | bk e2 => exact hf
    | rt d => exact hf
    | xc c x e => exact hf
theorem wp_forGo0 {tg : Tg} {b : Env → M Fl} {Q : Fl → Wd → Prop} {E : EK} (I : Nat → Env → Wd → Prop) {ds : List D} {e : Env} {w : Wd} (h0 : I 0 e w)
    (hs : ∀ i d e w, ds[i]? = some d → I i e w → ∃ e', bindTg tg d e = some e' ∧ wp (b e') w (fun f w' => match f with
      | .nx e2 => I (i + 1) e2 w'
      | .ct e2 => I (i + 1) e2 w'
      | .bk e2 => Q (.nx e2) w'
      | f => Q f w') E) (hQ : ∀ e w, I ds.length e w → Q (.nx e) w) : wp (forGo tg b ds e) w Q E :=
  wp_forGo I ds 0 e w h0 (fun i d e w hd hi => by simpa using hs i d e w hd (by simpa using hi)) (by simpa using hQ)
/-- a comprehension over typed things -/
theorem lcGo_map {α : Type} {f : Env → M D} {c : Env → M Bool} {tg : Tg} {e : Env} (enc : α → D) (p : α → Bool) (g : α → D) : ∀ (xs : List α),
    (∀ a ∈ xs, ∃ e', bindTg tg (enc a) e = some e' ∧ c e' = pure (p a) ∧ (p a = true → f e' = pure (g a))) → lcGo f c tg e (xs.map enc) = pure ((xs.filter p).map g)
  | [], _ => rfl
  | a :: r, h => by
    obtain ⟨e', h1, h2, h3⟩ := h a (List.mem_cons_self ..)
    have ih := lcGo_map (f := f) (c := c) (tg := tg) (e := e) enc p g r fun b hb => h b (List.mem_cons_of_mem _ hb)
    rw [List.map_cons, lcGo, h1]
    dsimp only
    rw [h2, pure_bnd]
    cases z : p a with
    | true => dsimp only; rw [h3 z, pure_bnd, ih, pure_bnd, List.filter_cons_of_pos z]; rfl
    | false => dsimp only; rw [ih, List.filter_cons_of_neg (by simp [z])]
/-- .. that change things, no test -/
theorem wp_lcGo {f : Env → M D} {tg : Tg} {e : Env} {E : EK} (I : List D → Wd → Prop) : ∀ (ds : List D) (acc : List D) (w : Wd) (Q : List D → Wd → Prop), I acc w →
    (∀ acc w d, d ∈ ds → I acc w → ∃ e', bindTg tg d e = some e' ∧ wp (f e') w (fun y w' => I (acc ++ [y]) w') E) → (∀ ys w, ys.length = ds.length → I (acc ++ ys) w → Q ys w) → wp (lcGo f (fun _ => pure true) tg e ds) w Q E
  | [], acc, w, Q, h0, _, hQ => by
    rw [lcGo, wp_pure]
    exact hQ [] w rfl (by simpa using h0)
  | d :: r, acc, w, Q, h0, hs, hQ => by
    obtain ⟨e', h1, h2⟩ := hs acc w d (List.mem_cons_self ..) h0
    rw [lcGo, h1]
    dsimp only
    rw [pure_bnd]
    dsimp only
    rw [wp_bind]
    refine wp_mono h2 (fun y w' hy => ?_) fun c x w' h => h
    rw [wp_bind]
    refine wp_lcGo I r (acc ++ [y]) w' _ hy (fun acc w d hd => hs acc w d (List.mem_cons_of_mem _ hd)) fun ys w hl hi => ?_
    rw [wp_pure]
    exact hQ _ _ (by simp [hl]) (by simpa using hi)
end Ev

set_option maxRecDepth 100000
set_option maxHeartbeats 4000000
/-! Data: typed things as trees. -/
namespace Ev
open PySem

/-! ### equality -/
mutual
/-- no flags, nothing mutable -/
def D.pl : D → Bool
  | .non => true | .int _ => true | .str _ => true
  | .tup xs => D.plAll xs | .lst xs => D.plAll xs
  | _ => false
def D.plAll : List D → Bool
  | [] => true
  | x :: r => x.pl && D.plAll r
end
mutual
theorem eqv_iff : ∀ (a b : D), a.pl = true → b.pl = true → (PyData.eqv a.py b.py = true ↔ a = b)
  | .non, b, _, h => by cases b <;> simp [D.pl] at h <;> simp [D.py, PyData.eqv]
  | .int i, b, _, h => by cases b <;> simp [D.pl] at h <;> simp [D.py, PyData.eqv]
  | .str i, b, _, h => by cases b <;> simp [D.pl] at h <;> simp [D.py, PyData.eqv]
  | .tup xs, b, g, h => by
    rw [D.pl] at g
    cases b with
    | tup ys => rw [D.pl] at h; rw [D.py, D.py, PyData.eqv, eqv_iffAll xs ys g h]; simp
    | _ => simp [D.pl] at h <;> simp [D.py, PyData.eqv]
  | .lst xs, b, g, h => by
    rw [D.pl] at g
    cases b with
    | lst ys => rw [D.pl] at h; rw [D.py, D.py, PyData.eqv, eqv_iffAll xs ys g h]; simp
    | _ => simp [D.pl] at h <;> simp [D.py, PyData.eqv]
  | .bl _, _, g, _ => by simp [D.pl] at g
  | .dic _, _, g, _ => by simp [D.pl] at g
  | .ins _ _, _, g, _ => by simp [D.pl] at g
  | .cel _, _, g, _ => by simp [D.pl] at g
  | .fn _, _, g, _ => by simp [D.pl] at g
  | .scr _, _, g, _ => by simp [D.pl] at g
theorem eqv_iffAll : ∀ (xs ys : List D), D.plAll xs = true → D.plAll ys = true → (PyData.eqvAll (D.pyAll xs) (D.pyAll ys) = true ↔ xs = ys)
  | [], [], _, _ => by simp [D.pyAll, PyData.eqvAll]
  | [], _ :: _, _, _ => by simp [D.pyAll, PyData.eqvAll]
  | _ :: _, [], _, _ => by simp [D.pyAll, PyData.eqvAll]
  | x :: xs, y :: ys, g, h => by
    rw [D.plAll, Bool.and_eq_true] at g h
    rw [D.pyAll, D.pyAll, PyData.eqvAll, Bool.and_eq_true, eqv_iff x y g.1 h.1, eqv_iffAll xs ys g.2 h.2]
    simp
end
theorem eqv_t {a : D} (h : a.pl = true) : D.eqv a a = true := (eqv_iff a a h h).mpr rfl
theorem eqv_f {a b : D} (g : a.pl = true) (h : b.pl = true) (n : a ≠ b) : D.eqv a b = false := by
  cases z : D.eqv a b with
  | false => rfl
  | true => exact absurd ((eqv_iff a b g h).mp z) n
theorem eqv_enc {α : Type} [DecidableEq α] (enc : α → D) (inj : ∀ a b, enc a = enc b → a = b) (hp : ∀ a, (enc a).pl = true) (a b : α) : D.eqv (enc a) (enc b) = decide (a = b) := by
  by_cases h : a = b
  · subst h; rw [eqv_t (hp a)]; simp
  · rw [eqv_f (hp a) (hp b) fun e => h (inj _ _ e)]; simp [h]
theorem eqv_int {i j : Int} : D.eqv (.int i) (.int j) = decide (i = j) := by
  show (i == j) = _
  by_cases h : i = j <;> simp [h]
theorem eqv_str {x y : Str} : D.eqv (.str x) (.str y) = (x == y) := id rfl
theorem eqv_bl {x y : Bool} : D.eqv (.bl x) (.bl y) = (x == y) := id rfl
theorem shape_int {i j : Int} : shape2 (.int i) (.int j) = true := id rfl
theorem shape_bl {i j : Bool} : shape2 (.bl i) (.bl j) = true := id rfl
theorem eqv_tup {xs ys : List D} : D.eqv (.tup xs) (.tup ys) = PyData.eqvAll (D.pyAll xs) (D.pyAll ys) := id rfl
/-- what == may look at: flat enough -/
def D.ok (k : Nat) (d : D) : Bool := d.shp && decide (d.dep ≤ k)
theorem shape_ok {a b : D} {k l : Nat} (ha : a.ok k = true) (hb : b.ok l = true) (hk : k ≤ 60) (hl : l ≤ 60) : shape2 a b = true := by
  unfold D.ok at ha hb
  rw [Bool.and_eq_true, decide_eq_true_eq] at ha hb
  unfold shape2
  rw [ha.1, hb.1]
  simp; omega
theorem shpAll_iff {xs : List D} : D.shpAll xs = true ↔ ∀ x ∈ xs, x.shp = true := by
  induction xs with
  | nil => simp [D.shpAll]
  | cons x r ih => simp [D.shpAll, ih]
theorem plAll_iff {xs : List D} : D.plAll xs = true ↔ ∀ x ∈ xs, x.pl = true := by
  induction xs with
  | nil => simp [D.plAll]
  | cons x r ih => simp [D.plAll, ih]
theorem depAll_le {xs : List D} {k : Nat} : D.depAll xs ≤ k ↔ ∀ x ∈ xs, x.dep ≤ k := by
  induction xs with
  | nil => simp [D.depAll]
  | cons x r ih => simp [D.depAll, Nat.max_le, ih]
theorem ok_iff {d : D} {k : Nat} : d.ok k = true ↔ d.shp = true ∧ d.dep ≤ k := by unfold D.ok; simp
theorem ok_tup {xs : List D} {k : Nat} : (D.tup xs).ok (k + 1) = true ↔ ∀ x ∈ xs, x.ok k = true := by
  simp only [ok_iff, D.shp, D.dep, shpAll_iff, Nat.add_le_add_iff_right, depAll_le]
  exact ⟨fun h x hx => ⟨h.1 x hx, h.2 x hx⟩, fun h => ⟨fun x hx => (h x hx).1, fun x hx => (h x hx).2⟩⟩
theorem ok_lst {xs : List D} {k : Nat} : (D.lst xs).ok (k + 1) = true ↔ ∀ x ∈ xs, x.ok k = true := by
  simp only [ok_iff, D.shp, D.dep, shpAll_iff, Nat.add_le_add_iff_right, depAll_le]
  exact ⟨fun h x hx => ⟨h.1 x hx, h.2 x hx⟩, fun h => ⟨fun x hx => (h x hx).1, fun x hx => (h x hx).2⟩⟩
theorem ok_int {i : Int} {k : Nat} : (D.int i).ok k = true := by unfold D.ok; rfl
theorem ok_non {k : Nat} : (D.non).ok k = true := by unfold D.ok; rfl
theorem ok_mono {d : D} {k l : Nat} (h : d.ok k = true) (hl : k ≤ l) : d.ok l = true := by
  rw [ok_iff] at *
  exact ⟨h.1, by omega⟩
theorem pl_tup {xs : List D} : (D.tup xs).pl = true ↔ ∀ x ∈ xs, x.pl = true := by rw [D.pl]; exact plAll_iff
theorem pl_lst {xs : List D} : (D.lst xs).pl = true ↔ ∀ x ∈ xs, x.pl = true := by rw [D.pl]; exact plAll_iff

/-! ### places -/
theorem atI_nat {α : Type} {xs : List α} {k : Nat} : L2.atI xs (k : Int) = xs[k]? := by
  unfold L2.atI L2.ixN
  rw [if_pos (by omega)]
  by_cases h : k < xs.length
  · rw [if_pos (by omega)]; simp
  · rw [if_neg (by omega)]; simp; omega
theorem atI_map {α β : Type} {f : α → β} {xs : List α} {k : Nat} : L2.atI (xs.map f) (k : Int) = (xs[k]?).map f := by rw [atI_nat, List.getElem?_map]
theorem atI_last {α : Type} {xs : List α} {x : α} : L2.atI (xs ++ [x]) (-1) = some x := by
  unfold L2.atI L2.ixN
  rw [if_neg (by omega), if_pos (by simp; omega)]
  have e : (-1 + ((xs ++ [x]).length : Int)).toNat = xs.length := by simp; omega
  rw [e]
  simp
theorem atI_0 {α : Type} {a : α} {r : List α} : L2.atI (a :: r) 0 = some a := atI_nat (k := 0)
theorem atI_1 {α : Type} {a b : α} {r : List α} : L2.atI (a :: b :: r) 1 = some b := atI_nat (k := 1)
theorem atI_2 {α : Type} {a b c : α} {r : List α} : L2.atI (a :: b :: c :: r) 2 = some c := atI_nat (k := 2)
theorem atI_3 {α : Type} {a b c d : α} {r : List α} : L2.atI (a :: b :: c :: d :: r) 3 = some d := atI_nat (k := 3)
theorem atI_4 {α : Type} {a b c d e : α} {r : List α} : L2.atI (a :: b :: c :: d :: e :: r) 4 = some e := atI_nat (k := 4)
theorem atI_5 {α : Type} {a b c d e f : α} {r : List α} : L2.atI (a :: b :: c :: d :: e :: f :: r) 5 = some f := atI_nat (k := 5)
theorem atI_6 {α : Type} {a b c d e f g : α} {r : List α} : L2.atI (a :: b :: c :: d :: e :: f :: g :: r) 6 = some g := atI_nat (k := 6)
theorem cut_to {α : Type} {xs : List α} {k : Nat} : cut xs none (some (k : Int)) = xs.take k := by
  unfold cut
  rw [HT.sIx_none, HT.sIx_nat]
  simp
theorem cut_from {α : Type} {xs : List α} {k : Nat} : cut xs (some (k : Int)) none = xs.drop k := by
  unfold cut
  rw [HT.sIx_none, HT.sIx_nat]
  rcases Nat.le_total k xs.length with h | h
  · rw [Nat.min_eq_left h, ← List.length_drop, List.take_length]
  · rw [Nat.min_eq_right h, List.drop_of_length_le h]; simp
theorem sIx_3 {n d : Nat} : HT.sIx n d (some 3) = min 3 n := HT.sIx_nat n d 3
theorem sIx_2 {n d : Nat} : HT.sIx n d (some 2) = min 2 n := HT.sIx_nat n d 2

/-! ### options -/
def eO {α : Type} (f : α → D) : Option α → D
  | none => .non
  | some a => f a
theorem eO_none {α : Type} {f : α → D} : eO f none = .non := id rfl
theorem eO_some {α : Type} {f : α → D} {a : α} : eO f (some a) = f a := id rfl

/-! ### dicts by ints -/
theorem dfind_int {kvs : List (D × D)} {k : Int} : dfind kvs (.int k) = (kvs.find? fun p => keyEq p.1 (.int k)).map (·.2) := id rfl
theorem find_map1 {α β : Type} (r : α → Bool) (f : α → α) (g : α → β) (v : β) (h1 : ∀ p, r p = true → r (f p) = true ∧ g (f p) = v) (h2 : ∀ p, r p = false → f p = p) : ∀ (l : List α), l.any r = true → ((l.map f).find? r).map g = some v
  | [], h => by simp at h
  | p :: l, h => by
    rw [List.map_cons, List.find?_cons]
    cases z : r p with
    | true => rw [(h1 p z).1]; simp [(h1 p z).2]
    | false =>
      rw [h2 p z, z]
      exact find_map1 r f g v h1 h2 l (by simpa [z] using h)
theorem find_map2 {α β : Type} (r s : α → Bool) (f : α → α) (g : α → β) (h1 : ∀ p, r p = true → s p = false ∧ s (f p) = false) (h2 : ∀ p, r p = false → f p = p) : ∀ (l : List α), ((l.map f).find? s).map g = (l.find? s).map g
  | [] => rfl
  | p :: l => by
    rw [List.map_cons, List.find?_cons, List.find?_cons]
    cases z : r p with
    | true => rw [(h1 p z).1, (h1 p z).2]; exact find_map2 r s f g h1 h2 l
    | false =>
      rw [h2 p z]
      cases y : s p with
      | true => rfl
      | false => exact find_map2 r s f g h1 h2 l
theorem keyEq_int {d : D} {k : Int} (h : keyEq d (.int k) = true) : d = .int k := by
  cases d with
  | int i => simp only [keyEq, decide_eq_true_eq] at h; rw [h]
  | _ => simp [keyEq] at h
theorem keyEq_ii {i k : Int} : keyEq (.int i) (.int k) = decide (i = k) := id rfl
theorem dput_find {kvs : List (D × D)} {k j : Int} {v : D} : dfind (dput kvs (.int k) v) (.int j) = if k = j then some v else dfind kvs (.int j) := by
  unfold dput dfind
  by_cases h : k = j
  · subst h
    rw [if_pos rfl]
    split
    · rename_i ha
      refine find_map1 (fun p => keyEq p.1 (.int k)) _ (·.2) v (fun p hp => ?_) (fun p hp => ?_) kvs ha
      · rw [if_pos hp]; exact ⟨hp, rfl⟩
      · rw [if_neg (by rw [hp]; simp)]
    · rename_i ha
      rw [List.find?_append]
      have e : kvs.find? (fun p => keyEq p.1 (.int k)) = none := by
        rw [List.find?_eq_none]
        intro p hp z
        exact ha (List.any_eq_true.mpr ⟨p, hp, z⟩)
      rw [e]
      simp [keyEq_ii]
  · rw [if_neg h]
    split
    · refine find_map2 (fun p => keyEq p.1 (.int k)) (fun p => keyEq p.1 (.int j)) _ (·.2) (fun p hp => ?_) (fun p hp => ?_) kvs
      · have e := keyEq_int hp
        have e2 : keyEq p.1 (.int j) = false := by rw [e, keyEq_ii]; simpa using h
        rw [if_pos hp]
        exact ⟨e2, e2⟩
      · rw [if_neg (by rw [hp]; simp)]
    · rw [List.find?_append]
      have e : List.find? (fun p => keyEq p.1 (.int j)) [(D.int k, v)] = none := by simp [keyEq_ii, h]
      rw [e]
      simp
theorem dput_le {kvs : List (D × D)} {k v : D} : (dput kvs k v).length ≤ kvs.length + 1 := by
  unfold dput
  split
  · simp
  · simp
/-! ### hands -/
/-- the law's source of draws stands in the first cell -/
def HandOk (w : Wd) : Prop := ∃ (xs : List Int) (i b s c : Int), w = [.lst [.lst (xs.map .int), .int i, .int b, .int s, .int c]] ∧ 0 ≤ i
end Ev

set_option maxRecDepth 100000
set_option maxHeartbeats 4000000
/-! What terms give, one rule a term. -/
namespace Ev
open PySem
variable {C : Cfg} {e : Env} {w : Wd}

theorem we_k {d : D} {Q : D → Wd → Prop} {E : EK} : wp (ev C (.k d) e) w Q E = Q d w := by rw [ev]; rfl
/-- what stands in a slot -/
def zvS (Q : D → Wd → Prop) (w : Wd) : Option Slot → Prop
  | some (.val d) => Q d w
  | some (.own d) => Q d w
  | _ => False
def znS (Q : D → Wd → Prop) (w : Wd) : Option Slot → Prop
  | some (.val d) => Q d w
  | _ => False
theorem zvS_val {Q : D → Wd → Prop} {d : D} : zvS Q w (some (.val d)) = Q d w := id rfl
theorem zvS_own {Q : D → Wd → Prop} {d : D} : zvS Q w (some (.own d)) = Q d w := id rfl
theorem znS_val {Q : D → Wd → Prop} {d : D} : znS Q w (some (.val d)) = Q d w := id rfl
theorem we_v {i : Nat} {Q : D → Wd → Prop} {E : EK} : wp (ev C (.v i) e) w Q E = zvS Q w e[i]? := by
  rw [ev]
  unfold getV
  cases e[i]? with
  | none => rfl
  | some s => cases s <;> rfl
theorem nb_v {i : Nat} {Q : D → Wd → Prop} {E : EK} : wp (nb e (.v i) (ev C (.v i) e)) w Q E = znS Q w e[i]? := by
  rw [ev]
  unfold nb ownV getV
  dsimp only
  rcases Option.eq_none_or_eq_some e[i]? with h | ⟨s, h⟩
  · simp only [h]; rfl
  · cases s <;> simp only [h] <;> rfl
def fldD (C : Cfg) (f : Str) : D → M D
  | .ins c fs => if c < C.nc then ofO (fs.lookup f) else stk
  | _ => stk
theorem fldD_ins {f : Str} {c : Nat} {fs : List (Str × D)} : fldD C f (.ins c fs) = if c < C.nc then ofO (fs.lookup f) else stk := id rfl
def zfS (C : Cfg) (f : Str) (w : Wd) (Q : D → Wd → Prop) (E : EK) : Option Slot → Prop
  | some (.val d) => wp (der d) w (fun x w => wp (fldD C f x) w Q E) E
  | some (.own d) => wp (der d) w (fun x w => wp (fldD C f x) w Q E) E
  | some (.exc c x) => wp (fldX C c x f) w Q E
  | _ => False
theorem zfS_val {f : Str} {Q : D → Wd → Prop} {E : EK} {d : D} : zfS C f w Q E (some (.val d)) = wp (der d) w (fun x w => wp (fldD C f x) w Q E) E := id rfl
theorem zfS_own {f : Str} {Q : D → Wd → Prop} {E : EK} {d : D} : zfS C f w Q E (some (.own d)) = wp (der d) w (fun x w => wp (fldD C f x) w Q E) E := id rfl
theorem we_fld {i : Nat} {f : Str} {Q : D → Wd → Prop} {E : EK} : wp (ev C (.fld (.v i) f) e) w Q E = zfS C f w Q E e[i]? := by
  rw [ev]
  unfold ownX
  dsimp only
  rw [ev]
  unfold getV
  cases e[i]? with
  | none => rfl
  | some s => cases s with
    | val d => dsimp only; rw [pure_bnd, wp_bind]; rfl
    | own d => dsimp only; rw [pure_bnd, wp_bind]; rfl
    | _ => rfl
def ziS (C : Cfg) (ts : List Ty) (w : Wd) (Q : D → Wd → Prop) (E : EK) : Option Slot → Prop
  | some (.val d) => match isaTs C.nc d ts with | some b => Q (.bl b) w | none => False
  | some (.own d) => match isaTs C.nc d ts with | some b => Q (.bl b) w | none => False
  | some (.exc c x) => wp (isaX C c ts) w Q E
  | _ => False
theorem ziS_val {ts : List Ty} {Q : D → Wd → Prop} {E : EK} {d : D} : ziS C ts w Q E (some (.val d)) = (match isaTs C.nc d ts with | some b => Q (.bl b) w | none => False) := id rfl
theorem ziS_own {ts : List Ty} {Q : D → Wd → Prop} {E : EK} {d : D} : ziS C ts w Q E (some (.own d)) = (match isaTs C.nc d ts with | some b => Q (.bl b) w | none => False) := id rfl
theorem we_isa {i : Nat} {ts : List Ty} {Q : D → Wd → Prop} {E : EK} : wp (ev C (.isa (.v i) ts) e) w Q E = ziS C ts w Q E e[i]? := by
  rw [ev]
  unfold ownX
  dsimp only
  rw [ev]
  unfold getV
  cases e[i]? with
  | none => rfl
  | some s => cases s with
    | val d => dsimp only; rw [pure_bnd]; unfold ziS; dsimp only; cases isaTs C.nc d ts <;> rfl
    | own d => dsimp only; rw [pure_bnd]; unfold ziS; dsimp only; cases isaTs C.nc d ts <;> rfl
    | _ => rfl
theorem we_isax {a : X} {ts : List Ty} {Q : D → Wd → Prop} {E : EK} (h : ∀ i, a ≠ .v i) : wp (ev C (.isa a ts) e) w Q E = wp (ev C a e) w (fun d w => ziS C ts w Q E (some (.val d))) E := by
  rw [ev]
  have q : ownX e a = none := by
    cases a with
    | v i => exact absurd rfl (h i)
    | _ => rfl
  rw [q]
  dsimp only
  rw [wp_bind]
  refine congrArg (fun q => wp (ev C a e) w q E) ?_
  funext d w
  unfold ziS
  dsimp only
  cases isaTs C.nc d ts <;> rfl
def zcS (C : Cfg) (w : Wd) (es : M (List D)) (Q : D → Wd → Prop) (E : EK) : Option Slot → Prop
  | some (.val (.fn j)) => j < C.nf ∧ wp es w (fun ds w => wp (C.cf j ds) w Q E) E
  | some (.own (.fn j)) => j < C.nf ∧ wp es w (fun ds w => wp (C.cf j ds) w Q E) E
  | _ => False
theorem zcS_val {j : Nat} {es : M (List D)} {Q : D → Wd → Prop} {E : EK} : zcS C w es Q E (some (.val (.fn j))) = (j < C.nf ∧ wp es w (fun ds w => wp (C.cf j ds) w Q E) E) := id rfl
theorem we_cav (hh : C.hot = false) {i : Nat} {es : Xs} {Q : D → Wd → Prop} {E : EK} : wp (ev C (.cav i es) e) w Q E = zcS C w (evs C es e) Q E e[i]? := by
  rw [ev]; unfold calm getV; rw [hh]
  rw [if_neg (by simp), wp_bind]
  cases e[i]? with
  | none => rfl
  | some s => cases s with
    | val d => cases d with
      | fn j => dsimp only; rw [wp_pure]; dsimp only; rw [wp_ifs, wp_bind]; rfl
      | _ => rfl
    | own d => cases d with
      | fn j => dsimp only; rw [wp_pure]; dsimp only; rw [wp_ifs, wp_bind]; rfl
      | _ => rfl
    | _ => rfl
def zgS (C : Cfg) (a b : X) (e : Env) (w : Wd) (Q : D → Wd → Prop) (E : EK) : Option Slot → Prop
  | some (.val (.dic kvs)) => wp (ev C a e) w (fun k w => wp (nb e b (ev C b e)) w (fun z w => isKey k = true ∧ Q ((dfind kvs k).getD z) w) E) E
  | some (.own (.dic kvs)) => wp (ev C a e) w (fun k w => wp (nb e b (ev C b e)) w (fun z w => isKey k = true ∧ Q ((dfind kvs k).getD z) w) E) E
  | _ => False
theorem zgS_val {a b : X} {Q : D → Wd → Prop} {E : EK} {kvs : List (D × D)} : zgS C a b e w Q E (some (.val (.dic kvs))) = wp (ev C a e) w (fun k w => wp (nb e b (ev C b e)) w (fun z w => isKey k = true ∧ Q ((dfind kvs k).getD z) w) E) E := id rfl
theorem zgS_own {a b : X} {Q : D → Wd → Prop} {E : EK} {kvs : List (D × D)} : zgS C a b e w Q E (some (.own (.dic kvs))) = wp (ev C a e) w (fun k w => wp (nb e b (ev C b e)) w (fun z w => isKey k = true ∧ Q ((dfind kvs k).getD z) w) E) E := id rfl
theorem we_get {i : Nat} {a b : X} {Q : D → Wd → Prop} {E : EK} : wp (ev C (.get (.v i) a b) e) w Q E = zgS C a b e w Q E e[i]? := by
  rw [ev, ev, wp_bind]
  unfold getV
  cases e[i]? with
  | none => rfl
  | some s => cases s with
    | val d => cases d with
      | dic j => dsimp only; simp only [wp_pure, wp_bind, wp_ifs]; rfl
      | _ => rfl
    | own d => cases d with
      | dic j => dsimp only; simp only [wp_pure, wp_bind, wp_ifs]; rfl
      | _ => rfl
    | _ => rfl
theorem nb_k {d : D} {m : M D} : nb e (.k d) m = m := id rfl
theorem nb_g {j : Nat} {m : M D} : nb e (.g j) m = m := id rfl
theorem nb_tup {es : Xs} {m : M D} : nb e (.tup es) m = m := id rfl
theorem nb_lst {es : Xs} {m : M D} : nb e (.lst es) m = m := id rfl
theorem nb_bin {o : Bo} {a : X} {b : X} {m : M D} : nb e (.bin o a b) m = m := id rfl
theorem nb_neg {a : X} {m : M D} : nb e (.neg a) m = m := id rfl
theorem nb_not {a : X} {m : M D} : nb e (.not a) m = m := id rfl
theorem nb_cmp {o : Co} {a : X} {b : X} {m : M D} : nb e (.cmp o a b) m = m := id rfl
theorem nb_cmp2 {o : Co} {o' : Co} {a : X} {b : X} {c : X} {m : M D} : nb e (.cmp2 o o' a b c) m = m := id rfl
theorem nb_and {es : Xs} {m : M D} : nb e (.and es) m = m := id rfl
theorem nb_or {es : Xs} {m : M D} : nb e (.or es) m = m := id rfl
theorem nb_ite {c : X} {a : X} {b : X} {m : M D} : nb e (.ite c a b) m = m := id rfl
theorem nb_idx {a : X} {b : X} {m : M D} : nb e (.idx a b) m = m := id rfl
theorem nb_sli {a : X} {lo : Xo} {hi : Xo} {m : M D} : nb e (.sli a lo hi) m = m := id rfl
theorem nb_rev {a : X} {m : M D} : nb e (.rev a) m = m := id rfl
theorem nb_fld {a : X} {f : Str} {m : M D} : nb e (.fld a f) m = m := id rfl
theorem nb_call {j : Nat} {es : Xs} {m : M D} : nb e (.call j es) m = m := id rfl
theorem nb_cav {j : Nat} {es : Xs} {m : M D} : nb e (.cav j es) m = m := id rfl
theorem nb_mk {j : Nat} {es : Xs} {m : M D} : nb e (.mk j es) m = m := id rfl
theorem nb_b1 {bb : B1} {a : X} {m : M D} : nb e (.b1 bb a) m = m := id rfl
theorem nb_max2 {a : X} {b : X} {m : M D} : nb e (.max2 a b) m = m := id rfl
theorem nb_min2 {a : X} {b : X} {m : M D} : nb e (.min2 a b) m = m := id rfl
theorem nb_isa {a : X} {ts : List Ty} {m : M D} : nb e (.isa a ts) m = m := id rfl
theorem nb_lc {a : X} {tg : Tg} {it : It} {lo : Xo} {vs : List Nat} {m : M D} : nb e (.lc a tg it lo vs) m = m := id rfl
theorem nb_lenset {a : X} {m : M D} : nb e (.lenset a) m = m := id rfl
theorem nb_dict0  {m : M D} : nb e (.dict0) m = m := id rfl
theorem nb_srtset {a : X} {m : M D} : nb e (.srtset a) m = m := id rfl
theorem nb_lidx {a b : X} {m : M D} : nb e (.lidx a b) m = m := id rfl
theorem nb_dic1 {a : X} {b : X} {m : M D} : nb e (.dic1 a b) m = m := id rfl
theorem nb_get {a : X} {b : X} {c : X} {m : M D} : nb e (.get a b c) m = m := id rfl
theorem nb_lrng {a : X} {m : M D} : nb e (.lrng a) m = m := id rfl
theorem we_g {j : Nat} {Q : D → Wd → Prop} {E : EK} : wp (ev C (.g j) e) w Q E = wp (ofO C.gs[j]?) w Q E := by rw [ev]
theorem we_tup {es : Xs} {Q : D → Wd → Prop} {E : EK} : wp (ev C (.tup es) e) w Q E = wp (evs C es e) w (fun ds w => ds.length ≤ SZ ∧ Q (.tup ds) w) E := by rw [ev, wp_bind]; simp only [wp_grd, wp_pure]
theorem we_lst {es : Xs} {Q : D → Wd → Prop} {E : EK} : wp (ev C (.lst es) e) w Q E = wp (evs C es e) w (fun ds w => ds.length ≤ SZ ∧ Q (.lst ds) w) E := by rw [ev, wp_bind]; simp only [wp_grd, wp_pure]
theorem we_bin {o : Bo} {a b : X} {Q : D → Wd → Prop} {E : EK} : wp (ev C (.bin o a b) e) w Q E = wp (ev C a e) w (fun x w => wp (ev C b e) w (fun y w => wp (binop o x y) w Q E) E) E := by rw [ev, wp_bind]; simp only [wp_bind]
/-- an int -/
def onI (Q : Int → Wd → Prop) : D → Wd → Prop
  | .int i, w => Q i w
  | _, _ => False
theorem onI_int {Q : Int → Wd → Prop} {i : Int} {w : Wd} : onI Q (.int i) w = Q i w := id rfl
theorem we_neg {a : X} {Q : D → Wd → Prop} {E : EK} : wp (ev C (.neg a) e) w Q E = wp (ev C a e) w (fun x w => onI (fun i w => Q (.int (-i)) w) x w) E := by rw [ev, wp_bind]; refine congrArg (fun q => wp (ev C a e) w q E) ?_; funext x w; cases x <;> rfl
theorem we_not {a : X} {Q : D → Wd → Prop} {E : EK} : wp (ev C (.not a) e) w Q E = wp (ev C a e) w (onB fun b w => Q (.bl (!b)) w) E := by rw [ev, wp_bind, wp_tst]; rfl
def cmpE (C : Cfg) (e : Env) (a b : X) (o : Co) (x y : D) : M D := if isIns x && o == .eq then eqIns C e a b x y else der y >>= fun y => cmpop o x y
theorem cmpE_n {a b : X} {o : Co} {x y : D} (h : isIns x = false) : cmpE C e a b o x y = (der y >>= fun y => cmpop o x y) := by
  unfold cmpE
  rw [h]; rfl
theorem we_cmp {o : Co} {a b : X} {Q : D → Wd → Prop} {E : EK} : wp (ev C (.cmp o a b) e) w Q E = wp (ev C a e) w (fun x w => wp (ev C b e) w (fun y w => wp (cmpE C e a b o x y) w Q E) E) E := by rw [ev, wp_bind]; simp only [wp_bind]; rfl
/-- on a flag: the first if it holds -/
def kand (A B : Prop) : Bool → Prop
  | true => A
  | false => B
theorem kand_t {A B : Prop} : kand A B true = A := id rfl
theorem kand_f {A B : Prop} : kand A B false = B := id rfl
theorem we_cmp2 {o o' : Co} {a b c : X} {Q : D → Wd → Prop} {E : EK} : wp (ev C (.cmp2 o o' a b c) e) w Q E = wp (ev C a e) w (fun x w => wp (ev C b e) w (fun y w => wp (cmpop o x y) w (onB fun r w => kand (wp (ev C c e) w (fun z w => wp (cmpop o' y z) w Q E) E) (Q (.bl false) w) r) E) E) E := by
  rw [ev, wp_bind]; simp only [wp_bind, wp_tst]
  refine congrArg (fun q => wp (ev C a e) w q E) ?_
  funext x w
  refine congrArg (fun q => wp (ev C b e) w q E) ?_
  funext y w
  refine congrArg (fun q => wp (cmpop o x y) w q E) ?_
  refine congrArg onB ?_
  funext r w
  cases r
  · rfl
  · dsimp only; rw [wp_bind]; rfl
theorem we_and {es : Xs} {Q : D → Wd → Prop} {E : EK} : wp (ev C (.and es) e) w Q E = wp (evAnd C es e) w Q E := by rw [ev]
theorem we_or {es : Xs} {Q : D → Wd → Prop} {E : EK} : wp (ev C (.or es) e) w Q E = wp (evOr C es e) w Q E := by rw [ev]
theorem we_and1 {x : X} {Q : D → Wd → Prop} {E : EK} : wp (evAnd C (.cons x .nil) e) w Q E = wp (nb e x (ev C x e)) w Q E := by rw [evAnd]
theorem we_or1 {x : X} {Q : D → Wd → Prop} {E : EK} : wp (evOr C (.cons x .nil) e) w Q E = wp (nb e x (ev C x e)) w Q E := by rw [evOr]
theorem we_and2 {x y : X} {r : Xs} {Q : D → Wd → Prop} {E : EK} : wp (evAnd C (.cons x (.cons y r)) e) w Q E = wp (ev C x e) w (onB fun b w => kand (wp (evAnd C (.cons y r) e) w Q E) (Q (.bl false) w) b) E := by
  rw [evAnd, wp_bind, wp_tst]
  refine congrArg (fun q => wp (ev C x e) w (onB q) E) ?_
  funext b w
  cases b <;> rfl
theorem we_or2 {x y : X} {r : Xs} {Q : D → Wd → Prop} {E : EK} : wp (evOr C (.cons x (.cons y r)) e) w Q E = wp (ev C x e) w (onB fun b w => kand (Q (.bl true) w) (wp (evOr C (.cons y r) e) w Q E) b) E := by
  rw [evOr, wp_bind, wp_tst]
  refine congrArg (fun q => wp (ev C x e) w (onB q) E) ?_
  funext b w
  cases b <;> rfl
theorem we_ite {c a b : X} {Q : D → Wd → Prop} {E : EK} : wp (ev C (.ite c a b) e) w Q E = wp (ev C c e) w (onB fun r w => kand (wp (nb e a (ev C a e)) w Q E) (wp (nb e b (ev C b e)) w Q E) r) E := by
  rw [ev, wp_bind, wp_tst]
  refine congrArg (fun q => wp (ev C c e) w (onB q) E) ?_
  funext r w
  cases r <;> rfl
theorem we_idx {a b : X} {Q : D → Wd → Prop} {E : EK} : wp (ev C (.idx a b) e) w Q E = wp (ev C a e) w (fun x w => wp (ev C b e) w (fun y w => wp (der x) w (fun x w => wp (idxop x y) w Q E) E) E) E := by rw [ev]; simp only [wp_bind]
theorem we_sli {a : X} {lo hi : Xo} {Q : D → Wd → Prop} {E : EK} : wp (ev C (.sli a lo hi) e) w Q E = wp (ev C a e) w (fun x w => wp (evo C lo e) w (fun l w => wp (evo C hi e) w (fun h w => wp (der x) w (fun x w => wp (sliop x l h) w Q E) E) E) E) E := by rw [ev]; simp only [wp_bind]
theorem we_no {Q : Option Int → Wd → Prop} {E : EK} : wp (evo C .no e) w Q E = Q none w := by rw [evo]; rfl
theorem we_so {x : X} {Q : Option Int → Wd → Prop} {E : EK} : wp (evo C (.so x) e) w Q E = wp (ev C x e) w (onI fun i w => Q (some i) w) E := by rw [evo, wp_bind]; refine congrArg (fun q => wp (ev C x e) w q E) ?_; funext x w; cases x <;> rfl
theorem we_call (hh : C.hot = false) {j : Nat} {es : Xs} {Q : D → Wd → Prop} {E : EK} : wp (ev C (.call j es) e) w Q E = wp (evs C es e) w (fun ds w => wp (C.cf j ds) w Q E) E := by rw [ev]; unfold calm; rw [hh]; simp only [Bool.false_eq_true, if_false, wp_bind]
theorem we_mk (hh : C.hot = false) {j : Nat} {es : Xs} {Q : D → Wd → Prop} {E : EK} : wp (ev C (.mk j es) e) w Q E = wp (evs C es e) w (fun ds w => wp (C.cm j ds) w Q E) E := by rw [ev]; unfold calm; rw [hh]; simp only [Bool.false_eq_true, if_false, wp_bind]
theorem we_b1 {b : B1} {a : X} {Q : D → Wd → Prop} {E : EK} : wp (ev C (.b1 b a) e) w Q E = wp (ev C a e) w (fun x w => wp (der x) w (fun x w => wp (b1op b x) w Q E) E) E := by rw [ev]; simp only [wp_bind]
theorem we_max2 (hh : C.hot = false) {a b : X} {Q : D → Wd → Prop} {E : EK} : wp (ev C (.max2 a b) e) w Q E = wp (ev C a e) w (fun x w => wp (ev C b e) w (fun y w => onI (fun i w => onI (fun j w => Q (.int (if j > i then j else i)) w) y w) x w) E) E := by
  rw [ev]; unfold calm; rw [hh]
  simp only [Bool.false_eq_true, if_false, wp_bind]
  refine congrArg (fun q => wp (ev C a e) w q E) ?_
  funext x w
  refine congrArg (fun q => wp (ev C b e) w q E) ?_
  funext y w
  cases x <;> cases y <;> rfl
theorem we_min2 (hh : C.hot = false) {a b : X} {Q : D → Wd → Prop} {E : EK} : wp (ev C (.min2 a b) e) w Q E = wp (ev C a e) w (fun x w => wp (ev C b e) w (fun y w => onI (fun i w => onI (fun j w => Q (.int (if j < i then j else i)) w) y w) x w) E) E := by
  rw [ev]; unfold calm; rw [hh]
  simp only [Bool.false_eq_true, if_false, wp_bind]
  refine congrArg (fun q => wp (ev C a e) w q E) ?_
  funext x w
  refine congrArg (fun q => wp (ev C b e) w q E) ?_
  funext y w
  cases x <;> cases y <;> rfl
theorem we_lc (hh : C.hot = false) {x : X} {tg : Tg} {it : It} {c : Xo} {vs : List Nat} {Q : D → Wd → Prop} {E : EK} : wp (ev C (.lc x tg it c vs) e) w Q E = wp (evI C it e) w (fun ds w => (wipeOk e vs = true ∧ ds.length ≤ SZ) ∧ wp (lcGo (fun e' => noX (nb e' x (ev C x e'))) (fun e' => noX (evc C c e')) tg (wipeE e vs) ds) w (fun ys w => Q (.lst ys) w) E) E := by
  rw [ev]; unfold calm; rw [hh]
  simp only [Bool.false_eq_true, if_false, wp_bind]
  refine congrArg (fun q => wp (evI C it e) w q E) ?_
  funext ds w
  by_cases h : (wipeOk e vs && decide (ds.length ≤ SZ)) = true
  · rw [if_pos h, wp_bind]
    rw [Bool.and_eq_true, decide_eq_true_eq] at h
    simp only [h, and_self, true_and]; rfl
  · rw [if_neg h, wp_stk]
    rw [Bool.and_eq_true, decide_eq_true_eq] at h
    simp only [h, false_and]
theorem we_dict0 {Q : D → Wd → Prop} {E : EK} : wp (ev C (.dict0) e) w Q E = Q (.dic []) w := by rw [ev]; rfl
/-- a list -/
def onLst (Q : List D → Wd → Prop) : D → Wd → Prop
  | .lst i, w => Q i w
  | _, _ => False
theorem onLst_l {Q : List D → Wd → Prop} {i : List D} {w : Wd} : onLst Q (.lst i) w = Q i w := id rfl
theorem we_dic1 {a b : X} {Q : D → Wd → Prop} {E : EK} : wp (ev C (.dic1 a b) e) w Q E = wp (ev C a e) w (fun x w => wp (nb e b (ev C b e)) w (fun y w => isKey x = true ∧ Q (.dic [(x, y)]) w) E) E := by rw [ev]; simp only [wp_bind, wp_ifs, wp_pure]
theorem we_nil {Q : List D → Wd → Prop} {E : EK} : wp (evs C .nil e) w Q E = Q [] w := by rw [evs]; rfl
theorem we_cons {x : X} {r : Xs} {Q : List D → Wd → Prop} {E : EK} : wp (evs C (.cons x r) e) w Q E = wp (nb e x (ev C x e)) w (fun d w => wp (evs C r e) w (fun ds w => Q (d :: ds) w) E) E := by rw [evs]; simp only [wp_bind, wp_pure]
theorem we_lrng (hh : C.hot = false) {a : X} {Q : D → Wd → Prop} {E : EK} : wp (ev C (.lrng a) e) w Q E = wp (ev C a e) w (fun x w => wp (lrngOf x) w Q E) E := by
  rw [ev]; unfold calm; rw [hh]
  simp only [Bool.false_eq_true, if_false, wp_bind]
theorem we_rev {a : X} {Q : D → Wd → Prop} {E : EK} : wp (ev C (.rev a) e) w Q E = wp (ev C a e) w (fun x w => onLst (fun xs w => Q (.lst xs.reverse) w) x w) E := by
  rw [ev, wp_bind]; refine congrArg (fun q => wp (ev C a e) w q E) ?_; funext x w; cases x <;> rfl
theorem we_Ix {a : X} {Q : List D → Wd → Prop} {E : EK} : wp (evI C (.x a) e) w Q E = wp (nb e a (ev C a e)) w (fun d w => wp (itemsOf d) w Q E) E := by rw [evI, wp_bind]
theorem we_rng {es : Xs} {Q : List D → Wd → Prop} {E : EK} : wp (evI C (.rng es) e) w Q E = wp (evs C es e) w (fun d w => wp (rngOf d) w Q E) E := by rw [evI, wp_bind]
theorem we_enum {es : Xs} {Q : List D → Wd → Prop} {E : EK} : wp (evI C (.enum es) e) w Q E = wp (evs C es e) w (fun d w => wp (enumOf d) w Q E) E := by rw [evI, wp_bind]
theorem we_zip {es : Xs} {Q : List D → Wd → Prop} {E : EK} : wp (evI C (.zip es) e) w Q E = wp (evs C es e) w (fun d w => wp (zipOf d) w Q E) E := by rw [evI, wp_bind]
theorem evc_no : evc C .no e = pure true := by rw [evc]
theorem evc_so {x : X} : evc C (.so x) e = tst (ev C x e) := by rw [evc]
/-! ### operators -/
theorem b_addi {i j : Int} : binop .add (.int i) (.int j) = pure (.int (i + j)) := id rfl
theorem b_adds {x y : Str} : binop .add (.str x) (.str y) = grd (x.length + y.length ≤ SZ) (pure (.str (x ++ y))) := id rfl
theorem b_addt {x y : List D} : binop .add (.tup x) (.tup y) = grd (x.length + y.length ≤ SZ) (pure (.tup (x ++ y))) := id rfl
theorem b_addl {x y : List D} : binop .add (.lst x) (.lst y) = grd (x.length + y.length ≤ SZ) (pure (.lst (x ++ y))) := id rfl
theorem b_sub {i j : Int} : binop .sub (.int i) (.int j) = pure (.int (i - j)) := id rfl
theorem b_mul {i j : Int} : binop .mul (.int i) (.int j) = grd (mulOk i j) (pure (.int (i * j))) := id rfl
theorem b_mult {x : List D} {k : Int} : binop .mul (.tup x) (.int k) = grd (x ≠ [] ∧ 1 ≤ k ∧ k ≤ 1000 ∧ x.length ≤ 1000) (pure (.tup (List.replicate k.toNat x).flatten)) := id rfl
theorem b_mull {x : List D} {k : Int} : binop .mul (.lst x) (.int k) = grd (-(2 ^ 63) ≤ k ∧ k < 2 ^ 63 ∧ x.length * k.toNat ≤ SZ) (pure (.lst (List.replicate k.toNat x).flatten)) := id rfl
theorem b_fdv {i j : Int} : binop .fdv (.int i) (.int j) = grd (0 < j ∧ j < 1073741824) (pure (.int (i / j))) := id rfl
theorem b_mod {i j : Int} : binop .mod (.int i) (.int j) = grd (0 < j) (pure (.int (i % j))) := id rfl
theorem b_pow {i j : Int} : binop .pow (.int i) (.int j) = grd (0 ≤ j ∧ j ≤ 1000000 ∧ i.natAbs < 2 ^ 64) (pure (.int (i ^ j.toNat))) := id rfl
theorem c_eq {a b : D} : cmpop .eq a b = if shape2 a b then pure (.bl (D.eqv a b)) else stk := id rfl
theorem c_ne {a b : D} : cmpop .ne a b = if shape2 a b then pure (.bl (!D.eqv a b)) else stk := id rfl
theorem c_lt {i j : Int} : cmpop .lt (.int i) (.int j) = pure (.bl (decide (i < j))) := id rfl
theorem c_le {i j : Int} : cmpop .le (.int i) (.int j) = pure (.bl (decide (i ≤ j))) := id rfl
theorem c_gt {i j : Int} : cmpop .gt (.int i) (.int j) = pure (.bl (decide (j < i))) := id rfl
theorem c_ge {i j : Int} : cmpop .ge (.int i) (.int j) = pure (.bl (decide (j ≤ i))) := id rfl
theorem c_is {a : D} : cmpop .is a .non = pure (.bl (isNon a)) := by cases a <;> rfl
theorem c_nis {a : D} : cmpop .nis a .non = pure (.bl (!isNon a)) := by cases a <;> rfl
theorem c_isb {a b : Bool} : cmpop .is (.bl a) (.bl b) = pure (.bl (a == b)) := id rfl
theorem c_nisb {a b : Bool} : cmpop .nis (.bl a) (.bl b) = pure (.bl (!(a == b))) := id rfl
theorem c_int {a : D} {xs : List D} : cmpop .isin a (.tup xs) = if flatD a && xs.all flatD then pure (.bl (hasD a xs)) else stk := id rfl
theorem c_nint {a : D} {xs : List D} : cmpop .nin a (.tup xs) = if flatD a && xs.all flatD then pure (.bl (!hasD a xs)) else stk := id rfl
theorem c_inl {a : D} {xs : List D} : cmpop .isin a (.lst xs) = if shapes a xs then pure (.bl (hasD a xs)) else stk := id rfl
theorem c_ninl {a : D} {xs : List D} : cmpop .nin a (.lst xs) = if shapes a xs then pure (.bl (!hasD a xs)) else stk := id rfl
theorem c_ind {a : D} {kvs : List (D × D)} : cmpop .isin a (.dic kvs) = if isKey a then pure (.bl (dfind kvs a).isSome) else stk := id rfl
theorem c_nind {a : D} {kvs : List (D × D)} : cmpop .nin a (.dic kvs) = if isKey a then pure (.bl (!(dfind kvs a).isSome)) else stk := id rfl
theorem x_tup {xs : List D} {k : Int} : idxop (.tup xs) (.int k) = ofO (L2.atI xs k) := id rfl
theorem x_lst {xs : List D} {k : Int} : idxop (.lst xs) (.int k) = ofO (L2.atI xs k) := id rfl
theorem x_dic {kvs : List (D × D)} {k : D} : idxop (.dic kvs) k = if isKey k then ofO (dfind kvs k) else stk := id rfl
theorem l_tup {xs : List D} {lo hi : Option Int} : sliop (.tup xs) lo hi = pure (.tup (cut xs lo hi)) := id rfl
theorem l_lst {xs : List D} {lo hi : Option Int} : sliop (.lst xs) lo hi = pure (.lst (cut xs lo hi)) := id rfl
theorem l_scr {xs : List Int} {lo hi : Option Int} : sliop (.scr xs) lo hi = pure (.lst (cut (xs.map .int) lo hi)) := id rfl
theorem f_len_tup {xs : List D} : b1op .len (.tup xs) = pure (.int xs.length) := id rfl
theorem f_len_lst {xs : List D} : b1op .len (.lst xs) = pure (.int xs.length) := id rfl
theorem f_len_dic {xs : List (D × D)} : b1op .len (.dic xs) = pure (.int xs.length) := id rfl
theorem f_len_scr {xs : List Int} : b1op .len (.scr xs) = pure (.int xs.length) := id rfl
theorem f_tuple_t {xs : List D} : b1op .tuple (.tup xs) = pure (.tup xs) := id rfl
theorem f_tuple_l {xs : List D} : b1op .tuple (.lst xs) = pure (.tup xs) := id rfl
theorem f_list_t {xs : List D} : b1op .list (.tup xs) = pure (.lst xs) := id rfl
theorem f_list_l {xs : List D} : b1op .list (.lst xs) = pure (.lst xs) := id rfl
theorem f_list_s {xs : List Int} : b1op .list (.scr xs) = pure (.lst (xs.map .int)) := id rfl
theorem f_int {i : Int} : b1op .int (.int i) = pure (.int i) := id rfl
theorem f_abs {i : Int} : b1op .abs (.int i) = pure (.int (if i < 0 then -i else i)) := id rfl
theorem boolsD_map {α : Type} {p : α → Bool} {xs : List α} : boolsD (xs.map fun a => D.bl (p a)) = some (xs.map p) := by
  induction xs with
  | nil => rfl
  | cons x r ih => rw [List.map_cons, boolsD, ih]; rfl
theorem intsD_map {α : Type} {p : α → Int} {xs : List α} : intsD (xs.map fun a => D.int (p a)) = some (xs.map p) := by
  induction xs with
  | nil => rfl
  | cons x r ih => rw [List.map_cons, intsD, ih]; rfl
theorem f_all {α : Type} {p : α → Bool} {xs : List α} : b1op .all (.lst (xs.map fun a => D.bl (p a))) = pure (.bl (xs.all p)) := by
  show (match boolsD (xs.map fun a => D.bl (p a)) with | some bs => pure (.bl (bs.all id)) | none => stk : M D) = _
  rw [boolsD_map]; dsimp only; rw [List.all_map]; rfl
theorem f_any {α : Type} {p : α → Bool} {xs : List α} : b1op .any (.lst (xs.map fun a => D.bl (p a))) = pure (.bl (xs.any p)) := by
  show (match boolsD (xs.map fun a => D.bl (p a)) with | some bs => pure (.bl (bs.any id)) | none => stk : M D) = _
  rw [boolsD_map]; dsimp only; rw [List.any_map]; rfl
theorem it_tup {xs : List D} : itemsOf (.tup xs) = pure xs := id rfl
theorem it_lst {xs : List D} : itemsOf (.lst xs) = pure xs := id rfl
theorem r_one {j : Int} : rngOf [.int j] = if rngOk j then pure (rngD 0 j.toNat) else stk := id rfl
theorem r_two {i j : Int} : rngOf [.int i, .int j] = if rngOk i ∧ rngOk j then pure (rngD i (j - i).toNat) else stk := id rfl
theorem lr_one {n : Int} : lrngOf (.int n) = if rngOk n ∧ n.toNat ≤ SZ then pure (.lst (rngD 0 n.toNat)) else stk := id rfl
theorem en_t {xs : List D} : enumOf [.tup xs] = pure (enumD xs) := id rfl
theorem en_l {xs : List D} : enumOf [.lst xs] = pure (enumD xs) := id rfl
theorem zi_t {xs ys : List D} : zipOf [.tup xs, .tup ys] = pure (zipD xs ys) := id rfl
theorem zi_l {xs ys : List D} : zipOf [.lst xs, .lst ys] = pure (zipD xs ys) := id rfl
theorem zi_tl {xs ys : List D} : zipOf [.tup xs, .lst ys] = pure (zipD xs ys) := id rfl
theorem zi_lt {xs ys : List D} : zipOf [.lst xs, .tup ys] = pure (zipD xs ys) := id rfl
theorem of_s {d : D} : ofO (some d) = pure d := id rfl
theorem of_n  : ofO none = stk := id rfl
theorem der_non  : der .non = pure .non := id rfl
theorem ins_non  : isIns .non = false := id rfl
theorem non_non  : isNon .non = true := id rfl
theorem flat_non  : flatD .non = true := id rfl
theorem key_non  : isKey .non = false := id rfl
theorem cont_non  : contD .non = false := id rfl
theorem der_bl {b : Bool} : der (.bl b) = pure (.bl b) := id rfl
theorem ins_bl {b : Bool} : isIns (.bl b) = false := id rfl
theorem non_bl {b : Bool} : isNon (.bl b) = false := id rfl
theorem flat_bl {b : Bool} : flatD (.bl b) = true := id rfl
theorem key_bl {b : Bool} : isKey (.bl b) = false := id rfl
theorem cont_bl {b : Bool} : contD (.bl b) = false := id rfl
theorem der_int {i : Int} : der (.int i) = pure (.int i) := id rfl
theorem ins_int {i : Int} : isIns (.int i) = false := id rfl
theorem non_int {i : Int} : isNon (.int i) = false := id rfl
theorem flat_int {i : Int} : flatD (.int i) = true := id rfl
theorem key_int {i : Int} : isKey (.int i) = true := id rfl
theorem cont_int {i : Int} : contD (.int i) = false := id rfl
theorem der_str {s : Str} : der (.str s) = pure (.str s) := id rfl
theorem ins_str {s : Str} : isIns (.str s) = false := id rfl
theorem non_str {s : Str} : isNon (.str s) = false := id rfl
theorem flat_str {s : Str} : flatD (.str s) = true := id rfl
theorem key_str {s : Str} : isKey (.str s) = true := id rfl
theorem cont_str {s : Str} : contD (.str s) = false := id rfl
theorem der_tup {xs : List D} : der (.tup xs) = pure (.tup xs) := id rfl
theorem ins_tup {xs : List D} : isIns (.tup xs) = false := id rfl
theorem non_tup {xs : List D} : isNon (.tup xs) = false := id rfl
theorem flat_tup {xs : List D} : flatD (.tup xs) = false := id rfl
theorem key_tup {xs : List D} : isKey (.tup xs) = false := id rfl
theorem cont_tup {xs : List D} : contD (.tup xs) = false := id rfl
theorem der_lst {xs : List D} : der (.lst xs) = pure (.lst xs) := id rfl
theorem ins_lst {xs : List D} : isIns (.lst xs) = false := id rfl
theorem non_lst {xs : List D} : isNon (.lst xs) = false := id rfl
theorem flat_lst {xs : List D} : flatD (.lst xs) = false := id rfl
theorem key_lst {xs : List D} : isKey (.lst xs) = false := id rfl
theorem cont_lst {xs : List D} : contD (.lst xs) = true := id rfl
theorem der_dic {xs : List (D × D)} : der (.dic xs) = pure (.dic xs) := id rfl
theorem ins_dic {xs : List (D × D)} : isIns (.dic xs) = false := id rfl
theorem non_dic {xs : List (D × D)} : isNon (.dic xs) = false := id rfl
theorem flat_dic {xs : List (D × D)} : flatD (.dic xs) = false := id rfl
theorem key_dic {xs : List (D × D)} : isKey (.dic xs) = false := id rfl
theorem cont_dic {xs : List (D × D)} : contD (.dic xs) = true := id rfl
theorem der_ins {c : Nat} {fs : List (Str × D)} : der (.ins c fs) = pure (.ins c fs) := id rfl
theorem non_ins {c : Nat} {fs : List (Str × D)} : isNon (.ins c fs) = false := id rfl
theorem flat_ins {c : Nat} {fs : List (Str × D)} : flatD (.ins c fs) = false := id rfl
theorem key_ins {c : Nat} {fs : List (Str × D)} : isKey (.ins c fs) = false := id rfl
theorem cont_ins {c : Nat} {fs : List (Str × D)} : contD (.ins c fs) = true := id rfl
theorem der_fn {c : Nat} : der (.fn c) = pure (.fn c) := id rfl
theorem ins_fn {c : Nat} : isIns (.fn c) = false := id rfl
theorem non_fn {c : Nat} : isNon (.fn c) = false := id rfl
theorem flat_fn {c : Nat} : flatD (.fn c) = false := id rfl
theorem key_fn {c : Nat} : isKey (.fn c) = false := id rfl
theorem cont_fn {c : Nat} : contD (.fn c) = false := id rfl
theorem der_scr {ns : List Int} : der (.scr ns) = pure (.scr ns) := id rfl
theorem ins_scr {ns : List Int} : isIns (.scr ns) = false := id rfl
theorem non_scr {ns : List Int} : isNon (.scr ns) = false := id rfl
theorem flat_scr {ns : List Int} : flatD (.scr ns) = false := id rfl
theorem key_scr {ns : List Int} : isKey (.scr ns) = false := id rfl
theorem cont_scr {ns : List Int} : contD (.scr ns) = false := id rfl
theorem ins_ins {c : Nat} {fs : List (Str × D)} : isIns (.ins c fs) = true := id rfl
theorem isa_non_int  {nc : Nat} : isaT nc .non .int = some false := id rfl
theorem isa_non_bool  {nc : Nat} : isaT nc .non .bool = some false := id rfl
theorem isa_non_str  {nc : Nat} : isaT nc .non .str = some false := id rfl
theorem isa_non_tuple  {nc : Nat} : isaT nc .non .tuple = some false := id rfl
theorem isa_non_list  {nc : Nat} : isaT nc .non .list = some false := id rfl
theorem isa_non_dict  {nc : Nat} : isaT nc .non .dict = some false := id rfl
theorem isa_non_cls  {nc c : Nat} : isaT nc .non (.cls c) = some false := id rfl
theorem isa_bl_int {b : Bool} {nc : Nat} : isaT nc (.bl b) .int = some true := id rfl
theorem isa_bl_bool {b : Bool} {nc : Nat} : isaT nc (.bl b) .bool = some true := id rfl
theorem isa_bl_str {b : Bool} {nc : Nat} : isaT nc (.bl b) .str = some false := id rfl
theorem isa_bl_tuple {b : Bool} {nc : Nat} : isaT nc (.bl b) .tuple = some false := id rfl
theorem isa_bl_list {b : Bool} {nc : Nat} : isaT nc (.bl b) .list = some false := id rfl
theorem isa_bl_dict {b : Bool} {nc : Nat} : isaT nc (.bl b) .dict = some false := id rfl
theorem isa_bl_cls {b : Bool} {nc c : Nat} : isaT nc (.bl b) (.cls c) = some false := id rfl
theorem isa_int_int {i : Int} {nc : Nat} : isaT nc (.int i) .int = some true := id rfl
theorem isa_int_bool {i : Int} {nc : Nat} : isaT nc (.int i) .bool = some false := id rfl
theorem isa_int_str {i : Int} {nc : Nat} : isaT nc (.int i) .str = some false := id rfl
theorem isa_int_tuple {i : Int} {nc : Nat} : isaT nc (.int i) .tuple = some false := id rfl
theorem isa_int_list {i : Int} {nc : Nat} : isaT nc (.int i) .list = some false := id rfl
theorem isa_int_dict {i : Int} {nc : Nat} : isaT nc (.int i) .dict = some false := id rfl
theorem isa_int_cls {i : Int} {nc c : Nat} : isaT nc (.int i) (.cls c) = some false := id rfl
theorem isa_str_int {s : Str} {nc : Nat} : isaT nc (.str s) .int = some false := id rfl
theorem isa_str_bool {s : Str} {nc : Nat} : isaT nc (.str s) .bool = some false := id rfl
theorem isa_str_str {s : Str} {nc : Nat} : isaT nc (.str s) .str = some true := id rfl
theorem isa_str_tuple {s : Str} {nc : Nat} : isaT nc (.str s) .tuple = some false := id rfl
theorem isa_str_list {s : Str} {nc : Nat} : isaT nc (.str s) .list = some false := id rfl
theorem isa_str_dict {s : Str} {nc : Nat} : isaT nc (.str s) .dict = some false := id rfl
theorem isa_str_cls {s : Str} {nc c : Nat} : isaT nc (.str s) (.cls c) = some false := id rfl
theorem isa_tup_int {xs : List D} {nc : Nat} : isaT nc (.tup xs) .int = some false := id rfl
theorem isa_tup_bool {xs : List D} {nc : Nat} : isaT nc (.tup xs) .bool = some false := id rfl
theorem isa_tup_str {xs : List D} {nc : Nat} : isaT nc (.tup xs) .str = some false := id rfl
theorem isa_tup_tuple {xs : List D} {nc : Nat} : isaT nc (.tup xs) .tuple = some true := id rfl
theorem isa_tup_list {xs : List D} {nc : Nat} : isaT nc (.tup xs) .list = some false := id rfl
theorem isa_tup_dict {xs : List D} {nc : Nat} : isaT nc (.tup xs) .dict = some false := id rfl
theorem isa_tup_cls {xs : List D} {nc c : Nat} : isaT nc (.tup xs) (.cls c) = some false := id rfl
theorem isa_lst_int {xs : List D} {nc : Nat} : isaT nc (.lst xs) .int = some false := id rfl
theorem isa_lst_bool {xs : List D} {nc : Nat} : isaT nc (.lst xs) .bool = some false := id rfl
theorem isa_lst_str {xs : List D} {nc : Nat} : isaT nc (.lst xs) .str = some false := id rfl
theorem isa_lst_tuple {xs : List D} {nc : Nat} : isaT nc (.lst xs) .tuple = some false := id rfl
theorem isa_lst_list {xs : List D} {nc : Nat} : isaT nc (.lst xs) .list = some true := id rfl
theorem isa_lst_dict {xs : List D} {nc : Nat} : isaT nc (.lst xs) .dict = some false := id rfl
theorem isa_lst_cls {xs : List D} {nc c : Nat} : isaT nc (.lst xs) (.cls c) = some false := id rfl
theorem isa_dic_int {xs : List (D × D)} {nc : Nat} : isaT nc (.dic xs) .int = some false := id rfl
theorem isa_dic_bool {xs : List (D × D)} {nc : Nat} : isaT nc (.dic xs) .bool = some false := id rfl
theorem isa_dic_str {xs : List (D × D)} {nc : Nat} : isaT nc (.dic xs) .str = some false := id rfl
theorem isa_dic_tuple {xs : List (D × D)} {nc : Nat} : isaT nc (.dic xs) .tuple = some false := id rfl
theorem isa_dic_list {xs : List (D × D)} {nc : Nat} : isaT nc (.dic xs) .list = some false := id rfl
theorem isa_dic_dict {xs : List (D × D)} {nc : Nat} : isaT nc (.dic xs) .dict = some true := id rfl
theorem isa_dic_cls {xs : List (D × D)} {nc c : Nat} : isaT nc (.dic xs) (.cls c) = some false := id rfl
theorem isa_ins_int {nc c : Nat} {fs : List (Str × D)} (h : c < nc) : isaT nc (.ins c fs) .int = some false := if_pos h
theorem isa_ins_bool {nc c : Nat} {fs : List (Str × D)} (h : c < nc) : isaT nc (.ins c fs) .bool = some false := if_pos h
theorem isa_ins_str {nc c : Nat} {fs : List (Str × D)} (h : c < nc) : isaT nc (.ins c fs) .str = some false := if_pos h
theorem isa_ins_tuple {nc c : Nat} {fs : List (Str × D)} (h : c < nc) : isaT nc (.ins c fs) .tuple = some false := if_pos h
theorem isa_ins_list {nc c : Nat} {fs : List (Str × D)} (h : c < nc) : isaT nc (.ins c fs) .list = some false := if_pos h
theorem isa_ins_dict {nc c : Nat} {fs : List (Str × D)} (h : c < nc) : isaT nc (.ins c fs) .dict = some false := if_pos h
theorem isa_ins_cls {nc c d : Nat} {fs : List (Str × D)} (h : c < nc) : isaT nc (.ins c fs) (.cls d) = some (c == d) := if_pos h
theorem isas_nil {nc : Nat} {a : D} : isaTs nc a [] = some false := id rfl
theorem isas_t {nc : Nat} {a : D} {t : Ty} {r : List Ty} (h : isaT nc a t = some true) : isaTs nc a (t :: r) = some true := by rw [isaTs, h]
theorem isas_f {nc : Nat} {a : D} {t : Ty} {r : List Ty} (h : isaT nc a t = some false) : isaTs nc a (t :: r) = isaTs nc a r := by rw [isaTs, h]
theorem cut_from1 {α : Type} {xs : List α} {k : Nat} : cut xs (some ((k : Int) + 1)) none = xs.drop (k + 1) := cut_from (k := k + 1)
theorem cut_1 {α : Type} {xs : List α} : cut xs (some 1) none = xs.drop 1 := cut_from (k := 1)
theorem cut_t2 {α : Type} {xs : List α} : cut xs none (some 2) = xs.take 2 := cut_to (k := 2)
theorem cut_t3 {α : Type} {xs : List α} : cut xs none (some 3) = xs.take 3 := cut_to (k := 3)
theorem take_drop_set {α : Type} {xs : List α} {k : Nat} {x : α} (h : k < xs.length) : xs.take k ++ x :: xs.drop (k + 1) = xs.set k x := by
  rw [List.set_eq_take_append_cons_drop, if_pos h]
theorem lk_nil {β : Type} {a : Str} : List.lookup a ([] : List (Str × β)) = none := id rfl
theorem lk_cons {β : Type} {a k : Str} {b : β} {r : List (Str × β)} : List.lookup a ((k, b) :: r) = if a == k then some b else List.lookup a r := by
  rw [List.lookup]
  cases a == k <;> rfl
theorem wi_nil : wipeE e [] = e := id rfl
theorem wi_cons {v : Nat} {vs : List Nat} : wipeE e (v :: vs) = (wipeE e vs).set v .un := id rfl
def zwS : Option Slot → Bool
  | some (.own _) => false
  | _ => true
theorem zwS_val {d : D} : zwS (some (.val d)) = true := id rfl
theorem zwS_un : zwS (some .un) = true := id rfl
theorem wo_nil : wipeOk e [] = true := id rfl
theorem wo_cons {v : Nat} {vs : List Nat} : wipeOk e (v :: vs) = (zwS e[v]? && wipeOk e vs) := by
  unfold wipeOk
  rw [List.all_cons]
  refine congrArg (fun b => b && _) ?_
  unfold zwS
  cases e[v]? with
  | none => rfl
  | some s => cases s <;> rfl
theorem wp_lc {α : Type} {f : Env → M D} {c : Env → M Bool} {tg : Tg} {Q : List D → Wd → Prop} {E : EK} (enc : α → D) (p : α → Bool) (g : α → D) (xs : List α)
    (h : ∀ a ∈ xs, ∃ e', bindTg tg (enc a) e = some e' ∧ (∀ w, wp (c e') w (fun b w' => b = p a ∧ w' = w) NoE) ∧ (p a = true → ∀ w, wp (f e') w (fun d w' => d = g a ∧ w' = w) NoE)) (hq : Q ((xs.filter p).map g) w) : wp (lcGo f c tg e (xs.map enc)) w Q E := by
  rw [lcGo_map enc p g xs fun a ha => ?_, wp_pure]
  · exact hq
  · obtain ⟨e', h1, h2, h3⟩ := h a ha
    exact ⟨e', h1, eq_pure h2, fun z => eq_pure (h3 z)⟩
/-- no test -/
theorem wp_lc1 {α : Type} {f : Env → M D} {c : Env → M Bool} {tg : Tg} {Q : List D → Wd → Prop} {E : EK} (enc : α → D) (g : α → D) (xs : List α) (hc : ∀ e', c e' = pure true)
    (h : ∀ a ∈ xs, ∃ e', bindTg tg (enc a) e = some e' ∧ (∀ w, wp (f e') w (fun d w' => d = g a ∧ w' = w) NoE)) (hq : Q (xs.map g) w) : wp (lcGo f c tg e (xs.map enc)) w Q E := by
  refine wp_lc enc (fun _ => true) g xs (fun a ha => ?_) (by rw [List.filter_eq_self.mpr fun _ _ => rfl]; exact hq)
  obtain ⟨e', h1, h2⟩ := h a ha
  exact ⟨e', h1, fun w => by rw [hc, wp_pure]; exact ⟨rfl, rfl⟩, fun _ => h2⟩
theorem shape_str {x y : Str} (hx : PyData.strOk x = true) (hy : PyData.strOk y = true) : shape2 (.str x) (.str y) = true := by
  unfold shape2
  simp [D.shp, hx, hy, D.dep]
theorem noX_pure {α : Type} {a : α} : noX (pure a) = pure a := id rfl
theorem non_eO {α : Type} {f : α → D} {o : Option α} (h : ∀ a, isNon (f a) = false) : isNon (eO f o) = o.isNone := by
  cases o with
  | none => rfl
  | some a => exact h a
theorem der_eO {α : Type} {f : α → D} {o : Option α} (h : ∀ a, der (f a) = pure (f a)) : der (eO f o) = pure (eO f o) := by
  cases o with
  | none => rfl
  | some a => exact h a
theorem ins_eO {α : Type} {f : α → D} {o : Option α} (h : ∀ a, isIns (f a) = false) : isIns (eO f o) = false := by
  cases o with
  | none => rfl
  | some a => exact h a
theorem rngOk_nat {n : Nat} (h : n ≤ 1000000) : rngOk (n : Int) := by
  unfold rngOk
  have e : (2 : Int) ^ 62 = 4611686018427387904 := by rfl
  rw [e]
  omega
theorem rngOk_int {n : Int} (h : 0 ≤ n ∧ n ≤ 1000000) : rngOk n := by
  unfold rngOk
  have e : (2 : Int) ^ 62 = 4611686018427387904 := by rfl
  rw [e]
  omega
theorem mull_nat {x : List D} {k : Nat} (h : x.length ≤ 10) (hk : k ≤ 1000) : binop .mul (.lst x) (.int k) = pure (.lst (List.replicate k x).flatten) := by
  rw [b_mull]
  have e : (2 : Int) ^ 63 = 9223372036854775808 := by rfl
  rw [e]
  unfold grd
  rw [if_pos]
  · simp
  · have z : x.length * k ≤ 10 * 1000 := Nat.mul_le_mul h hk
    simp only [Int.toNat_natCast]
    unfold SZ; omega
theorem rngD0 {n : Nat} : rngD 0 n = (List.range n).map fun (i : Nat) => D.int (i : Int) := by
  unfold rngD
  refine congrArg (fun f => (List.range n).map f) ?_
  funext i
  simp
theorem map_range {α β : Type} (f : Nat → β) (g : α → β) (xs : List α) (h : ∀ i a, xs[i]? = some a → f i = g a) : (List.range xs.length).map f = xs.map g := by
  refine List.ext_getElem (by simp) fun i h1 h2 => ?_
  simp only [List.length_map, List.length_range] at h1
  simp only [List.getElem_map, List.getElem_range]
  exact h i _ (List.getElem?_eq_getElem h1)
theorem enumD_map {α : Type} (f : α → D) (xs : List α) : enumD (xs.map f) = xs.zipIdx.map fun p => .tup [.int p.2, f p.1] := by
  unfold enumD
  refine List.ext_getElem (by simp) fun i h1 h2 => ?_
  simp
def frzL (is : List Nat) : Nat → Env → Env
  | _, [] => []
  | k, s :: r => frzS is k s :: frzL is (k + 1) r
theorem frzL_go {is : List Nat} : ∀ (e : Env) (k : Nat), e.mapIdx (fun i s => frzS is (i + k) s) = frzL is k e
  | [], k => rfl
  | s :: r, k => by
    rw [List.mapIdx_cons, frzL, ← frzL_go r (k + 1)]
    refine congr (congrArg List.cons (by rw [Nat.zero_add])) (congrArg (fun f => List.mapIdx f r) ?_)
    funext i s
    rw [show i + 1 + k = i + (k + 1) from by omega]
theorem fz_E {is : List Nat} : frzE e is = frzL is 0 e := by
  rw [← frzL_go e 0]; rfl
theorem fz_nil {is : List Nat} {k : Nat} : frzL is k [] = [] := id rfl
theorem fz_cons {is : List Nat} {k : Nat} {s : Slot} {r : Env} : frzL is k (s :: r) = frzS is k s :: frzL is (k + 1) r := id rfl
def frz1 : Bool → Slot → Slot
  | true, .own d => .val d
  | _, s => s
theorem fz_S {is : List Nat} {i : Nat} {s : Slot} : frzS is i s = frz1 (is.contains i) s := by
  cases s with
  | own d => unfold frzS; cases is.contains i <;> rfl
  | _ => unfold frzS; cases is.contains i <;> rfl
theorem fz_f {s : Slot} : frz1 false s = s := by cases s <;> rfl
theorem fz_own {d : D} : frz1 true (.own d) = .val d := id rfl
theorem fz_val {d : D} : frz1 true (.val d) = .val d := id rfl
theorem fz_un : frz1 true .un = .un := id rfl
def zdS (Q : D → Wd → Prop) (w : Wd) : Option D → Prop
  | some d => Q d w
  | none => False
theorem zdS_some {Q : D → Wd → Prop} {d : D} : zdS Q w (some d) = Q d w := id rfl
theorem der_cel {n : Nat} {Q : D → Wd → Prop} {E : EK} : wp (der (.cel n)) w Q E = zdS Q w w[n]? := by
  unfold wp der
  dsimp only
  cases w[n]? <;> rfl
theorem mulOk_r {i j : Int} (h0 : -1000000000000 ≤ j) (h1 : j ≤ 1000000000000) : mulOk i j := by
  unfold mulOk
  have e : (2 : Int) ^ 64 = 18446744073709551616 := by rfl
  rw [e]
  omega
theorem mulOk_l {i j : Int} (h0 : -1000000000000 ≤ i) (h1 : i ≤ 1000000000000) : mulOk i j := by
  unfold mulOk
  have e : (2 : Int) ^ 64 = 18446744073709551616 := by rfl
  rw [e]
  omega
theorem setAt_nat {xs : List D} {k : Nat} {d : D} : setAt xs (k : Int) d = if k < xs.length then some (xs.set k d) else none := by
  unfold setAt L2.ixN
  rw [if_pos (by omega)]
  by_cases h : k < xs.length
  · rw [if_pos (by omega), if_pos h]; simp
  · rw [if_neg (by omega), if_neg h]; rfl
theorem setAt_1 {xs : List D} {d : D} : setAt xs 1 d = if 1 < xs.length then some (xs.set 1 d) else none := setAt_nat (k := 1)
theorem setAt_2 {xs : List D} {d : D} : setAt xs 2 d = if 2 < xs.length then some (xs.set 2 d) else none := setAt_nat (k := 2)
theorem setAt_3 {xs : List D} {d : D} : setAt xs 3 d = if 3 < xs.length then some (xs.set 3 d) else none := setAt_nat (k := 3)
theorem setAt_4 {xs : List D} {d : D} : setAt xs 4 d = if 4 < xs.length then some (xs.set 4 d) else none := setAt_nat (k := 4)
theorem wp_seq {s : S} {r : Ss} {Q : Fl → Wd → Prop} {E : EK} (J : Env → Wd → Prop) (h : wp (ex C s e) w (fun f w' => ∃ e', f = .nx e' ∧ J e' w') NoE) (hr : ∀ e' w', J e' w' → wp (exs C r e') w' Q E) : wp (exs C (.cons s r) e) w Q E := by
  rw [wp_cons]
  refine wp_mq h fun f w' ⟨e', hf, hj⟩ => ?_
  subst hf
  exact hr e' w' hj
theorem atI_mem {α : Type} {xs : List α} {r : Nat} (h : r < xs.length) : ∃ x, L2.atI xs (r : Int) = some x ∧ x ∈ xs := ⟨xs[r], by rw [atI_nat, List.getElem?_eq_getElem h], List.getElem_mem h⟩
theorem hasD_ints {i : Nat} {hs : List Nat} : hasD (.int (i : Int)) (hs.map fun (h : Nat) => .int (h : Int)) = decide (i ∈ hs) := by
  unfold hasD
  rw [List.any_map]
  induction hs with
  | nil => simp
  | cons a r ih =>
    rw [List.any_cons, ih]
    simp only [Function.comp, eqv_int, List.mem_cons]
    by_cases e : i = a
    · subst e; simp
    · have e2 : ¬ ((a : Int) = (i : Int)) := by omega
      simp [e, e2]
theorem flat_ints {hs : List Nat} : (hs.map fun (h : Nat) => D.int (h : Int)).all flatD = true := by simp [flatD]
theorem zipD_self {xs : List D} : zipD xs xs = xs.map fun x => .tup [x, x] := by
  unfold zipD
  induction xs with
  | nil => rfl
  | cons x r ih => simp [ih]
/-- numbers, None, tuples of such, so deep -/
def ND : Nat → D → Prop
  | 0, d => d = .non ∨ ∃ i, d = .int i
  | m + 1, d => (d = .non ∨ ∃ i, d = .int i) ∨ ∃ xs, d = .tup xs ∧ xs.length ≤ 100000 ∧ ∀ x ∈ xs, ND m x
theorem ND.int {m : Nat} {i : Int} : ND m (.int i) := by
  cases m with
  | zero => exact .inr ⟨i, rfl⟩
  | succ m => exact .inl (.inr ⟨i, rfl⟩)
theorem ND.non {m : Nat} : ND m .non := by
  cases m with
  | zero => exact .inl rfl
  | succ m => exact .inl (.inl rfl)
theorem ND.tup {m : Nat} {xs : List D} (h : xs.length ≤ 100000) (hx : ∀ x ∈ xs, ND m x) : ND (m + 1) (.tup xs) := .inr ⟨xs, rfl, h, hx⟩
/-! ### slots in statements -/
theorem isS_v {i : Nat} {d : D} (h : e[i]? = some (.val d)) : isS e i = pure () := by unfold isS; rw [h]
def zsS (w : Wd) (Q : Unit → Wd → Prop) : Option Slot → Prop
  | some (.own _) => Q () w
  | some (.val _) => Q () w
  | _ => False
theorem zsS_val {Q : Unit → Wd → Prop} {d : D} : zsS w Q (some (.val d)) = Q () w := id rfl
theorem zsS_own {Q : Unit → Wd → Prop} {d : D} : zsS w Q (some (.own d)) = Q () w := id rfl
theorem wp_isS {i : Nat} {Q : Unit → Wd → Prop} {E : EK} : wp (isS e i) w Q E = zsS w Q e[i]? := by
  unfold isS
  cases e[i]? with
  | none => rfl
  | some s => cases s <;> rfl
def zlS (w : Wd) (Q : Unit → Wd → Prop) : Option Slot → Prop
  | some (.own (.lst _)) => Q () w
  | some (.val (.cel n)) => match w[n]? with | some (.lst _) => Q () w | _ => False
  | _ => False
theorem zlS_own {Q : Unit → Wd → Prop} {xs : List D} : zlS w Q (some (.own (.lst xs))) = Q () w := id rfl
theorem zlS_cel {Q : Unit → Wd → Prop} {n : Nat} : zlS w Q (some (.val (.cel n))) = (match w[n]? with | some (.lst _) => Q () w | _ => False) := id rfl
theorem wp_isL {i : Nat} {Q : Unit → Wd → Prop} {E : EK} : wp (isL e i) w Q E = zlS w Q e[i]? := by
  unfold isL
  cases e[i]? with
  | none => rfl
  | some s => cases s with
    | own d => cases d <;> rfl
    | val d => cases d with
      | cel n =>
        unfold wp zlS
        dsimp only
        cases w[n]? with
        | none => rfl
        | some x => cases x <;> rfl
      | _ => rfl
    | _ => rfl
def ztS (e : Env) (i : Nat) (f : List D → Option (List D)) (w : Wd) (Q : Fl → Wd → Prop) : Option Slot → Prop
  | some (.own (.lst xs)) => ∃ ys, f xs = some ys ∧ Q (.nx (e.set i (.own (.lst ys)))) w
  | some (.val (.cel n)) => ∃ xs ys, w[n]? = some (.lst xs) ∧ f xs = some ys ∧ Q (.nx e) (w.set n (.lst ys))
  | _ => False
theorem ztS_own {i : Nat} {f : List D → Option (List D)} {Q : Fl → Wd → Prop} {xs : List D} : ztS e i f w Q (some (.own (.lst xs))) = ∃ ys, f xs = some ys ∧ Q (.nx (e.set i (.own (.lst ys)))) w := id rfl
theorem ztS_cel {i : Nat} {f : List D → Option (List D)} {Q : Fl → Wd → Prop} {n : Nat} : ztS e i f w Q (some (.val (.cel n))) = ∃ xs ys, w[n]? = some (.lst xs) ∧ f xs = some ys ∧ Q (.nx e) (w.set n (.lst ys)) := id rfl
theorem wp_toL {i : Nat} {f : List D → Option (List D)} {Q : Fl → Wd → Prop} {E : EK} : wp (toL e i f) w Q E = ztS e i f w Q e[i]? := by
  unfold toL
  cases e[i]? with
  | none => rfl
  | some s => cases s with
    | own d => cases d with
      | lst xs =>
        unfold ztS
        dsimp only
        cases f xs with
        | none => simp [wp_stk]
        | some ys => simp [wp_pure]
      | _ => rfl
    | val d => cases d with
      | cel n =>
        unfold ztS wp
        dsimp only
        cases w[n]? with
        | none => simp
        | some x => cases x with
          | lst xs =>
            dsimp only
            cases hf : f xs with
            | none => exact propext ⟨fun h => h.elim, fun ⟨_, _, e1, e2, _⟩ => by cases e1; rw [hf] at e2; cases e2⟩
            | some ys => exact propext ⟨fun h => ⟨xs, ys, rfl, hf, h⟩, fun ⟨_, _, e1, e2, h⟩ => by cases e1; rw [hf] at e2; cases e2; exact h⟩
          | _ => simp
      | _ => rfl
    | _ => rfl
def zpS (e : Env) (i : Nat) (k d : D) (w : Wd) (Q : Fl → Wd → Prop) (E : EK) : Option Slot → Prop
  | some (.own (.dic kvs)) => (isKey k = true ∧ kvs.length < SZ) ∧ Q (.nx (e.set i (.own (.dic (dput kvs k d))))) w
  | some s => onI (fun k w => ztS e i (fun xs => setAt xs k d) w Q (some s)) k w
  | none => False
theorem zpS_dic {i : Nat} {k d : D} {Q : Fl → Wd → Prop} {E : EK} {kvs : List (D × D)} : zpS e i k d w Q E (some (.own (.dic kvs))) = ((isKey k = true ∧ kvs.length < SZ) ∧ Q (.nx (e.set i (.own (.dic (dput kvs k d))))) w) := id rfl
theorem zpS_lst {i : Nat} {k d : D} {Q : Fl → Wd → Prop} {E : EK} {xs : List D} : zpS e i k d w Q E (some (.own (.lst xs))) = onI (fun k w => ztS e i (fun xs => setAt xs k d) w Q (some (.own (.lst xs)))) k w := id rfl
theorem zpS_cel {i : Nat} {k d : D} {Q : Fl → Wd → Prop} {E : EK} {n : Nat} : zpS e i k d w Q E (some (.val (.cel n))) = onI (fun k w => ztS e i (fun xs => setAt xs k d) w Q (some (.val (.cel n)))) k w := id rfl
theorem wp_putAt {i : Nat} {k d : D} {Q : Fl → Wd → Prop} {E : EK} : wp (putAt e i k d) w Q E = zpS e i k d w Q E e[i]? := by
  have l : ∀ s, e[i]? = s → wp (putI e i k d) w Q E = onI (fun k w => ztS e i (fun xs => setAt xs k d) w Q s) k w := fun s h => by
    unfold putI
    cases k with
    | int k => dsimp only; rw [wp_toL, h]; rfl
    | _ => rfl
  unfold putAt
  cases h : e[i]? with
  | none => rw [l _ h]; cases k <;> rfl
  | some s => cases s with
    | own d' => cases d' with
      | dic kvs => unfold zpS; dsimp only; rw [wp_ifs]; rfl
      | _ => dsimp only; rw [l _ h]; rfl
    | _ => dsimp only; rw [l _ h]; rfl
def zqS (C : Cfg) (e : Env) (i : Nat) (f : Str) (d : D) (w : Wd) (Q : Fl → Wd → Prop) : Option Slot → Prop
  | some (.own (.ins c fs)) => (fs.length < 1000 ∧ c < C.nc) ∧ Q (.nx (e.set i (.own (.ins c (putF f d fs))))) w
  | some (.val (.cel n)) => ∃ c fs, w[n]? = some (.ins c fs) ∧ (fs.length < 1000 ∧ c < C.nc) ∧ Q (.nx e) (w.set n (.ins c (putF f d fs)))
  | _ => False
theorem zqS_own {i : Nat} {f : Str} {d : D} {Q : Fl → Wd → Prop} {c : Nat} {fs : List (Str × D)} : zqS C e i f d w Q (some (.own (.ins c fs))) = ((fs.length < 1000 ∧ c < C.nc) ∧ Q (.nx (e.set i (.own (.ins c (putF f d fs))))) w) := id rfl
theorem wp_putFld {i : Nat} {f : Str} {d : D} {Q : Fl → Wd → Prop} {E : EK} : wp (putFld C e i f d) w Q E = zqS C e i f d w Q e[i]? := by
  unfold putFld
  cases h : e[i]? with
  | none => rfl
  | some s => cases s with
    | own d' => cases d' with
      | ins c fs => unfold zqS; dsimp only; rw [wp_ifs]; rfl
      | _ => rfl
    | val d' => cases d' with
      | cel n =>
        unfold zqS wp
        dsimp only
        cases w[n]? with
        | none => simp
        | some x => cases x with
          | ins c fs =>
            dsimp only
            by_cases h : fs.length < 1000 ∧ c < C.nc
            · simp only [h, and_self, if_true]
              exact propext ⟨fun q => ⟨c, fs, rfl, h, q⟩, fun ⟨_, _, e1, _, q⟩ => by cases e1; exact q⟩
            · simp only [h, if_false]
              exact propext ⟨fun q => q.elim, fun ⟨_, _, e1, q, _⟩ => by cases e1; exact absurd q h⟩
          | _ => simp
      | _ => rfl
    | _ => rfl
/-! ### slots that stay: what a term's own lists are -/
theorem frzE_nil {is : List Nat} : frzE [] is = [] := by unfold frzE; rfl
theorem frzS_val {is : List Nat} {i : Nat} {d : D} : frzS is i (.val d) = .val d := id rfl
theorem frzS_un {is : List Nat} {i : Nat} : frzS is i .un = .un := id rfl
theorem frzS_own {is : List Nat} {i : Nat} {d : D} : frzS is i (.own d) = if is.contains i then .val d else .own d := id rfl
theorem bi_n {i : Nat} {d : D} : bindTg (.n i) d e = if i < e.length then some (e.set i (.val d)) else none := by rw [bindTg]
theorem bi_t {ts : List Tg} {ds : List D} : bindTg (.t ts) (.tup ds) e = bindTg.go ts ds e := by rw [bindTg]
theorem bi_nil : bindTg.go [] [] e = some e := by rw [bindTg.go]
theorem bi_cons {t : Tg} {ts : List Tg} {d : D} {ds : List D} : bindTg.go (t :: ts) (d :: ds) e = (bindTg t d e).bind fun e' => bindTg.go ts ds e' := by
  rw [bindTg.go]
  cases bindTg t d e <;> rfl
theorem pa_nil : parE [] [] e = some e := id rfl
theorem pa_f {i : Nat} {ts : List (Nat × Bool)} {d : D} {ds : List D} : parE ((i, false) :: ts) (d :: ds) e = if i < e.length then parE ts ds (e.set i (.val d)) else none := by
  rw [parE]; simp
theorem pa_t {i : Nat} {ts : List (Nat × Bool)} {d : D} {ds : List D} : parE ((i, true) :: ts) (d :: ds) e = if i < e.length ∧ contD d = true ∧ i ≠ 0 then parE ts ds (e.set i (.own d)) else none := by
  rw [parE]; simp
theorem pf_nil {f : Str} {v : D} : putF f v [] = [(f, v)] := id rfl
theorem pf_cons {f g : Str} {v x : D} {r : List (Str × D)} : putF f v ((g, x) :: r) = if g == f then (g, v) :: r else (g, x) :: putF f v r := by
  rw [putF]
  by_cases h : g = f
  · rw [if_pos h, if_pos (by simp [h])]
  · rw [if_neg h, if_neg (by simp [h])]
end Ev

set_option maxRecDepth 100000
set_option maxHeartbeats 4000000
namespace Ev
open PySem
def Vz0 := (And.intro (And.intro (And.intro (And.intro (And.intro (And.intro (@wp_pure) (@wp_bind)) (And.intro (@wp_stk) (@wp_rse))) (And.intro (And.intro (@wp_grd) (@wp_if)) (And.intro (@wp_cat) (@onB_bl)))) (And.intro (And.intro (And.intro (@wp_tst) (@endK_nx)) (And.intro (@endK_rt) (@endK_xc))) (And.intro (And.intro (@wp_endF) (@wp_noX)) (And.intro (@endKI_nx) (@endKI_xc))))) (And.intro (And.intro (And.intro (And.intro (@wp_endI) (@pure_bnd)) (And.intro (@kont_nx) (@kont_rt))) (And.intro (And.intro (@kont_bk) (@kont_ct)) (And.intro (@kont_xc) (@kont_nil)))) (And.intro (And.intro (And.intro (@wp_nil) (@wp_cons)) (And.intro (@kif_t) (@kif_f))) (And.intro (And.intro (@wp_iff) (@wp_set)) (And.intro (@wp_seto) (@wp_ret)))))) (And.intro (And.intro (And.intro (And.intro (And.intro (@wp_retc) (@wp_ex)) (And.intro (@wp_stx) (@wp_stf))) (And.intro (And.intro (@app1_one) (@wp_app)) (And.intro (@wp_brk) (@wp_cnt)))) (And.intro (And.intro (And.intro (@wp_pas) (@wp_frz)) (And.intro (@wp_setS) (@eqv_int))) (And.intro (And.intro (@eqv_str) (@eqv_bl)) (And.intro (@shape_int) (@shape_bl))))) (And.intro (And.intro (And.intro (And.intro (@atI_0) (@atI_1)) (And.intro (@atI_2) (@atI_3))) (And.intro (And.intro (@atI_4) (@atI_5)) (And.intro (@atI_6) (@cut_to)))) (And.intro (And.intro (And.intro (@cut_from) (@we_k)) (And.intro (@zvS_val) (@zvS_own))) (And.intro (And.intro (@znS_val) (@we_v)) (And.intro (@nb_v) (@fldD_ins)))))))
def Vz1 := (And.intro (And.intro (And.intro (And.intro (And.intro (And.intro (@zfS_val) (@zfS_own)) (And.intro (@we_fld) (@ziS_val))) (And.intro (And.intro (@ziS_own) (@we_isa)) (And.intro (@we_isax) (@zcS_val)))) (And.intro (And.intro (And.intro (@zgS_val) (@zgS_own)) (And.intro (@we_get) (@nb_k))) (And.intro (And.intro (@nb_g) (@nb_tup)) (And.intro (@nb_lst) (@nb_bin))))) (And.intro (And.intro (And.intro (And.intro (@nb_neg) (@nb_not)) (And.intro (@nb_cmp) (@nb_cmp2))) (And.intro (And.intro (@nb_and) (@nb_or)) (And.intro (@nb_ite) (@nb_idx)))) (And.intro (And.intro (And.intro (@nb_sli) (@nb_rev)) (And.intro (@nb_fld) (@nb_call))) (And.intro (And.intro (@nb_cav) (@nb_mk)) (And.intro (@nb_b1) (@nb_max2)))))) (And.intro (And.intro (And.intro (And.intro (And.intro (@nb_min2) (@nb_isa)) (And.intro (@nb_lc) (@nb_lenset))) (And.intro (And.intro (@nb_dict0) (@nb_get)) (And.intro (@nb_lrng) (@we_g)))) (And.intro (And.intro (And.intro (@we_tup) (@we_lst)) (And.intro (@we_bin) (@onI_int))) (And.intro (And.intro (@we_neg) (@we_not)) (And.intro (@cmpE_n) (@we_cmp))))) (And.intro (And.intro (And.intro (And.intro (@kand_t) (@kand_f)) (And.intro (@we_cmp2) (@we_and))) (And.intro (And.intro (@we_or) (@we_and1)) (And.intro (@we_or1) (@we_and2)))) (And.intro (And.intro (And.intro (@we_or2) (@we_ite)) (And.intro (@we_idx) (@we_sli))) (And.intro (And.intro (@we_no) (@we_so)) (And.intro (@we_b1) (@we_dict0)))))))
def Vz2 := (And.intro (And.intro (And.intro (And.intro (And.intro (And.intro (@onLst_l) (@we_nil)) (And.intro (@we_cons) (@we_rev))) (And.intro (And.intro (@we_Ix) (@we_rng)) (And.intro (@we_enum) (@we_zip)))) (And.intro (And.intro (And.intro (@evc_no) (@evc_so)) (And.intro (@b_addi) (@b_adds))) (And.intro (And.intro (@b_addt) (@b_addl)) (And.intro (@b_sub) (@b_mul))))) (And.intro (And.intro (And.intro (And.intro (@b_mult) (@b_mull)) (And.intro (@b_fdv) (@b_mod))) (And.intro (And.intro (@b_pow) (@c_eq)) (And.intro (@c_ne) (@c_lt)))) (And.intro (And.intro (And.intro (@c_le) (@c_gt)) (And.intro (@c_ge) (@c_is))) (And.intro (And.intro (@c_nis) (@c_isb)) (And.intro (@c_nisb) (@c_int)))))) (And.intro (And.intro (And.intro (And.intro (And.intro (@c_nint) (@c_inl)) (And.intro (@c_ninl) (@c_ind))) (And.intro (And.intro (@c_nind) (@x_tup)) (And.intro (@x_lst) (@x_dic)))) (And.intro (And.intro (And.intro (@l_tup) (@l_lst)) (And.intro (@l_scr) (@f_len_tup))) (And.intro (And.intro (@f_len_lst) (@f_len_dic)) (And.intro (@f_len_scr) (@f_tuple_t))))) (And.intro (And.intro (And.intro (And.intro (@f_tuple_l) (@f_list_t)) (And.intro (@f_list_l) (@f_list_s))) (And.intro (And.intro (@f_int) (@f_abs)) (And.intro (@f_all) (@f_any)))) (And.intro (And.intro (And.intro (@it_tup) (@it_lst)) (And.intro (@r_one) (@r_two))) (And.intro (And.intro (@lr_one) (@en_t)) (And.intro (@en_l) (@zi_t)))))))
def Vz3 := (And.intro (And.intro (And.intro (And.intro (And.intro (And.intro (@zi_l) (@of_s)) (And.intro (@of_n) (@der_non))) (And.intro (And.intro (@ins_non) (@non_non)) (And.intro (@flat_non) (@key_non)))) (And.intro (And.intro (And.intro (@cont_non) (@der_bl)) (And.intro (@ins_bl) (@non_bl))) (And.intro (And.intro (@flat_bl) (@key_bl)) (And.intro (@cont_bl) (@der_int))))) (And.intro (And.intro (And.intro (And.intro (@ins_int) (@non_int)) (And.intro (@flat_int) (@key_int))) (And.intro (And.intro (@cont_int) (@der_str)) (And.intro (@ins_str) (@non_str)))) (And.intro (And.intro (And.intro (@flat_str) (@key_str)) (And.intro (@cont_str) (@der_tup))) (And.intro (And.intro (@ins_tup) (@non_tup)) (And.intro (@flat_tup) (@key_tup)))))) (And.intro (And.intro (And.intro (And.intro (And.intro (@cont_tup) (@der_lst)) (And.intro (@ins_lst) (@non_lst))) (And.intro (And.intro (@flat_lst) (@key_lst)) (And.intro (@cont_lst) (@der_dic)))) (And.intro (And.intro (And.intro (@ins_dic) (@non_dic)) (And.intro (@flat_dic) (@key_dic))) (And.intro (And.intro (@cont_dic) (@der_ins)) (And.intro (@non_ins) (@flat_ins))))) (And.intro (And.intro (And.intro (And.intro (@key_ins) (@cont_ins)) (And.intro (@der_fn) (@ins_fn))) (And.intro (And.intro (@non_fn) (@flat_fn)) (And.intro (@key_fn) (@cont_fn)))) (And.intro (And.intro (And.intro (@der_scr) (@ins_scr)) (And.intro (@non_scr) (@flat_scr))) (And.intro (And.intro (@key_scr) (@cont_scr)) (And.intro (@ins_ins) (@isa_non_int)))))))
def Vz4 := (And.intro (And.intro (And.intro (And.intro (And.intro (And.intro (@isa_non_bool) (@isa_non_str)) (And.intro (@isa_non_tuple) (@isa_non_list))) (And.intro (And.intro (@isa_non_dict) (@isa_non_cls)) (And.intro (@isa_bl_int) (@isa_bl_bool)))) (And.intro (And.intro (And.intro (@isa_bl_str) (@isa_bl_tuple)) (And.intro (@isa_bl_list) (@isa_bl_dict))) (And.intro (And.intro (@isa_bl_cls) (@isa_int_int)) (And.intro (@isa_int_bool) (@isa_int_str))))) (And.intro (And.intro (And.intro (And.intro (@isa_int_tuple) (@isa_int_list)) (And.intro (@isa_int_dict) (@isa_int_cls))) (And.intro (And.intro (@isa_str_int) (@isa_str_bool)) (And.intro (@isa_str_str) (@isa_str_tuple)))) (And.intro (And.intro (And.intro (@isa_str_list) (@isa_str_dict)) (And.intro (@isa_str_cls) (@isa_tup_int))) (And.intro (And.intro (@isa_tup_bool) (@isa_tup_str)) (And.intro (@isa_tup_tuple) (@isa_tup_list)))))) (And.intro (And.intro (And.intro (And.intro (And.intro (@isa_tup_dict) (@isa_tup_cls)) (And.intro (@isa_lst_int) (@isa_lst_bool))) (And.intro (And.intro (@isa_lst_str) (@isa_lst_tuple)) (And.intro (@isa_lst_list) (@isa_lst_dict)))) (And.intro (And.intro (And.intro (@isa_lst_cls) (@isa_dic_int)) (And.intro (@isa_dic_bool) (@isa_dic_str))) (And.intro (And.intro (@isa_dic_tuple) (@isa_dic_list)) (And.intro (@isa_dic_dict) (@isa_dic_cls))))) (And.intro (And.intro (And.intro (And.intro (@isa_ins_int) (@isa_ins_bool)) (And.intro (@isa_ins_str) (@isa_ins_tuple))) (And.intro (And.intro (@isa_ins_list) (@isa_ins_dict)) (And.intro (@isa_ins_cls) (@isas_nil)))) (And.intro (And.intro (And.intro (@isas_t) (@isas_f)) (And.intro (@zsS_val) (@zsS_own))) (And.intro (And.intro (@wp_isS) (@zlS_own)) (And.intro (@zlS_cel) (@wp_isL)))))))
def Vz5 := (And.intro (And.intro (And.intro (And.intro (And.intro (@ztS_own) (And.intro (@ztS_cel) (@wp_toL))) (And.intro (And.intro (@zpS_dic) (@zpS_lst)) (And.intro (@zpS_cel) (@wp_putAt)))) (And.intro (And.intro (@zqS_own) (And.intro (@wp_putFld) (@bi_n))) (And.intro (And.intro (@bi_t) (@bi_nil)) (And.intro (@bi_cons) (@pa_nil))))) (And.intro (And.intro (And.intro (@pa_f) (And.intro (@pa_t) (@pf_nil))) (And.intro (And.intro (@pf_cons) (@cut_from1)) (And.intro (@cut_1) (@cut_t2)))) (And.intro (And.intro (@cut_t3) (And.intro (@lk_nil) (@lk_cons))) (And.intro (And.intro (@wi_nil) (@wi_cons)) (And.intro (@zwS_val) (@zwS_un)))))) (And.intro (And.intro (And.intro (And.intro (@wo_nil) (And.intro (@wo_cons) (@atI_nat))) (And.intro (And.intro (@shape_str) (@noX_pure)) (And.intro (@fz_E) (@fz_nil)))) (And.intro (And.intro (@fz_cons) (And.intro (@fz_S) (@fz_f))) (And.intro (And.intro (@fz_own) (@fz_val)) (And.intro (@fz_un) (@zdS_some))))) (And.intro (And.intro (And.intro (@der_cel) (And.intro (@setAt_1) (@setAt_2))) (And.intro (And.intro (@setAt_3) (@setAt_4)) (And.intro (@we_dic1) (@nb_dic1)))) (And.intro (And.intro (@zi_tl) (And.intro (@zi_lt) (@ext1_l))) (And.intro (And.intro (@ext1_t) (@wp_ext)) (And.intro (@nb_srtset) (@nb_lidx)))))))
end Ev

set_option maxRecDepth 100000
set_option maxHeartbeats 4000000
namespace K13
open PySem Ev
noncomputable abbrev iniF (n : Nat) : Nat → List D → M D := (deep prg n).2.2
noncomputable def cg (n : Nat) : Cfg := cfgOf prg (callF prg n) (iniF n)
@[simp] theorem cg_hot {n : Nat} : (cg n).hot = false := rfl
@[simp] theorem cg_nc {n : Nat} : (cg n).nc = 1 := rfl
@[simp] theorem cg_nf {n : Nat} : (cg n).nf = 68 := rfl
@[simp] theorem cg_gs {n : Nat} : (cg n).gs = gs := rfl
@[simp] theorem cg_cf {n : Nat} : (cg n).cf = callF prg n := rfl
@[simp] theorem cg_cm {n : Nat} : (cg n).cm = iniF n := rfl
@[simp] theorem calm_cg {n : Nat} {α : Type} {m : M α} : calm (cg n) m = m := rfl
@[simp] theorem cg_wf {n : Nat} : (cg n).wf = 100000 := rfl
@[simp] theorem cg_ce0 {n : Nat} : (cg n).ce 0 = some 10 := rfl
section
variable {n : Nat} {e : Ev.Env} {w : Wd}
@[simp] theorem we_call_g {j : Nat} {es : Xs} {Q : D → Wd → Prop} {E : EK} : wp (ev (cg n) (.call j es) e) w Q E = wp (evs (cg n) es e) w (fun ds w => wp (callF prg n j ds) w Q E) E := we_call rfl
@[simp] theorem we_mk_g {j : Nat} {es : Xs} {Q : D → Wd → Prop} {E : EK} : wp (ev (cg n) (.mk j es) e) w Q E = wp (evs (cg n) es e) w (fun ds w => wp (iniF n j ds) w Q E) E := we_mk rfl
@[simp] theorem we_cav_g {i : Nat} {es : Xs} {Q : D → Wd → Prop} {E : EK} : wp (ev (cg n) (.cav i es) e) w Q E = zcS (cg n) w (evs (cg n) es e) Q E e[i]? := we_cav rfl
@[simp] theorem we_lc_g {x : X} {tg : Tg} {it : It} {c : Xo} {vs : List Nat} {Q : D → Wd → Prop} {E : EK} : wp (ev (cg n) (.lc x tg it c vs) e) w Q E = wp (evI (cg n) it e) w (fun ds w => (wipeOk e vs = true ∧ ds.length ≤ SZ) ∧ wp (lcGo (fun e' => noX (nb e' x (ev (cg n) x e'))) (fun e' => noX (evc (cg n) c e')) tg (wipeE e vs) ds) w (fun ys w => Q (.lst ys) w) E) E := we_lc rfl
@[simp] theorem we_lrng_g {a : X} {Q : D → Wd → Prop} {E : EK} : wp (ev (cg n) (.lrng a) e) w Q E = wp (ev (cg n) a e) w (fun x w => wp (lrngOf x) w Q E) E := we_lrng rfl
@[simp] theorem we_srtset_g {a : X} {Q : D → Wd → Prop} {E : EK} : wp (ev (cg n) (.srtset a) e) w Q E = wp (ev (cg n) a e) w (fun x w => wp (srtOf x) w Q E) E := by rw [ev, calm_cg, wp_bind]
@[simp] theorem we_lidx_g {a b : X} {Q : D → Wd → Prop} {E : EK} : wp (ev (cg n) (.lidx a b) e) w Q E = wp (ev (cg n) a e) w (fun x w => wp (isLs x) w (fun _ w => wp (ev (cg n) b e) w (fun y w => wp (idxOf x y) w Q E) E) E) E := by rw [ev]; simp only [wp_bind]
@[simp] theorem we_max2_g {a b : X} {Q : D → Wd → Prop} {E : EK} : wp (ev (cg n) (.max2 a b) e) w Q E = wp (ev (cg n) a e) w (fun x w => wp (ev (cg n) b e) w (fun y w => onI (fun i w => onI (fun j w => Q (.int (if j > i then j else i)) w) y w) x w) E) E := we_max2 rfl
@[simp] theorem we_min2_g {a b : X} {Q : D → Wd → Prop} {E : EK} : wp (ev (cg n) (.min2 a b) e) w Q E = wp (ev (cg n) a e) w (fun x w => wp (ev (cg n) b e) w (fun y w => onI (fun i w => onI (fun j w => Q (.int (if j < i then j else i)) w) y w) x w) E) E := we_min2 rfl
@[simp] theorem wp_for_g {tg : Tg} {it : It} {b : Ss} {Q : Fl → Wd → Prop} {E : EK} : wp (ex (cg n) (.for tg it b) e) w Q E = wp (evI (cg n) it e) w (fun ds w' => wp (forGo tg (fun e => exs (cg n) b e) ds e) w' Q E) (kx Q e) := wp_for rfl
@[simp] theorem wp_setG_g {t : Tg} {x : X} {Q : Fl → Wd → Prop} {E : EK} : wp (ex (cg n) (.setG t x) e) w Q E = wp (nb e x (ev (cg n) x e)) w (fun d w' => ∃ e', bindTg t d e = some e' ∧ Q (.nx e') w') (kx Q e) := wp_setG rfl
@[simp] theorem wp_par_g {ts : List (Nat × Bool)} {es : Xs} {Q : Fl → Wd → Prop} {E : EK} : wp (ex (cg n) (.par ts es) e) w Q E = wp (evs (cg n) es e) w (fun d w' => ∃ e', parE ts d e = some e' ∧ Q (.nx e') w') (kx Q e) := wp_par rfl
@[simp] theorem wp_rse1_g {c : Nat} {x : X} {Q : Fl → Wd → Prop} {E : EK} : wp (ex (cg n) (.rse c (.so x)) e) w Q E = wp (nb e x (ev (cg n) x e)) w (fun d w' => Q (.xc c (some d) e) w') (kx Q e) := wp_rse1 rfl
@[simp] theorem wp_rse0_g {c : Nat} {Q : Fl → Wd → Prop} {E : EK} : wp (ex (cg n) (.rse c .no) e) w Q E = Q (.xc c none e) w := wp_rse0 rfl
end
theorem c_is_integer (n : Nat) (a0 : D) : callF prg (n + 1) 0 [a0] = endF (exs (cg n) f_is_integer.body [.val a0]) := id rfl
theorem c_is_within (n : Nat) (a0 a1 a2 : D) : callF prg (n + 1) 1 [a0, a1, a2] = endF (exs (cg n) f_is_within.body [.val a0, .val a1, .val a2]) := id rfl
theorem c_is_below (n : Nat) (a0 a1 : D) : callF prg (n + 1) 2 [a0, a1] = endF (exs (cg n) f_is_below.body [.val a0, .val a1]) := id rfl
theorem c_is_sized (n : Nat) (a0 a1 a2 : D) : callF prg (n + 1) 3 [a0, a1, a2] = endF (exs (cg n) f_is_sized.body [.val a0, .val a1, .val a2]) := id rfl
theorem c_is_listed (n : Nat) (a0 : D) : callF prg (n + 1) 4 [a0] = endF (exs (cg n) f_is_listed.body [.val a0]) := id rfl
theorem c_replaced (n : Nat) (a0 a1 a2 : D) : callF prg (n + 1) 5 [a0, a1, a2] = endF (exs (cg n) f_replaced.body [.val a0, .val a1, .val a2]) := id rfl
theorem c_is_value (n : Nat) (a0 : D) : callF prg (n + 1) 6 [a0] = endF (exs (cg n) f_is_value.body [.val a0]) := id rfl
theorem c_is_row_of (n : Nat) (a0 a1 : D) : callF prg (n + 1) 7 [a0, a1] = endF (exs (cg n) f_is_row_of.body [.val a0, .val a1, .un]) := id rfl
theorem c_are_inputs (n : Nat) (a0 a1 : D) : callF prg (n + 1) 8 [a0, a1] = endF (exs (cg n) f_are_inputs.body [.val a0, .val a1]) := id rfl
theorem c_Play_init (n : Nat) (a0 a1 a2 : D) : callF prg (n + 1) 9 [a0, a1, a2] = endF (exs (cg n) f_Play_init.body [.val a0, .val a1, .val a2]) := id rfl
theorem c_Play_eq (n : Nat) (a0 a1 : D) : callF prg (n + 1) 10 [a0, a1] = endF (exs (cg n) f_Play_eq.body [.val a0, .val a1]) := id rfl
theorem c_is_hand (n : Nat) (a0 a1 : D) : callF prg (n + 1) 11 [a0, a1] = endF (exs (cg n) f_is_hand.body [.val a0, .val a1]) := id rfl
theorem c_check_hand (n : Nat) (a0 a1 : D) : callF prg (n + 1) 12 [a0, a1] = endF (exs (cg n) f_check_hand.body [.val a0, .val a1]) := id rfl
theorem c_level_cell (n : Nat) (a0 a1 : D) : callF prg (n + 1) 13 [a0, a1] = endF (exs (cg n) f_level_cell.body [.val a0, .val a1]) := id rfl
theorem c_level_state (n : Nat) (a0 a1 : D) : callF prg (n + 1) 14 [a0, a1] = endF (exs (cg n) f_level_state.body [.val a0, .val a1]) := id rfl
theorem c_level_next (n : Nat) (a0 a1 a2 : D) : callF prg (n + 1) 15 [a0, a1, a2] = endF (exs (cg n) f_level_next.body [.val a0, .val a1, .val a2]) := id rfl
theorem c_level_after (n : Nat) (a0 a1 a2 a3 : D) : callF prg (n + 1) 16 [a0, a1, a2, a3] = endF (exs (cg n) f_level_after.body [.val a0, .val a1, .val a2, .val a3, .un, .un, .un, .un, .un, .un]) := id rfl
theorem c_fresh (n : Nat) (a0 a1 a2 : D) : callF prg (n + 1) 17 [a0, a1, a2] = endF (exs (cg n) f_fresh.body [.val a0, .val a1, .val a2]) := id rfl
theorem c_numbers_of (n : Nat) (a0 : D) : callF prg (n + 1) 18 [a0] = endF (exs (cg n) f_numbers_of.body [.val a0, .un]) := id rfl
theorem c_top_cell (n : Nat) (a0 a1 : D) : callF prg (n + 1) 19 [a0, a1] = endF (exs (cg n) f_top_cell.body [.val a0, .val a1]) := id rfl
theorem c_top_state (n : Nat) (a0 a1 : D) : callF prg (n + 1) 20 [a0, a1] = endF (exs (cg n) f_top_state.body [.val a0, .val a1]) := id rfl
theorem c_top_next (n : Nat) (a0 a1 a2 : D) : callF prg (n + 1) 21 [a0, a1, a2] = endF (exs (cg n) f_top_next.body [.val a0, .val a1, .val a2]) := id rfl
theorem c_wish_by (n : Nat) (a0 a1 : D) : callF prg (n + 1) 22 [a0, a1] = endF (exs (cg n) f_wish_by.body [.val a0, .val a1, .un, .un, .un, .un, .un, .un]) := id rfl
theorem c_after_names (n : Nat) (a0 a1 a2 a3 : D) : callF prg (n + 1) 23 [a0, a1, a2, a3] = endF (exs (cg n) f_after_names.body [.val a0, .val a1, .val a2, .val a3, .un, .un, .un, .un, .un]) := id rfl
theorem c_after_near (n : Nat) (a0 a1 a2 a3 : D) : callF prg (n + 1) 24 [a0, a1, a2, a3] = endF (exs (cg n) f_after_near.body [.val a0, .val a1, .val a2, .val a3, .un, .un, .un, .un, .un, .un]) := id rfl
theorem c_after_chain (n : Nat) (a0 a1 a2 a3 : D) : callF prg (n + 1) 25 [a0, a1, a2, a3] = endF (exs (cg n) f_after_chain.body [.val a0, .val a1, .val a2, .val a3, .un, .un, .un]) := id rfl
theorem c_top_after (n : Nat) (a0 a1 a2 a3 : D) : callF prg (n + 1) 26 [a0, a1, a2, a3] = endF (exs (cg n) f_top_after.body [.val a0, .val a1, .val a2, .val a3]) := id rfl
theorem c_cell_of (n : Nat) (a0 a1 : D) : callF prg (n + 1) 27 [a0, a1] = endF (exs (cg n) f_cell_of.body [.val a0, .val a1]) := id rfl
theorem c_state_of (n : Nat) (a0 a1 : D) : callF prg (n + 1) 28 [a0, a1] = endF (exs (cg n) f_state_of.body [.val a0, .val a1]) := id rfl
theorem c_next_of (n : Nat) (a0 a1 a2 : D) : callF prg (n + 1) 29 [a0, a1, a2] = endF (exs (cg n) f_next_of.body [.val a0, .val a1, .val a2]) := id rfl
theorem c_after_of (n : Nat) (a0 a1 a2 a3 : D) : callF prg (n + 1) 30 [a0, a1, a2, a3] = endF (exs (cg n) f_after_of.body [.val a0, .val a1, .val a2, .val a3]) := id rfl
theorem c_begun (n : Nat) (a0 : D) : callF prg (n + 1) 31 [a0] = endF (exs (cg n) f_begun.body [.val a0, .un, .un, .un]) := id rfl
theorem c_first_standing (n : Nat) (a0 : D) : callF prg (n + 1) 32 [a0] = endF (exs (cg n) f_first_standing.body [.val a0]) := id rfl
theorem c_movers (n : Nat) (a0 : D) : callF prg (n + 1) 33 [a0] = endF (exs (cg n) f_movers.body [.val a0, .un, .un]) := id rfl
theorem c_can_step (n : Nat) (a0 a1 : D) : callF prg (n + 1) 34 [a0, a1] = endF (exs (cg n) f_can_step.body [.val a0, .val a1]) := id rfl
theorem c_after_step (n : Nat) (a0 a1 a2 : D) : callF prg (n + 1) 35 [a0, a1, a2] = endF (exs (cg n) f_after_step.body [.val a0, .val a1, .val a2, .un, .un, .un, .un, .un, .un]) := id rfl
theorem c_check_step (n : Nat) (a0 a1 a2 : D) : callF prg (n + 1) 36 [a0, a1, a2] = endF (exs (cg n) f_check_step.body [.val a0, .val a1, .val a2]) := id rfl
theorem c_step (n : Nat) (a0 a1 a2 : D) : callF prg (n + 1) 37 [a0, a1, a2] = endF (exs (cg n) f_step.body [.val a0, .val a1, .val a2]) := id rfl
theorem c_next_step (n : Nat) (a0 a1 a2 : D) : callF prg (n + 1) 38 [a0, a1, a2] = endF (exs (cg n) f_next_step.body [.val a0, .val a1, .val a2]) := id rfl
theorem c_standings_of (n : Nat) (a0 a1 : D) : callF prg (n + 1) 39 [a0, a1] = endF (exs (cg n) f_standings_of.body [.val a0, .val a1, .un, .un, .un]) := id rfl
theorem c_run (n : Nat) (a0 a1 : D) : callF prg (n + 1) 40 [a0, a1] = endF (exs (cg n) f_run.body [.val a0, .val a1]) := id rfl
theorem c_run_out (n : Nat) (a0 a1 : D) : callF prg (n + 1) 41 [a0, a1] = endF (exs (cg n) f_run_out.body [.val a0, .val a1, .un, .un, .un]) := id rfl
theorem c_is_came (n : Nat) (a0 a1 : D) : callF prg (n + 1) 42 [a0, a1] = endF (exs (cg n) f_is_came.body [.val a0, .val a1, .un, .un, .un]) := id rfl
theorem c_is_item (n : Nat) (a0 a1 : D) : callF prg (n + 1) 43 [a0, a1] = endF (exs (cg n) f_is_item.body [.val a0, .val a1]) := id rfl
theorem c_most_told (n : Nat) (a0 a1 : D) : callF prg (n + 1) 44 [a0, a1] = endF (exs (cg n) f_most_told.body [.val a0, .val a1, .un]) := id rfl
theorem c_is_told (n : Nat) (a0 a1 : D) : callF prg (n + 1) 45 [a0, a1] = endF (exs (cg n) f_is_told.body [.val a0, .val a1, .un, .un, .un, .un]) := id rfl
theorem c_flat (n : Nat) (a0 : D) : callF prg (n + 1) 46 [a0] = endF (exs (cg n) f_flat.body [.val a0, .un, .un]) := id rfl
theorem c_name_fault (n : Nat) (a0 a1 a2 : D) : callF prg (n + 1) 47 [a0, a1, a2] = endF (exs (cg n) f_name_fault.body [.val a0, .val a1, .val a2, .un, .un]) := id rfl
theorem c_raw_fault (n : Nat) (a0 a1 a2 : D) : callF prg (n + 1) 48 [a0, a1, a2] = endF (exs (cg n) f_raw_fault.body [.val a0, .val a1, .val a2, .un, .un]) := id rfl
theorem c_fault (n : Nat) (a0 a1 a2 : D) : callF prg (n + 1) 49 [a0, a1, a2] = endF (exs (cg n) f_fault.body [.val a0, .val a1, .val a2]) := id rfl
theorem c__law_hand (n : Nat) (a0 : D) : callF prg (n + 1) 50 [a0] = endF (exs (cg n) f__law_hand.body [.val a0, .un, .un]) := id rfl
theorem c__law_draw (n : Nat) (a0 a1 : D) : callF prg (n + 1) 51 [a0, a1] = endF (exs (cg n) f__law_draw.body [.val a0, .val a1, .un, .un, .un]) := id rfl
theorem c__law_some (n : Nat) (a0 a1 : D) : callF prg (n + 1) 52 [a0, a1] = endF (exs (cg n) f__law_some.body [.val a0, .val a1]) := id rfl
theorem c__law_shuffled (n : Nat) (a0 a1 : D) : callF prg (n + 1) 53 [a0, a1] = endF (exs (cg n) f__law_shuffled.body [.val a0, .val a1, .un, .un]) := id rfl
theorem c__law_is (n : Nat) (a0 a1 : D) : callF prg (n + 1) 54 [a0, a1] = endF (exs (cg n) f__law_is.body [.val a0, .val a1, .un, .un]) := id rfl
theorem c__law_inputs (n : Nat) (a0 a1 : D) : callF prg (n + 1) 55 [a0, a1] = endF (exs (cg n) f__law_inputs.body [.val a0, .val a1, .un, .un, .un, .un]) := id rfl
theorem c__law_begin (n : Nat) (a0 a1 : D) : callF prg (n + 1) 56 [a0, a1] = endF (exs (cg n) f__law_begin.body [.val a0, .val a1, .un, .un, .un, .un]) := id rfl
theorem c__law_next (n : Nat) (a0 a1 : D) : callF prg (n + 1) 57 [a0, a1] = endF (exs (cg n) f__law_next.body [.val a0, .val a1]) := id rfl
theorem c__law_name (n : Nat) (a0 a1 a2 a3 : D) : callF prg (n + 1) 58 [a0, a1, a2, a3] = endF (exs (cg n) f__law_name.body [.val a0, .val a1, .val a2, .val a3, .un, .un, .un, .un, .un, .un, .un]) := id rfl
theorem c__law_moved (n : Nat) (a0 a1 a2 a3 a4 : D) : callF prg (n + 1) 59 [a0, a1, a2, a3, a4] = endF (exs (cg n) f__law_moved.body [.val a0, .val a1, .val a2, .val a3, .val a4, .un, .un, .un, .un, .un, .un]) := id rfl
theorem c__law_left (n : Nat) (a0 : D) : callF prg (n + 1) 60 [a0] = endF (exs (cg n) f__law_left.body [.val a0, .un]) := id rfl
theorem c__law_woven (n : Nat) (a0 a1 a2 a3 a4 : D) : callF prg (n + 1) 61 [a0, a1, a2, a3, a4] = endF (exs (cg n) f__law_woven.body [.val a0, .val a1, .val a2, .val a3, .val a4, .un, .un, .un, .un, .un, .un, .un, .un, .un]) := id rfl
theorem c__law_whole (n : Nat) (a0 a1 a2 a3 a4 : D) : callF prg (n + 1) 62 [a0, a1, a2, a3, a4] = endF (exs (cg n) f__law_whole.body [.val a0, .val a1, .val a2, .val a3, .val a4, .un, .un, .un]) := id rfl
theorem c__law_came (n : Nat) (a0 : D) : callF prg (n + 1) 63 [a0] = endF (exs (cg n) f__law_came.body [.val a0]) := id rfl
theorem c__law_all (n : Nat) (a0 : D) : callF prg (n + 1) 64 [a0] = endF (exs (cg n) f__law_all.body [.val a0, .un, .un]) := id rfl
theorem c__law_fault (n : Nat) (a0 a1 a2 a3 a4 : D) : callF prg (n + 1) 65 [a0, a1, a2, a3, a4] = endF (exs (cg n) f__law_fault.body [.val a0, .val a1, .val a2, .val a3, .val a4, .un, .un, .un]) := id rfl
theorem c__law_led_right (n : Nat) (a0 a1 a2 a3 a4 a5 : D) : callF prg (n + 1) 66 [a0, a1, a2, a3, a4, a5] = endF (exs (cg n) f__law_led_right.body [.val a0, .val a1, .val a2, .val a3, .val a4, .val a5, .un, .un, .un, .un, .un, .un, .un, .un]) := id rfl
theorem c_law (n : Nat) (a0 : D) : callF prg (n + 1) 67 [a0] = endF (exs (cg n) f_law.body [.val a0, .un, .un, .un, .un, .un, .un, .un, .un, .un, .un, .un, .un, .un, .un, .un]) := id rfl
theorem i_Play (n : Nat) (a0 a1 : D) : iniF (n + 2) 0 [a0, a1] = endI (exs (cg n) f_Play_init.body [.own (.ins 0 []), .val a0, .val a1]) := id rfl
@[simp] theorem gs_0 : gs[0]? = some (.int 1000) := rfl
@[simp] theorem gs_1 : gs[1]? = some (.int 5) := rfl
@[simp] theorem gs_2 : gs[2]? = some (.tup [(.str s12_sweep), (.str s13_twice), (.str s14_borrow)]) := rfl
@[simp] theorem gs_3 : gs[3]? = some (.str s7_levels) := rfl
@[simp] theorem gs_4 : gs[4]? = some (.fn 6) := rfl
@[simp] theorem gs_5 : gs[5]? = some (.str s8_names) := rfl
@[simp] theorem gs_6 : gs[6]? = some (.str s15_chain) := rfl
@[simp] theorem gs_7 : gs[7]? = some (.str s6_near) := rfl
@[simp] theorem gs_8 : gs[8]? = some (.str s10_put) := rfl
@[simp] theorem gs_9 : gs[9]? = some (.str s11_look) := rfl
@[simp] theorem gs_10 : gs[10]? = some (.str s9_see) := rfl
@[simp] theorem gs_11 : gs[11]? = some (.int 100000000000000000000) := rfl
@[simp] theorem ne_0_1 : (s0_rows == s1_inputs) = false := by decide +kernel
@[simp] theorem ne_0_2 : (s0_rows == s2_kind) = false := by decide +kernel
@[simp] theorem ne_0_3 : (s0_rows == s3_great) = false := by decide +kernel
@[simp] theorem ne_0_4 : (s0_rows == s4_alike) = false := by decide +kernel
@[simp] theorem ne_0_5 : (s0_rows == s5_came) = false := by decide +kernel
@[simp] theorem ne_0_6 : (s0_rows == s6_near) = false := by decide +kernel
@[simp] theorem ne_0_7 : (s0_rows == s7_levels) = false := by decide +kernel
@[simp] theorem ne_0_8 : (s0_rows == s8_names) = false := by decide +kernel
@[simp] theorem ne_0_9 : (s0_rows == s9_see) = false := by decide +kernel
@[simp] theorem ne_0_10 : (s0_rows == s10_put) = false := by decide +kernel
@[simp] theorem ne_0_11 : (s0_rows == s11_look) = false := by decide +kernel
@[simp] theorem ne_0_12 : (s0_rows == s12_sweep) = false := by decide +kernel
@[simp] theorem ne_0_13 : (s0_rows == s13_twice) = false := by decide +kernel
@[simp] theorem ne_0_14 : (s0_rows == s14_borrow) = false := by decide +kernel
@[simp] theorem ne_0_15 : (s0_rows == s15_chain) = false := by decide +kernel
@[simp] theorem ne_1_0 : (s1_inputs == s0_rows) = false := by decide +kernel
@[simp] theorem ne_1_2 : (s1_inputs == s2_kind) = false := by decide +kernel
@[simp] theorem ne_1_3 : (s1_inputs == s3_great) = false := by decide +kernel
@[simp] theorem ne_1_4 : (s1_inputs == s4_alike) = false := by decide +kernel
@[simp] theorem ne_1_5 : (s1_inputs == s5_came) = false := by decide +kernel
@[simp] theorem ne_1_6 : (s1_inputs == s6_near) = false := by decide +kernel
@[simp] theorem ne_1_7 : (s1_inputs == s7_levels) = false := by decide +kernel
@[simp] theorem ne_1_8 : (s1_inputs == s8_names) = false := by decide +kernel
@[simp] theorem ne_1_9 : (s1_inputs == s9_see) = false := by decide +kernel
@[simp] theorem ne_1_10 : (s1_inputs == s10_put) = false := by decide +kernel
@[simp] theorem ne_1_11 : (s1_inputs == s11_look) = false := by decide +kernel
@[simp] theorem ne_1_12 : (s1_inputs == s12_sweep) = false := by decide +kernel
@[simp] theorem ne_1_13 : (s1_inputs == s13_twice) = false := by decide +kernel
@[simp] theorem ne_1_14 : (s1_inputs == s14_borrow) = false := by decide +kernel
@[simp] theorem ne_1_15 : (s1_inputs == s15_chain) = false := by decide +kernel
@[simp] theorem ne_2_0 : (s2_kind == s0_rows) = false := by decide +kernel
@[simp] theorem ne_2_1 : (s2_kind == s1_inputs) = false := by decide +kernel
@[simp] theorem ne_2_3 : (s2_kind == s3_great) = false := by decide +kernel
@[simp] theorem ne_2_4 : (s2_kind == s4_alike) = false := by decide +kernel
@[simp] theorem ne_2_5 : (s2_kind == s5_came) = false := by decide +kernel
@[simp] theorem ne_2_6 : (s2_kind == s6_near) = false := by decide +kernel
@[simp] theorem ne_2_7 : (s2_kind == s7_levels) = false := by decide +kernel
@[simp] theorem ne_2_8 : (s2_kind == s8_names) = false := by decide +kernel
@[simp] theorem ne_2_9 : (s2_kind == s9_see) = false := by decide +kernel
@[simp] theorem ne_2_10 : (s2_kind == s10_put) = false := by decide +kernel
@[simp] theorem ne_2_11 : (s2_kind == s11_look) = false := by decide +kernel
@[simp] theorem ne_2_12 : (s2_kind == s12_sweep) = false := by decide +kernel
@[simp] theorem ne_2_13 : (s2_kind == s13_twice) = false := by decide +kernel
@[simp] theorem ne_2_14 : (s2_kind == s14_borrow) = false := by decide +kernel
@[simp] theorem ne_2_15 : (s2_kind == s15_chain) = false := by decide +kernel
@[simp] theorem ne_3_0 : (s3_great == s0_rows) = false := by decide +kernel
@[simp] theorem ne_3_1 : (s3_great == s1_inputs) = false := by decide +kernel
@[simp] theorem ne_3_2 : (s3_great == s2_kind) = false := by decide +kernel
@[simp] theorem ne_3_4 : (s3_great == s4_alike) = false := by decide +kernel
@[simp] theorem ne_3_5 : (s3_great == s5_came) = false := by decide +kernel
@[simp] theorem ne_3_6 : (s3_great == s6_near) = false := by decide +kernel
@[simp] theorem ne_3_7 : (s3_great == s7_levels) = false := by decide +kernel
@[simp] theorem ne_3_8 : (s3_great == s8_names) = false := by decide +kernel
@[simp] theorem ne_3_9 : (s3_great == s9_see) = false := by decide +kernel
@[simp] theorem ne_3_10 : (s3_great == s10_put) = false := by decide +kernel
@[simp] theorem ne_3_11 : (s3_great == s11_look) = false := by decide +kernel
@[simp] theorem ne_3_12 : (s3_great == s12_sweep) = false := by decide +kernel
@[simp] theorem ne_3_13 : (s3_great == s13_twice) = false := by decide +kernel
@[simp] theorem ne_3_14 : (s3_great == s14_borrow) = false := by decide +kernel
@[simp] theorem ne_3_15 : (s3_great == s15_chain) = false := by decide +kernel
@[simp] theorem ne_4_0 : (s4_alike == s0_rows) = false := by decide +kernel
@[simp] theorem ne_4_1 : (s4_alike == s1_inputs) = false := by decide +kernel
@[simp] theorem ne_4_2 : (s4_alike == s2_kind) = false := by decide +kernel
@[simp] theorem ne_4_3 : (s4_alike == s3_great) = false := by decide +kernel
@[simp] theorem ne_4_5 : (s4_alike == s5_came) = false := by decide +kernel
@[simp] theorem ne_4_6 : (s4_alike == s6_near) = false := by decide +kernel
@[simp] theorem ne_4_7 : (s4_alike == s7_levels) = false := by decide +kernel
@[simp] theorem ne_4_8 : (s4_alike == s8_names) = false := by decide +kernel
@[simp] theorem ne_4_9 : (s4_alike == s9_see) = false := by decide +kernel
@[simp] theorem ne_4_10 : (s4_alike == s10_put) = false := by decide +kernel
@[simp] theorem ne_4_11 : (s4_alike == s11_look) = false := by decide +kernel
@[simp] theorem ne_4_12 : (s4_alike == s12_sweep) = false := by decide +kernel
@[simp] theorem ne_4_13 : (s4_alike == s13_twice) = false := by decide +kernel
@[simp] theorem ne_4_14 : (s4_alike == s14_borrow) = false := by decide +kernel
@[simp] theorem ne_4_15 : (s4_alike == s15_chain) = false := by decide +kernel
@[simp] theorem ne_5_0 : (s5_came == s0_rows) = false := by decide +kernel
@[simp] theorem ne_5_1 : (s5_came == s1_inputs) = false := by decide +kernel
@[simp] theorem ne_5_2 : (s5_came == s2_kind) = false := by decide +kernel
@[simp] theorem ne_5_3 : (s5_came == s3_great) = false := by decide +kernel
@[simp] theorem ne_5_4 : (s5_came == s4_alike) = false := by decide +kernel
@[simp] theorem ne_5_6 : (s5_came == s6_near) = false := by decide +kernel
@[simp] theorem ne_5_7 : (s5_came == s7_levels) = false := by decide +kernel
@[simp] theorem ne_5_8 : (s5_came == s8_names) = false := by decide +kernel
@[simp] theorem ne_5_9 : (s5_came == s9_see) = false := by decide +kernel
@[simp] theorem ne_5_10 : (s5_came == s10_put) = false := by decide +kernel
@[simp] theorem ne_5_11 : (s5_came == s11_look) = false := by decide +kernel
@[simp] theorem ne_5_12 : (s5_came == s12_sweep) = false := by decide +kernel
@[simp] theorem ne_5_13 : (s5_came == s13_twice) = false := by decide +kernel
@[simp] theorem ne_5_14 : (s5_came == s14_borrow) = false := by decide +kernel
@[simp] theorem ne_5_15 : (s5_came == s15_chain) = false := by decide +kernel
@[simp] theorem ne_6_0 : (s6_near == s0_rows) = false := by decide +kernel
@[simp] theorem ne_6_1 : (s6_near == s1_inputs) = false := by decide +kernel
@[simp] theorem ne_6_2 : (s6_near == s2_kind) = false := by decide +kernel
@[simp] theorem ne_6_3 : (s6_near == s3_great) = false := by decide +kernel
@[simp] theorem ne_6_4 : (s6_near == s4_alike) = false := by decide +kernel
@[simp] theorem ne_6_5 : (s6_near == s5_came) = false := by decide +kernel
@[simp] theorem ne_6_7 : (s6_near == s7_levels) = false := by decide +kernel
@[simp] theorem ne_6_8 : (s6_near == s8_names) = false := by decide +kernel
@[simp] theorem ne_6_9 : (s6_near == s9_see) = false := by decide +kernel
@[simp] theorem ne_6_10 : (s6_near == s10_put) = false := by decide +kernel
@[simp] theorem ne_6_11 : (s6_near == s11_look) = false := by decide +kernel
@[simp] theorem ne_6_12 : (s6_near == s12_sweep) = false := by decide +kernel
@[simp] theorem ne_6_13 : (s6_near == s13_twice) = false := by decide +kernel
@[simp] theorem ne_6_14 : (s6_near == s14_borrow) = false := by decide +kernel
@[simp] theorem ne_6_15 : (s6_near == s15_chain) = false := by decide +kernel
@[simp] theorem ne_7_0 : (s7_levels == s0_rows) = false := by decide +kernel
@[simp] theorem ne_7_1 : (s7_levels == s1_inputs) = false := by decide +kernel
@[simp] theorem ne_7_2 : (s7_levels == s2_kind) = false := by decide +kernel
@[simp] theorem ne_7_3 : (s7_levels == s3_great) = false := by decide +kernel
@[simp] theorem ne_7_4 : (s7_levels == s4_alike) = false := by decide +kernel
@[simp] theorem ne_7_5 : (s7_levels == s5_came) = false := by decide +kernel
@[simp] theorem ne_7_6 : (s7_levels == s6_near) = false := by decide +kernel
@[simp] theorem ne_7_8 : (s7_levels == s8_names) = false := by decide +kernel
@[simp] theorem ne_7_9 : (s7_levels == s9_see) = false := by decide +kernel
@[simp] theorem ne_7_10 : (s7_levels == s10_put) = false := by decide +kernel
@[simp] theorem ne_7_11 : (s7_levels == s11_look) = false := by decide +kernel
@[simp] theorem ne_7_12 : (s7_levels == s12_sweep) = false := by decide +kernel
@[simp] theorem ne_7_13 : (s7_levels == s13_twice) = false := by decide +kernel
@[simp] theorem ne_7_14 : (s7_levels == s14_borrow) = false := by decide +kernel
@[simp] theorem ne_7_15 : (s7_levels == s15_chain) = false := by decide +kernel
@[simp] theorem ne_8_0 : (s8_names == s0_rows) = false := by decide +kernel
@[simp] theorem ne_8_1 : (s8_names == s1_inputs) = false := by decide +kernel
@[simp] theorem ne_8_2 : (s8_names == s2_kind) = false := by decide +kernel
@[simp] theorem ne_8_3 : (s8_names == s3_great) = false := by decide +kernel
@[simp] theorem ne_8_4 : (s8_names == s4_alike) = false := by decide +kernel
@[simp] theorem ne_8_5 : (s8_names == s5_came) = false := by decide +kernel
@[simp] theorem ne_8_6 : (s8_names == s6_near) = false := by decide +kernel
@[simp] theorem ne_8_7 : (s8_names == s7_levels) = false := by decide +kernel
@[simp] theorem ne_8_9 : (s8_names == s9_see) = false := by decide +kernel
@[simp] theorem ne_8_10 : (s8_names == s10_put) = false := by decide +kernel
@[simp] theorem ne_8_11 : (s8_names == s11_look) = false := by decide +kernel
@[simp] theorem ne_8_12 : (s8_names == s12_sweep) = false := by decide +kernel
@[simp] theorem ne_8_13 : (s8_names == s13_twice) = false := by decide +kernel
@[simp] theorem ne_8_14 : (s8_names == s14_borrow) = false := by decide +kernel
@[simp] theorem ne_8_15 : (s8_names == s15_chain) = false := by decide +kernel
@[simp] theorem ne_9_0 : (s9_see == s0_rows) = false := by decide +kernel
@[simp] theorem ne_9_1 : (s9_see == s1_inputs) = false := by decide +kernel
@[simp] theorem ne_9_2 : (s9_see == s2_kind) = false := by decide +kernel
@[simp] theorem ne_9_3 : (s9_see == s3_great) = false := by decide +kernel
@[simp] theorem ne_9_4 : (s9_see == s4_alike) = false := by decide +kernel
@[simp] theorem ne_9_5 : (s9_see == s5_came) = false := by decide +kernel
@[simp] theorem ne_9_6 : (s9_see == s6_near) = false := by decide +kernel
@[simp] theorem ne_9_7 : (s9_see == s7_levels) = false := by decide +kernel
@[simp] theorem ne_9_8 : (s9_see == s8_names) = false := by decide +kernel
@[simp] theorem ne_9_10 : (s9_see == s10_put) = false := by decide +kernel
@[simp] theorem ne_9_11 : (s9_see == s11_look) = false := by decide +kernel
@[simp] theorem ne_9_12 : (s9_see == s12_sweep) = false := by decide +kernel
@[simp] theorem ne_9_13 : (s9_see == s13_twice) = false := by decide +kernel
@[simp] theorem ne_9_14 : (s9_see == s14_borrow) = false := by decide +kernel
@[simp] theorem ne_9_15 : (s9_see == s15_chain) = false := by decide +kernel
@[simp] theorem ne_10_0 : (s10_put == s0_rows) = false := by decide +kernel
@[simp] theorem ne_10_1 : (s10_put == s1_inputs) = false := by decide +kernel
@[simp] theorem ne_10_2 : (s10_put == s2_kind) = false := by decide +kernel
@[simp] theorem ne_10_3 : (s10_put == s3_great) = false := by decide +kernel
@[simp] theorem ne_10_4 : (s10_put == s4_alike) = false := by decide +kernel
@[simp] theorem ne_10_5 : (s10_put == s5_came) = false := by decide +kernel
@[simp] theorem ne_10_6 : (s10_put == s6_near) = false := by decide +kernel
@[simp] theorem ne_10_7 : (s10_put == s7_levels) = false := by decide +kernel
@[simp] theorem ne_10_8 : (s10_put == s8_names) = false := by decide +kernel
@[simp] theorem ne_10_9 : (s10_put == s9_see) = false := by decide +kernel
@[simp] theorem ne_10_11 : (s10_put == s11_look) = false := by decide +kernel
@[simp] theorem ne_10_12 : (s10_put == s12_sweep) = false := by decide +kernel
@[simp] theorem ne_10_13 : (s10_put == s13_twice) = false := by decide +kernel
@[simp] theorem ne_10_14 : (s10_put == s14_borrow) = false := by decide +kernel
@[simp] theorem ne_10_15 : (s10_put == s15_chain) = false := by decide +kernel
@[simp] theorem ne_11_0 : (s11_look == s0_rows) = false := by decide +kernel
@[simp] theorem ne_11_1 : (s11_look == s1_inputs) = false := by decide +kernel
@[simp] theorem ne_11_2 : (s11_look == s2_kind) = false := by decide +kernel
@[simp] theorem ne_11_3 : (s11_look == s3_great) = false := by decide +kernel
@[simp] theorem ne_11_4 : (s11_look == s4_alike) = false := by decide +kernel
@[simp] theorem ne_11_5 : (s11_look == s5_came) = false := by decide +kernel
@[simp] theorem ne_11_6 : (s11_look == s6_near) = false := by decide +kernel
@[simp] theorem ne_11_7 : (s11_look == s7_levels) = false := by decide +kernel
@[simp] theorem ne_11_8 : (s11_look == s8_names) = false := by decide +kernel
@[simp] theorem ne_11_9 : (s11_look == s9_see) = false := by decide +kernel
@[simp] theorem ne_11_10 : (s11_look == s10_put) = false := by decide +kernel
@[simp] theorem ne_11_12 : (s11_look == s12_sweep) = false := by decide +kernel
@[simp] theorem ne_11_13 : (s11_look == s13_twice) = false := by decide +kernel
@[simp] theorem ne_11_14 : (s11_look == s14_borrow) = false := by decide +kernel
@[simp] theorem ne_11_15 : (s11_look == s15_chain) = false := by decide +kernel
@[simp] theorem ne_12_0 : (s12_sweep == s0_rows) = false := by decide +kernel
@[simp] theorem ne_12_1 : (s12_sweep == s1_inputs) = false := by decide +kernel
@[simp] theorem ne_12_2 : (s12_sweep == s2_kind) = false := by decide +kernel
@[simp] theorem ne_12_3 : (s12_sweep == s3_great) = false := by decide +kernel
@[simp] theorem ne_12_4 : (s12_sweep == s4_alike) = false := by decide +kernel
@[simp] theorem ne_12_5 : (s12_sweep == s5_came) = false := by decide +kernel
@[simp] theorem ne_12_6 : (s12_sweep == s6_near) = false := by decide +kernel
@[simp] theorem ne_12_7 : (s12_sweep == s7_levels) = false := by decide +kernel
@[simp] theorem ne_12_8 : (s12_sweep == s8_names) = false := by decide +kernel
@[simp] theorem ne_12_9 : (s12_sweep == s9_see) = false := by decide +kernel
@[simp] theorem ne_12_10 : (s12_sweep == s10_put) = false := by decide +kernel
@[simp] theorem ne_12_11 : (s12_sweep == s11_look) = false := by decide +kernel
@[simp] theorem ne_12_13 : (s12_sweep == s13_twice) = false := by decide +kernel
@[simp] theorem ne_12_14 : (s12_sweep == s14_borrow) = false := by decide +kernel
@[simp] theorem ne_12_15 : (s12_sweep == s15_chain) = false := by decide +kernel
@[simp] theorem ne_13_0 : (s13_twice == s0_rows) = false := by decide +kernel
@[simp] theorem ne_13_1 : (s13_twice == s1_inputs) = false := by decide +kernel
@[simp] theorem ne_13_2 : (s13_twice == s2_kind) = false := by decide +kernel
@[simp] theorem ne_13_3 : (s13_twice == s3_great) = false := by decide +kernel
@[simp] theorem ne_13_4 : (s13_twice == s4_alike) = false := by decide +kernel
@[simp] theorem ne_13_5 : (s13_twice == s5_came) = false := by decide +kernel
@[simp] theorem ne_13_6 : (s13_twice == s6_near) = false := by decide +kernel
@[simp] theorem ne_13_7 : (s13_twice == s7_levels) = false := by decide +kernel
@[simp] theorem ne_13_8 : (s13_twice == s8_names) = false := by decide +kernel
@[simp] theorem ne_13_9 : (s13_twice == s9_see) = false := by decide +kernel
@[simp] theorem ne_13_10 : (s13_twice == s10_put) = false := by decide +kernel
@[simp] theorem ne_13_11 : (s13_twice == s11_look) = false := by decide +kernel
@[simp] theorem ne_13_12 : (s13_twice == s12_sweep) = false := by decide +kernel
@[simp] theorem ne_13_14 : (s13_twice == s14_borrow) = false := by decide +kernel
@[simp] theorem ne_13_15 : (s13_twice == s15_chain) = false := by decide +kernel
@[simp] theorem ne_14_0 : (s14_borrow == s0_rows) = false := by decide +kernel
@[simp] theorem ne_14_1 : (s14_borrow == s1_inputs) = false := by decide +kernel
@[simp] theorem ne_14_2 : (s14_borrow == s2_kind) = false := by decide +kernel
@[simp] theorem ne_14_3 : (s14_borrow == s3_great) = false := by decide +kernel
@[simp] theorem ne_14_4 : (s14_borrow == s4_alike) = false := by decide +kernel
@[simp] theorem ne_14_5 : (s14_borrow == s5_came) = false := by decide +kernel
@[simp] theorem ne_14_6 : (s14_borrow == s6_near) = false := by decide +kernel
@[simp] theorem ne_14_7 : (s14_borrow == s7_levels) = false := by decide +kernel
@[simp] theorem ne_14_8 : (s14_borrow == s8_names) = false := by decide +kernel
@[simp] theorem ne_14_9 : (s14_borrow == s9_see) = false := by decide +kernel
@[simp] theorem ne_14_10 : (s14_borrow == s10_put) = false := by decide +kernel
@[simp] theorem ne_14_11 : (s14_borrow == s11_look) = false := by decide +kernel
@[simp] theorem ne_14_12 : (s14_borrow == s12_sweep) = false := by decide +kernel
@[simp] theorem ne_14_13 : (s14_borrow == s13_twice) = false := by decide +kernel
@[simp] theorem ne_14_15 : (s14_borrow == s15_chain) = false := by decide +kernel
@[simp] theorem ne_15_0 : (s15_chain == s0_rows) = false := by decide +kernel
@[simp] theorem ne_15_1 : (s15_chain == s1_inputs) = false := by decide +kernel
@[simp] theorem ne_15_2 : (s15_chain == s2_kind) = false := by decide +kernel
@[simp] theorem ne_15_3 : (s15_chain == s3_great) = false := by decide +kernel
@[simp] theorem ne_15_4 : (s15_chain == s4_alike) = false := by decide +kernel
@[simp] theorem ne_15_5 : (s15_chain == s5_came) = false := by decide +kernel
@[simp] theorem ne_15_6 : (s15_chain == s6_near) = false := by decide +kernel
@[simp] theorem ne_15_7 : (s15_chain == s7_levels) = false := by decide +kernel
@[simp] theorem ne_15_8 : (s15_chain == s8_names) = false := by decide +kernel
@[simp] theorem ne_15_9 : (s15_chain == s9_see) = false := by decide +kernel
@[simp] theorem ne_15_10 : (s15_chain == s10_put) = false := by decide +kernel
@[simp] theorem ne_15_11 : (s15_chain == s11_look) = false := by decide +kernel
@[simp] theorem ne_15_12 : (s15_chain == s12_sweep) = false := by decide +kernel
@[simp] theorem ne_15_13 : (s15_chain == s13_twice) = false := by decide +kernel
@[simp] theorem ne_15_14 : (s15_chain == s14_borrow) = false := by decide +kernel
theorem sok_0 : shape2 (.str s0_rows) (.str s0_rows) = true := by decide +kernel
theorem sok_1 : shape2 (.str s1_inputs) (.str s1_inputs) = true := by decide +kernel
theorem sok_2 : shape2 (.str s2_kind) (.str s2_kind) = true := by decide +kernel
theorem sok_3 : shape2 (.str s3_great) (.str s3_great) = true := by decide +kernel
theorem sok_4 : shape2 (.str s4_alike) (.str s4_alike) = true := by decide +kernel
theorem sok_5 : shape2 (.str s5_came) (.str s5_came) = true := by decide +kernel
theorem sok_6 : shape2 (.str s6_near) (.str s6_near) = true := by decide +kernel
theorem sok_7 : shape2 (.str s7_levels) (.str s7_levels) = true := by decide +kernel
theorem sok_8 : shape2 (.str s8_names) (.str s8_names) = true := by decide +kernel
theorem sok_9 : shape2 (.str s9_see) (.str s9_see) = true := by decide +kernel
theorem sok_10 : shape2 (.str s10_put) (.str s10_put) = true := by decide +kernel
theorem sok_11 : shape2 (.str s11_look) (.str s11_look) = true := by decide +kernel
theorem sok_12 : shape2 (.str s12_sweep) (.str s12_sweep) = true := by decide +kernel
theorem sok_13 : shape2 (.str s13_twice) (.str s13_twice) = true := by decide +kernel
theorem sok_14 : shape2 (.str s14_borrow) (.str s14_borrow) = true := by decide +kernel
theorem sok_15 : shape2 (.str s15_chain) (.str s15_chain) = true := by decide +kernel
@[simp] theorem sko_0 : PyData.strOk s0_rows = true := by decide +kernel
@[simp] theorem sko_1 : PyData.strOk s1_inputs = true := by decide +kernel
@[simp] theorem sko_2 : PyData.strOk s2_kind = true := by decide +kernel
@[simp] theorem sko_3 : PyData.strOk s3_great = true := by decide +kernel
@[simp] theorem sko_4 : PyData.strOk s4_alike = true := by decide +kernel
@[simp] theorem sko_5 : PyData.strOk s5_came = true := by decide +kernel
@[simp] theorem sko_6 : PyData.strOk s6_near = true := by decide +kernel
@[simp] theorem sko_7 : PyData.strOk s7_levels = true := by decide +kernel
@[simp] theorem sko_8 : PyData.strOk s8_names = true := by decide +kernel
@[simp] theorem sko_9 : PyData.strOk s9_see = true := by decide +kernel
@[simp] theorem sko_10 : PyData.strOk s10_put = true := by decide +kernel
@[simp] theorem sko_11 : PyData.strOk s11_look = true := by decide +kernel
@[simp] theorem sko_12 : PyData.strOk s12_sweep = true := by decide +kernel
@[simp] theorem sko_13 : PyData.strOk s13_twice = true := by decide +kernel
@[simp] theorem sko_14 : PyData.strOk s14_borrow = true := by decide +kernel
@[simp] theorem sko_15 : PyData.strOk s15_chain = true := by decide +kernel
end K13

set_option maxRecDepth 100000
set_option maxHeartbeats 400000
namespace K13
open PySem Ev
/-! ### checks -/
theorem t_is_integer (n : Nat) (i : Int) : callF prg (n + 1) 0 [.int i] = pure (.bl true) := by
  refine eq_pure fun w => ?_
  rw [c_is_integer]
  simp [f_is_integer, Vz0, Vz1, Vz2, Vz3, Vz4, Vz5, kx, SZ, beq_self_eq_true, List.contains_cons, List.contains_nil]
theorem t_is_within (n : Nat) (i lo hi : Int) : callF prg (n + 2) 1 [.int i, .int lo, .int hi] = pure (.bl (decide (lo ≤ i ∧ i ≤ hi))) := by
  refine eq_pure fun w => ?_
  rw [c_is_within]
  simp [f_is_within, Vz0, Vz1, Vz2, Vz3, Vz4, Vz5, kx, SZ, beq_self_eq_true, List.contains_cons, List.contains_nil, t_is_integer]
  by_cases h : lo ≤ i <;> simp [h, Vz0, Vz1, Vz2, Vz3, Vz4, Vz5, kx, SZ, beq_self_eq_true, List.contains_cons, List.contains_nil]
theorem t_is_below (n : Nat) (i m : Int) : callF prg (n + 3) 2 [.int i, .int m] = pure (.bl (decide (0 ≤ i ∧ i < m))) := by
  refine eq_pure fun w => ?_
  rw [c_is_below]
  simp [f_is_below, Vz0, Vz1, Vz2, Vz3, Vz4, Vz5, kx, SZ, beq_self_eq_true, List.contains_cons, List.contains_nil, t_is_within, Int.le_sub_one_iff]
theorem t_is_sized (n : Nat) (xs : List D) (lo hi : Int) : callF prg (n + 1) 3 [.tup xs, .int lo, .int hi] = pure (.bl (decide (lo ≤ xs.length ∧ xs.length ≤ hi))) := by
  refine eq_pure fun w => ?_
  rw [c_is_sized]
  simp [f_is_sized, Vz0, Vz1, Vz2, Vz3, Vz4, Vz5, kx, SZ, beq_self_eq_true, List.contains_cons, List.contains_nil]
  by_cases h : lo ≤ xs.length <;> simp [h, Vz0, Vz1, Vz2, Vz3, Vz4, Vz5, kx, SZ, beq_self_eq_true, List.contains_cons, List.contains_nil]
theorem t_is_listed_t (n : Nat) (xs : List D) : callF prg (n + 1) 4 [.tup xs] = pure (.bl true) := by
  refine eq_pure fun w => ?_
  rw [c_is_listed]
  simp [f_is_listed, Vz0, Vz1, Vz2, Vz3, Vz4, Vz5, kx, SZ, beq_self_eq_true, List.contains_cons, List.contains_nil]
theorem t_is_listed_l (n : Nat) (xs : List D) : callF prg (n + 1) 4 [.lst xs] = pure (.bl true) := by
  refine eq_pure fun w => ?_
  rw [c_is_listed]
  simp [f_is_listed, Vz0, Vz1, Vz2, Vz3, Vz4, Vz5, kx, SZ, beq_self_eq_true, List.contains_cons, List.contains_nil]
theorem t_replaced (n : Nat) (xs : List D) (k : Nat) (x : D) (h : k < xs.length) (hs : xs.length ≤ 1000) : callF prg (n + 1) 5 [.tup xs, .int k, x] = pure (.tup (xs.set k x)) := by
  refine eq_pure fun w => ?_
  rw [c_replaced]
  simp [f_replaced, Vz0, Vz1, Vz2, Vz3, Vz4, Vz5, kx, SZ, beq_self_eq_true, List.contains_cons, List.contains_nil, take_drop_set h]
  omega
end K13

set_option maxRecDepth 100000
set_option maxHeartbeats 400000
namespace K13
open PySem Ev
/-! ### hands, weavings -/
def eNV (x : Int × Int) : D := .tup [.int x.1, .int x.2]
def eIs (l : List Int) : D := .tup (l.map .int)
theorem d_eIs {p : List Int} : der (eIs p) = pure (eIs p) := id rfl
def eHands (hs : List Nat) : D := .tup (hs.map fun (h : Nat) => .int (h : Int))
/-- a weaving: a tuple or a list of hands -/
def IsW (d : D) (W : List Nat) : Prop := d = .tup (W.map fun (h : Nat) => .int (h : Int)) ∨ d = .lst (W.map fun (h : Nat) => .int (h : Int))
theorem IsW.enum {d : D} {W : List Nat} (h : IsW d W) : enumOf [d] = pure (enumD (W.map fun (h : Nat) => .int (h : Int))) := by rcases h with rfl | rfl <;> rfl
theorem IsW.der {d : D} {W : List Nat} (h : IsW d W) : Ev.der d = pure d := by rcases h with rfl | rfl <;> rfl
theorem t_is_listed {d : D} {W : List Nat} (h : IsW d W) (n : Nat) : callF prg (n + 1) 4 [d] = pure (.bl true) := by
  rcases h with rfl | rfl
  · exact t_is_listed_t n _
  · exact t_is_listed_l n _
theorem enumD_get {α : Type} {f : α → D} {xs : List α} {i : Nat} {d : D} (h : (enumD (xs.map f))[i]? = some d) : ∃ a, xs[i]? = some a ∧ d = .tup [.int i, f a] := by
  unfold enumD at h
  rw [List.getElem?_mapIdx, List.getElem?_map] at h
  cases z : xs[i]? with
  | none => rw [z] at h; simp at h
  | some a => rw [z] at h; simp at h; exact ⟨a, rfl, h.symm⟩
theorem enumD_len {xs : List D} : (enumD xs).length = xs.length := by simp [enumD]
theorem d_eHands {hs : List Nat} : der (eHands hs) = pure (eHands hs) := id rfl
theorem l_eHands {hs : List Nat} : b1op .len (eHands hs) = pure (.int hs.length) := by simp [eHands, Vz0, Vz1, Vz2, Vz3, Vz4, Vz5, kx, SZ, beq_self_eq_true, List.contains_cons, List.contains_nil]
theorem x_eHands {hs : List Nat} {i : Nat} : idxop (eHands hs) (.int (i : Int)) = ofO ((hs[i]?).map fun (h : Nat) => .int (h : Int)) := by simp [eHands, Vz0, Vz1, Vz2, Vz3, Vz4, Vz5, kx, SZ, beq_self_eq_true, List.contains_cons, List.contains_nil]
theorem n_eHands {hs : List Nat} {i : Nat} : cmpop .nin (.int (i : Int)) (eHands hs) = pure (.bl (!decide (i ∈ hs))) := by
  unfold eHands
  rw [c_nint, flat_ints, hasD_ints, flat_int]; rfl
theorem i_eHands {hs : List Nat} {i : Nat} : cmpop .isin (.int (i : Int)) (eHands hs) = pure (.bl (decide (i ∈ hs))) := by
  unfold eHands
  rw [c_int, flat_ints, hasD_ints, flat_int]; rfl
theorem ii_eHands {hs : List Nat} : isIns (eHands hs) = false := id rfl
theorem li_eHands {W : List Nat} : b1op .list (eHands W) = pure (.lst (W.map fun (h : Nat) => .int (h : Int))) := id rfl
theorem x_eHands0 {h : Nat} {t : List Nat} : idxop (eHands (h :: t)) (.int 0) = pure (.int (h : Int)) := by simp [eHands, Vz0, Vz1, Vz2, Vz3, Vz4, Vz5, kx, SZ, beq_self_eq_true, List.contains_cons, List.contains_nil]
theorem s_eHands {W : List Nat} {r : Nat} : sliop (eHands W) none (some (r : Int)) = pure (eHands (W.take r)) := by
  unfold eHands
  rw [l_tup, cut_to, ← List.map_take]
theorem in_levels : hasD (.str s7_levels) [.str s12_sweep, .str s13_twice, .str s14_borrow] = false := by simp [hasD, Vz0, Vz1, Vz2, Vz3, Vz4, Vz5, kx, SZ, beq_self_eq_true, List.contains_cons, List.contains_nil]
theorem eqv_encs {α : Type} [DecidableEq α] (enc : α → D) (inj : ∀ a b, enc a = enc b → a = b) (hp : ∀ a, (enc a).pl = true) (a b : α) : D.eqv (enc a) (enc b) = decide (a = b) := eqv_enc enc inj hp a b
end K13

set_option maxRecDepth 100000
set_option maxHeartbeats 400000
namespace K13
open PySem Ev
/-! ### a while -/
theorem wp_whlE {C : Cfg} {c : X} {b : Ss} {e : Ev.Env} {w : Wd} {Q : Fl → Wd → Prop} {E : EK} : wp (ex C (.whl c b) e) w Q E = wp (whl C.wf (fun e => tst (ev C c e)) (fun e => exs C b e) e) w Q E := by rw [ex]
/-- k turns are left at most -/
theorem wp_whl {c : Ev.Env → M Bool} {b : Ev.Env → M Fl} {Q : Fl → Wd → Prop} {E : EK} (I : Nat → Ev.Env → Wd → Prop) (hs : ∀ k e w, I k e w → wp (c e) w (fun t w' => match t with
      | true => wp (b e) w' (fun f w2 => match f with
        | .nx e2 => ∃ j, j < k ∧ I j e2 w2
        | .ct e2 => ∃ j, j < k ∧ I j e2 w2
        | .bk e2 => Q (.nx e2) w2
        | f => Q f w2) E
      | false => Q (.nx e) w') (fun k x w' => Q (.xc k x e) w')) : ∀ (n k : Nat) (e : Ev.Env) (w : Wd), k < n → I k e w → wp (whl n c b e) w Q E
  | 0, k, _, _, h, _ => absurd h (by omega)
  | n + 1, k, e, w, hk, h0 => by
    have H := hs k e w h0
    have hb : ∀ w', wp (b e) w' (fun f w2 => match f with
        | .nx e2 => ∃ j, j < k ∧ I j e2 w2
        | .ct e2 => ∃ j, j < k ∧ I j e2 w2
        | .bk e2 => Q (.nx e2) w2
        | f => Q f w2) E → c e w = .ok true w' → wp (whl (n + 1) c b e) w Q E := fun w' hw hc => by
      unfold wp at hw ⊢
      rw [whl]
      dsimp only
      rw [hc]
      dsimp only
      cases y : b e w' with
      | stk => rw [y] at hw; exact hw.elim
      | exc k x w2 => rw [y] at hw; exact hw
      | ok f w2 =>
        rw [y] at hw
        dsimp only at hw ⊢
        cases f with
        | nx e2 =>
          obtain ⟨j, hj, hi⟩ := hw
          exact wp_whl I hs n j e2 w2 (by omega) hi
        | ct e2 =>
          obtain ⟨j, hj, hi⟩ := hw
          exact wp_whl I hs n j e2 w2 (by omega) hi
        | bk e2 => exact hw
        | rt d => exact hw
        | xc k x e2 => exact hw
    rw [wp] at H
    cases z : c e w with
    | stk => rw [z] at H; exact H.elim
    | exc k x w' =>
      rw [z] at H
      unfold wp
      rw [whl]
      dsimp only
      rw [z]
      exact H
    | ok t w' =>
      rw [z] at H
      cases t with
      | false =>
        unfold wp
        rw [whl]
        dsimp only
        rw [z]
        exact H
      | true => exact hb w' H z
/-! ### a kind of plays -/
def mvD (S : List D) : List Nat := ((S.zipIdx).filter (fun p => !isNon p.1)).map (·.2)
structure KI where
  pl : D
  m : Nat
  G : Type
  C : G → D
  S : G → List D
  T : G → D
  ok : G → Prop
  g0 : G
  st : G → Nat → G
  m1 : 1 ≤ m
  m5 : m ≤ 5
  ok0 : ok g0
  okS : ∀ g h, ok g → h ∈ mvD (S g) → ok (st g h)
  ln : ∀ g, ok g → (S g).length = m
  dp : der pl = pure pl
  dS : ∀ g x, ok g → x ∈ S g → der x = pure x ∧ isIns x = false
  hand : ∀ (n : Nat) (i : Int), callF prg (n + 4) 11 [pl, .int i] = pure (.bl (decide (0 ≤ i ∧ i < m)))
  begun : ∀ n : Nat, callF prg (n + 4) 31 [pl] = pure (.tup [C g0, .tup (S g0), T g0])
  after : ∀ (n : Nat) g h, ok g → h ∈ mvD (S g) → callF prg (n + 6) 35 [pl, .tup [C g, .tup (S g), T g], .int (h : Int)] = pure (.tup [C (st g h), .tup (S (st g h)), T (st g h)])
def KI.e (K : KI) (g : K.G) : D := .tup [K.C g, .tup (K.S g), K.T g]
def KI.at (K : KI) (W : List Nat) : Nat → K.G
  | 0 => K.g0
  | i + 1 => match W[i]? with
    | some h => K.st (K.at W i) h
    | none => K.at W i
def KI.Wov (K : KI) (W : List Nat) : Prop := ∀ i h, W[i]? = some h → h ∈ mvD (K.S (K.at W i))
theorem KI.at_ok {K : KI} {W : List Nat} (V : K.Wov W) : ∀ i, K.ok (K.at W i)
  | 0 => K.ok0
  | i + 1 => by
    rw [KI.at]
    cases z : W[i]? with
    | none => exact K.at_ok V i
    | some h => exact K.okS _ _ (K.at_ok V i) (V i h z)
theorem KI.d_e (K : KI) (g : K.G) : der (K.e g) = pure (K.e g) := id rfl
theorem KI.x1 (K : KI) (g : K.G) : idxop (K.e g) (.int 1) = pure (.tup (K.S g)) := by simp [KI.e, Vz0, Vz1, Vz2, Vz3, Vz4, Vz5, kx, SZ, beq_self_eq_true, List.contains_cons, List.contains_nil]
theorem KI.x0 (K : KI) (g : K.G) : idxop (K.e g) (.int 0) = pure (K.C g) := by simp [KI.e, Vz0, Vz1, Vz2, Vz3, Vz4, Vz5, kx, SZ, beq_self_eq_true, List.contains_cons, List.contains_nil]
theorem mem_mvD {S : List D} {h : Nat} : h ∈ mvD S ↔ ∃ s, S[h]? = some s ∧ isNon s = false := by
  unfold mvD
  simp only [List.mem_map, List.mem_filter, Prod.exists, List.mem_zipIdx_iff_getElem?]
  constructor
  · rintro ⟨a, b, ⟨h1, h2⟩, rfl⟩
    exact ⟨a, h1, by simpa using h2⟩
  · rintro ⟨s, hs, hn⟩
    exact ⟨s, h, ⟨hs, by simp [hn]⟩, rfl⟩
theorem mvD_len {S : List D} : (mvD S).length ≤ S.length := by
  unfold mvD
  rw [List.length_map]
  refine Nat.le_trans (List.length_filter_le _ _) (by simp)
theorem g_movers (K : KI) (n : Nat) (g : K.G) (hk : K.ok g) : callF prg (n + 1) 33 [K.e g] = pure (eHands (mvD (K.S g))) := by
  refine eq_pure fun w => ?_
  rw [c_movers]
  have hl := K.ln g hk
  have h5 := K.m5
  have em : (enumD (K.S g)) = (K.S g).zipIdx.map fun p => D.tup [.int p.2, p.1] := by
    have := enumD_map (fun x : D => x) (K.S g)
    simpa using this
  simp [f_movers, Vz0, Vz1, Vz2, Vz3, Vz4, Vz5, kx, SZ, beq_self_eq_true, List.contains_cons, List.contains_nil, KI.d_e, KI.x1, em]
  refine ⟨by omega, wp_lc (fun (p : D × Nat) => .tup [.int p.2, p.1]) (fun p => !isNon p.1) (fun p => .int p.2) _ (fun a ha => ?_) ?_⟩
  · obtain ⟨x, i⟩ := a
    have hx : x ∈ K.S g := List.mem_of_getElem? (List.mem_zipIdx_iff_getElem?.mp ha)
    obtain ⟨d1, d2⟩ := K.dS g x hk hx
    simp [Vz0, Vz1, Vz2, Vz3, Vz4, Vz5, kx, SZ, beq_self_eq_true, List.contains_cons, List.contains_nil, d1, d2]
  · simp [Vz0, Vz1, Vz2, Vz3, Vz4, Vz5, kx, SZ, beq_self_eq_true, List.contains_cons, List.contains_nil, eHands, mvD]
theorem g_can_step (K : KI) (n : Nat) (p : D) (g : K.G) (hk : K.ok g) : callF prg (n + 2) 34 [p, K.e g] = pure (eHands (mvD (K.S g))) := by
  refine eq_pure fun w => ?_
  rw [c_can_step]
  simp [f_can_step, Vz0, Vz1, Vz2, Vz3, Vz4, Vz5, kx, SZ, beq_self_eq_true, List.contains_cons, List.contains_nil, KI.d_e, g_movers K n g hk]
theorem g_first (K : KI) (n : Nat) : callF prg (n + 5) 32 [K.pl] = pure (K.e K.g0) := by
  refine eq_pure fun w => ?_
  rw [c_first_standing]
  simp [f_first_standing, Vz0, Vz1, Vz2, Vz3, Vz4, Vz5, kx, SZ, beq_self_eq_true, List.contains_cons, List.contains_nil, K.dp, K.begun n]
  rfl
theorem g_after (K : KI) (n : Nat) (g : K.G) (h : Nat) (hk : K.ok g) (hm : h ∈ mvD (K.S g)) : callF prg (n + 6) 35 [K.pl, K.e g, .int (h : Int)] = pure (K.e (K.st g h)) := K.after n g h hk hm
theorem KI.lt {K : KI} {g : K.G} {h : Nat} (hk : K.ok g) (hm : h ∈ mvD (K.S g)) : h < K.m := by
  obtain ⟨s, h1, _⟩ := mem_mvD.mp hm
  rw [← K.ln g hk]
  exact (List.getElem?_eq_some_iff.mp h1).1
theorem g_step (K : KI) (n : Nat) (g : K.G) (h : Nat) (hk : K.ok g) (hm : h ∈ mvD (K.S g)) : callF prg (n + 7) 37 [K.pl, K.e g, .int (h : Int)] = pure (K.e (K.st g h)) := by
  refine eq_pure fun w => ?_
  rw [c_step]
  have hl := K.lt hk hm
  obtain ⟨s, h1, h2⟩ := mem_mvD.mp hm
  obtain ⟨d1, d2⟩ := K.dS g s hk (List.mem_of_getElem? h1)
  have e1 : callF prg (n + 5) 12 [K.pl, .int (h : Int)] = pure .non := by
    refine eq_pure fun w => ?_
    rw [c_check_hand]
    have q := K.hand n h
    rw [show decide (0 ≤ (h : Int) ∧ (h : Int) < K.m) = true from by simp; omega] at q
    simp [f_check_hand, Vz0, Vz1, Vz2, Vz3, Vz4, Vz5, kx, SZ, beq_self_eq_true, List.contains_cons, List.contains_nil, K.dp, q]
  have e2 : callF prg (n + 6) 36 [K.pl, K.e g, .int (h : Int)] = pure .non := by
    refine eq_pure fun w => ?_
    rw [c_check_step]
    simp [f_check_step, Vz0, Vz1, Vz2, Vz3, Vz4, Vz5, kx, SZ, beq_self_eq_true, List.contains_cons, List.contains_nil, K.dp, KI.d_e, KI.x1, e1, h1, d1, d2, h2]
  simp [f_step, Vz0, Vz1, Vz2, Vz3, Vz4, Vz5, kx, SZ, beq_self_eq_true, List.contains_cons, List.contains_nil, K.dp, KI.d_e, e2, g_after K n g h hk hm]
def KI.stood (K : KI) (W : List Nat) (i : Nat) : List D := (List.range i).map fun j => K.e (K.at W j)
theorem KI.stood_last {K : KI} {W : List Nat} {i : Nat} : L2.atI (K.stood W (i + 1)) (-1) = some (K.e (K.at W i)) := by
  unfold KI.stood
  rw [List.range_succ, List.map_append]
  exact atI_last
theorem KI.stood_app {K : KI} {W : List Nat} {i : Nat} : K.stood W i ++ [K.e (K.at W i)] = K.stood W (i + 1) := by
  unfold KI.stood
  rw [List.range_succ, List.map_append]
  rfl
theorem KI.stood_len {K : KI} {W : List Nat} {i : Nat} : (K.stood W i).length = i := by simp [KI.stood]
theorem KI.at_step {K : KI} {W : List Nat} {i h : Nat} (hw : W[i]? = some h) : K.at W (i + 1) = K.st (K.at W i) h := by rw [KI.at, hw]
theorem g_standings_of (K : KI) (n : Nat) (W : List Nat) (d : D) (V : K.Wov W) (hW : IsW d W) (hl : W.length ≤ 6000) : callF prg (n + 7) 39 [K.pl, d] = pure (.lst (K.stood W (W.length + 1))) := by
  refine eq_pure fun w => ?_
  rw [c_standings_of]
  have s1 : D.lst [.tup [K.C K.g0, .tup (K.S K.g0), K.T K.g0]] = .lst (K.stood W 1) := rfl
  simp [f_standings_of, Vz0, Vz1, Vz2, Vz3, Vz4, Vz5, kx, SZ, beq_self_eq_true, List.contains_cons, List.contains_nil, K.dp, t_is_listed hW, K.begun (n + 2), hW.enum]
  rw [s1]
  refine wp_forGo0 (fun i e w' => w' = w ∧ ∃ j1 j2, e = [.val K.pl, .val d, .own (.lst (K.stood W (i + 1))), j1, j2]) ⟨rfl, _, _, rfl⟩ (fun i d' e w' hd hi => ?_) fun e w' hi => ?_
  · obtain ⟨rfl, j1, j2, rfl⟩ := hi
    obtain ⟨h, hh, rfl⟩ := enumD_get hd
    have hm := V i h hh
    have hk := K.at_ok V i
    have hr := K.lt hk hm
    have hi2 : i < W.length := (List.getElem?_eq_some_iff.mp hh).1
    have q1 := K.hand (n + 2) h
    rw [show decide (0 ≤ (h : Int) ∧ (h : Int) < K.m) = true from by simp; omega] at q1
    obtain ⟨s, h1, h2⟩ := mem_mvD.mp hm
    obtain ⟨d1, d2⟩ := K.dS _ s hk (List.mem_of_getElem? h1)
    simp [Vz0, Vz1, Vz2, Vz3, Vz4, Vz5, kx, SZ, beq_self_eq_true, List.contains_cons, List.contains_nil, K.dp, KI.d_e, KI.x1, q1, KI.stood_last, h1, h2, d1, d2, g_after K n _ h hk hm, KI.stood_len]
    rw [← KI.at_step hh, KI.stood_app]
    exact ⟨by omega, rfl⟩
  · obtain ⟨rfl, j1, j2, rfl⟩ := hi
    simp [Vz0, Vz1, Vz2, Vz3, Vz4, Vz5, kx, SZ, beq_self_eq_true, List.contains_cons, List.contains_nil, enumD_len]
theorem g_run (K : KI) (n : Nat) (W : List Nat) (d : D) (V : K.Wov W) (hW : IsW d W) (hl : W.length ≤ 6000) : callF prg (n + 8) 40 [K.pl, d] = pure (K.e (K.at W W.length)) := by
  refine eq_pure fun w => ?_
  rw [c_run]
  have q := g_standings_of K n W d V hW hl
  have dd : der d = pure d := by rcases hW with rfl | rfl <;> rfl
  simp [f_run, Vz0, Vz1, Vz2, Vz3, Vz4, Vz5, kx, SZ, beq_self_eq_true, List.contains_cons, List.contains_nil, K.dp, KI.d_e, q, KI.stood_last]
theorem KI.at_app {K : KI} {W : List Nat} {h : Nat} : ∀ i, i ≤ W.length → K.at (W ++ [h]) i = K.at W i
  | 0, _ => rfl
  | i + 1, hi => by rw [KI.at, KI.at, KI.at_app i (by omega), List.getElem?_append_left (by omega)]
theorem KI.wov_app {K : KI} {W : List Nat} {h : Nat} (V : K.Wov W) (hs : h ∈ mvD (K.S (K.at W W.length))) : K.Wov (W ++ [h]) := fun i j hj => by
  by_cases e : i < W.length
  · rw [List.getElem?_append_left e] at hj
    rw [KI.at_app i (by omega)]
    exact V i j hj
  · have hi : i < (W ++ [h]).length := (List.getElem?_eq_some_iff.mp hj).1
    have e2 : i = W.length := by simp at hi; omega
    subst e2
    simp at hj
    subst hj
    rw [KI.at_app _ (Nat.le_refl _)]
    exact hs
theorem KI.at_snoc {K : KI} {W : List Nat} {h : Nat} : K.at (W ++ [h]) (W ++ [h]).length = K.st (K.at W W.length) h := by
  have e2 : (W ++ [h]).length = W.length + 1 := by simp
  have e3 := KI.at_app (K := K) (W := W) (h := h) W.length (Nat.le_refl _)
  rw [e2, KI.at, e3]
  simp
end K13

set_option maxRecDepth 100000
set_option maxHeartbeats 400000
namespace K13
open PySem Ev
def RoI (K : KI) (B : K.G → Nat) (W : List Nat) (w : Wd) (k : Nat) (e : Ev.Env) (w' : Wd) : Prop := w' = w ∧ ∃ X, K.Wov (W ++ X) ∧ k = B (K.at (W ++ X) (W ++ X).length) ∧ (W ++ X).length + k ≤ W.length + B (K.at W W.length) ∧
  e = [.val K.pl, .val (eHands W), .val (K.e (K.at (W ++ X) (W ++ X).length)), .own (.lst ((W ++ X).map fun (h : Nat) => .int (h : Int))), .val (eHands (mvD (K.S (K.at (W ++ X) (W ++ X).length))))]
theorem g_run_out (K : KI) (B : K.G → Nat) (hB : ∀ g h t, K.ok g → mvD (K.S g) = h :: t → B (K.st g h) < B g) (n : Nat) (W : List Nat) (V : K.Wov W) (hl : W.length + B (K.at W W.length) ≤ 6000) (w : Wd) (Q : D → Wd → Prop) (E : EK)
    (hq : ∀ X, K.Wov (W ++ X) → mvD (K.S (K.at (W ++ X) (W ++ X).length)) = [] → (W ++ X).length ≤ W.length + B (K.at W W.length) → Q (eHands (W ++ X)) w) : wp (callF prg (n + 9) 41 [K.pl, eHands W]) w Q E := by
  rw [c_run_out]
  have q := g_run K n W (eHands W) V (.inl rfl) (by omega)
  have q2 := g_movers K (n + 7) (K.at W W.length) (K.at_ok V _)
  simp [f_run_out, Vz0, Vz1, Vz2, Vz3, Vz4, Vz5, kx, SZ, beq_self_eq_true, List.contains_cons, List.contains_nil, K.dp, K.d_e, q, q2, d_eHands, li_eHands]
  rw [wp_whlE]
  refine wp_whl (RoI K B W w) (fun k e w' hi => ?_) _ (B (K.at W W.length)) _ _ (by show _ < 100000; omega) ⟨rfl, [], by simpa using V, by simp, by simp, by simp⟩
  obtain ⟨rfl, X, V2, rfl, h2, rfl⟩ := hi
  have hX := hq X
  generalize hU : W ++ X = U at *
  have hk := K.at_ok V2 U.length
  cases hm : mvD (K.S (K.at U U.length)) with
  | nil =>
    simp [Vz0, Vz1, Vz2, Vz3, Vz4, Vz5, kx, SZ, beq_self_eq_true, List.contains_cons, List.contains_nil, K.dp, K.d_e, d_eHands, l_eHands, hm]
    have := hX V2 hm (by omega)
    simpa [eHands] using this
  | cons h t =>
    have hin : h ∈ mvD (K.S (K.at U U.length)) := by rw [hm]; exact List.mem_cons_self ..
    have qa := g_after K (n + 2) _ h hk hin
    have hb := hB _ h t hk hm
    have e1 := KI.at_snoc (K := K) (W := U) (h := h)
    have V3 := KI.wov_app V2 hin
    have q3 := g_movers K (n + 7) _ (K.okS _ h hk hin)
    have hp : (0 : Int) < ((h :: t).length : Int) := by simp
    simp only [Vz0, Vz1, Vz2, Vz3, Vz4, Vz5, kx, SZ, beq_self_eq_true, List.contains_cons, List.contains_nil, K.dp, K.d_e, d_eHands, l_eHands, hm, hp, decide_true]
    simp [Vz0, Vz1, Vz2, Vz3, Vz4, Vz5, kx, SZ, beq_self_eq_true, List.contains_cons, List.contains_nil, K.dp, K.d_e, d_eHands, l_eHands, hm, x_eHands0, qa, q3]
    refine ⟨_, ⟨by omega, rfl⟩, _, hb, rfl, X ++ [h], ?_⟩
    rw [← List.append_assoc, hU, e1]
    refine ⟨V3, rfl, by simp; omega, ?_⟩
    simp
end K13

set_option maxRecDepth 100000
set_option maxHeartbeats 400000
namespace K13
open PySem Ev
/-! ### kinds whose hands tell once -/
structure OS where
  γ : Type
  σ : Type
  eγ : γ → D
  eσ : σ → D
  pl : D
  m : Nat
  m1 : 1 ≤ m
  m5 : m ≤ 5
  dp : der pl = pure pl
  hand : ∀ (n : Nat) (i : Int), callF prg (n + 4) 11 [pl, .int i] = pure (.bl (decide (0 ≤ i ∧ i < m)))
  c0 : γ
  s0 : Nat → σ
  aft : Nat → List γ → σ → Option γ × Option σ × Option D
  inv : γ → Nat → σ → Prop
  okc : γ → Prop
  ns : ∀ s, isNon (eσ s) = false
  ds : ∀ s, der (eσ s) = pure (eσ s)
  is : ∀ s, isIns (eσ s) = false
  okc0 : okc c0
  inv0 : ∀ h, h < m → inv c0 h (s0 h)
  begun : ∀ n : Nat, callF prg (n + 4) 31 [pl] = pure (.tup [.tup ((List.replicate m c0).map eγ), .tup ((List.range m).map fun h => eO eσ (some (s0 h))), .tup (List.replicate m (.tup []))])
  after : ∀ (n h : Nat) (cells : List γ) (c : γ) (s : σ), cells.length = m → cells[h]? = some c → h < m → inv c h s → (∀ c ∈ cells, okc c) →
    callF prg (n + 5) 30 [pl, .int (h : Int), .tup (cells.map eγ), eσ s] = pure (.tup [eO eγ (aft h cells s).1, eO eσ (aft h cells s).2.1, eO id (aft h cells s).2.2])
  next : ∀ (n h : Nat) (cells : List γ) (c : γ) (s : σ), cells.length = m → cells[h]? = some c → h < m → inv c h s → ∃ nx, callF prg (n + 5) 29 [pl, .int (h : Int), eσ s] = pure nx ∧ der nx = pure nx ∧ isIns nx = false ∧ shape2 nx (.tup [.str s10_put]) = true ∧ D.eqv nx (.tup [.str s10_put]) = (aft h cells s).1.isSome
  tells : ∀ (h : Nat) (cells : List γ) (s : σ) (d : D), (aft h cells s).2.2 = some d → isNon d = false ∧ der d = pure d ∧ isIns d = false ∧ (aft h cells s).2.1 = none
  keeps : ∀ (h : Nat) (cells : List γ) (c : γ) (s : σ), cells.length = m → cells[h]? = some c → inv c h s → (∀ c ∈ cells, okc c) → (∀ c', (aft h cells s).1 = some c' → okc c') ∧ ∀ s', (aft h cells s).2.1 = some s' → inv ((aft h cells s).1.getD c) h s'
structure OG (γ σ : Type) where
  cells : List γ
  states : List (Option σ)
  told : List (Option D)
def eT : Option D → D
  | none => .tup [] | some d => .tup [d]
structure OS.Ok (O : OS) (g : OG O.γ O.σ) : Prop where
  lc : g.cells.length = O.m
  ls : g.states.length = O.m
  lt : g.told.length = O.m
  iv : ∀ (h : Nat) (c : O.γ) (s : O.σ), g.cells[h]? = some c → g.states[h]? = some (some s) → O.inv c h s
  oc : ∀ c ∈ g.cells, O.okc c
  tl : ∀ (h : Nat) (s : O.σ), g.states[h]? = some (some s) → g.told[h]? = some none
def OS.stp (O : OS) (g : OG O.γ O.σ) (h : Nat) : OG O.γ O.σ := match g.states[h]? with
  | some (some s) => ⟨match (O.aft h g.cells s).1 with | some c => g.cells.set h c | none => g.cells, g.states.set h (O.aft h g.cells s).2.1, match (O.aft h g.cells s).2.2 with | some d => g.told.set h (some d) | none => g.told⟩
  | _ => g
theorem OS.stp_is (O : OS) {g : OG O.γ O.σ} {h : Nat} {s : O.σ} (hs : g.states[h]? = some (some s)) : O.stp g h = ⟨match (O.aft h g.cells s).1 with | some c => g.cells.set h c | none => g.cells, g.states.set h (O.aft h g.cells s).2.1, match (O.aft h g.cells s).2.2 with | some d => g.told.set h (some d) | none => g.told⟩ := by
  unfold OS.stp
  rw [hs]
theorem OS.mv (O : OS) {S : List (Option O.σ)} {h : Nat} : h ∈ mvD (S.map (eO O.eσ)) ↔ ∃ s, S[h]? = some (some s) := by
  rw [mem_mvD]
  constructor
  · rintro ⟨d, h1, h2⟩
    rw [List.getElem?_map] at h1
    obtain ⟨o, h3, rfl⟩ := Option.map_eq_some_iff.mp h1
    cases o with
    | none => simp [eO, isNon] at h2
    | some s => exact ⟨s, h3⟩
  · rintro ⟨s, h1⟩
    exact ⟨O.eσ s, by rw [List.getElem?_map, h1]; rfl, O.ns s⟩
theorem OS.okS (O : OS) {g : OG O.γ O.σ} {h : Nat} {s : O.σ} (K : O.Ok g) (hs : g.states[h]? = some (some s)) : O.Ok (O.stp g h) := by
  rw [O.stp_is hs]
  have lc := K.lc
  have ls := K.ls
  have lt := K.lt
  have hl := (List.getElem?_eq_some_iff.mp hs).1
  obtain ⟨c, hc⟩ : ∃ c, g.cells[h]? = some c := ⟨g.cells[h]'(by omega), List.getElem?_eq_getElem _⟩
  obtain ⟨k1, k2⟩ := O.keeps h g.cells c s K.lc hc (K.iv h c s hc hs) K.oc
  have tl := O.tells h g.cells s
  generalize O.aft h g.cells s = res at k1 k2 tl
  obtain ⟨a, b, d⟩ := res
  dsimp only at k1 k2 tl ⊢
  refine ⟨?_, by simpa using ls, ?_, fun j c' s' q1 q2 => ?_, fun c' q => ?_, fun j s' q => ?_⟩
  · cases a <;> simp [lc]
  · cases d <;> simp [lt]
  · by_cases e : j = h
    · subst e
      rw [List.getElem?_set_self hl] at q2
      have q2 := Option.some.inj q2
      cases a with
      | none =>
        dsimp only at q1
        rw [hc] at q1
        cases q1
        exact k2 s' q2
      | some c2 =>
        dsimp only at q1
        rw [List.getElem?_set_self (by omega)] at q1
        cases q1
        exact k2 s' q2
    · rw [List.getElem?_set_ne (Ne.symm e)] at q2
      cases a with
      | none => exact K.iv j c' s' q1 q2
      | some c2 =>
        dsimp only at q1
        rw [List.getElem?_set_ne (Ne.symm e)] at q1
        exact K.iv j c' s' q1 q2
  · cases a with
    | none => exact K.oc c' q
    | some c2 =>
      rcases List.mem_or_eq_of_mem_set q with q | q
      · exact K.oc c' q
      · rw [q]; exact k1 c2 rfl
  · by_cases e : j = h
    · subst e
      rw [List.getElem?_set_self hl] at q
      have q := Option.some.inj q
      cases d with
      | none => exact K.tl j s hs
      | some d => have := (tl d rfl).2.2.2; rw [this] at q; cases q
    · rw [List.getElem?_set_ne (Ne.symm e)] at q
      cases d with
      | none => exact K.tl j s' q
      | some d =>
        dsimp only
        rw [List.getElem?_set_ne (Ne.symm e)]
        exact K.tl j s' q
theorem OS.step (O : OS) (n : Nat) (g : OG O.γ O.σ) (h : Nat) (s : O.σ) (K : O.Ok g) (hs : g.states[h]? = some (some s)) :
    callF prg (n + 6) 35 [O.pl, .tup [.tup (g.cells.map O.eγ), .tup (g.states.map (eO O.eσ)), .tup (g.told.map eT)], .int (h : Int)] =
      pure (.tup [.tup ((O.stp g h).cells.map O.eγ), .tup ((O.stp g h).states.map (eO O.eσ)), .tup ((O.stp g h).told.map eT)]) := by
  refine eq_pure fun w => ?_
  rw [c_after_step]
  rw [O.stp_is hs]
  have lc := K.lc
  have ls := K.ls
  have lt := K.lt
  have m5 := O.m5
  have hl := (List.getElem?_eq_some_iff.mp hs).1
  obtain ⟨c, hc⟩ : ∃ c, g.cells[h]? = some c := ⟨g.cells[h]'(by omega), List.getElem?_eq_getElem _⟩
  have iv := K.iv h c s hc hs
  have ta := O.after n h g.cells c s K.lc hc (by omega) iv K.oc
  obtain ⟨nx, tn, n1, n2, n3, n4⟩ := O.next n h g.cells c s K.lc hc (by omega) iv
  have tl := O.tells h g.cells s
  have ht := K.tl h s hs
  generalize O.aft h g.cells s = res at ta n4 tl
  obtain ⟨a, b, d⟩ := res
  dsimp only at ta n4 tl ⊢
  have r1 := fun x => t_replaced (n + 4) (g.cells.map O.eγ) h x (by simp; omega) (by simp; omega)
  have r2 := fun x => t_replaced (n + 4) (g.states.map (eO O.eσ)) h x (by simp; omega) (by simp; omega)
  have r3 := fun x => t_replaced (n + 4) (g.told.map eT) h x (by simp; omega) (by simp; omega)
  have ds := O.ds
  cases a with
  | some c2 =>
    cases d with
    | none => simp [f_after_step, Vz0, Vz1, Vz2, Vz3, Vz4, Vz5, kx, SZ, beq_self_eq_true, List.contains_cons, List.contains_nil, O.dp, hs, hc, eO_some, ds, ta, tn, n1, n2, n3, n4, r1, r2, eO_none, List.map_set]
    | some d =>
      obtain ⟨t1, t2, t3, t4⟩ := tl d rfl
      simp [f_after_step, Vz0, Vz1, Vz2, Vz3, Vz4, Vz5, kx, SZ, beq_self_eq_true, List.contains_cons, List.contains_nil, O.dp, hs, hc, eO_some, ds, ta, tn, n1, n2, n3, n4, r1, r2, r3, eO_none, ht, t1, t2, t3, eT, List.map_set]
  | none =>
    cases d with
    | none => simp [f_after_step, Vz0, Vz1, Vz2, Vz3, Vz4, Vz5, kx, SZ, beq_self_eq_true, List.contains_cons, List.contains_nil, O.dp, hs, hc, eO_some, ds, ta, tn, n1, n2, n3, n4, r1, r2, eO_none, List.map_set]
    | some d =>
      obtain ⟨t1, t2, t3, t4⟩ := tl d rfl
      simp [f_after_step, Vz0, Vz1, Vz2, Vz3, Vz4, Vz5, kx, SZ, beq_self_eq_true, List.contains_cons, List.contains_nil, O.dp, hs, hc, eO_some, ds, ta, tn, n1, n2, n3, n4, r1, r2, r3, eO_none, ht, t1, t2, t3, eT, List.map_set]
end K13

set_option maxRecDepth 100000
set_option maxHeartbeats 400000
namespace K13
open PySem Ev
def OS.ki (O : OS) : KI where
  pl := O.pl
  m := O.m
  G := OG O.γ O.σ
  C := fun g => .tup (g.cells.map O.eγ)
  S := fun g => g.states.map (eO O.eσ)
  T := fun g => .tup (g.told.map eT)
  ok := O.Ok
  g0 := ⟨List.replicate O.m O.c0, (List.range O.m).map fun h => some (O.s0 h), List.replicate O.m none⟩
  st := O.stp
  m1 := O.m1
  m5 := O.m5
  ok0 := by
    refine ⟨by simp, by simp, by simp, fun h c s h1 h2 => ?_, fun c hc => ?_, fun h s q => ?_⟩
    · simp only [List.getElem?_replicate] at h1
      split at h1
      · rename_i hh
        cases h1
        simp [List.getElem?_range hh] at h2
        rw [← h2]
        exact O.inv0 h hh
      · cases h1
    · rw [(List.mem_replicate.mp hc).2]
      exact O.okc0
    · have hh := (List.getElem?_eq_some_iff.mp q).1
      simp at hh
      simp [List.getElem?_replicate, hh]
  okS := fun g h K hm => by
    obtain ⟨s, hs⟩ := O.mv.mp hm
    exact O.okS K hs
  ln := fun g K => by simpa using K.ls
  dp := O.dp
  dS := fun g x K hx => by
    obtain ⟨o, _, rfl⟩ := List.mem_map.mp hx
    exact ⟨der_eO O.ds, ins_eO O.is⟩
  hand := O.hand
  begun := fun n => by
    rw [O.begun n]
    simp [eT]
    rfl
  after := fun n g h K hm => by
    obtain ⟨s, hs⟩ := O.mv.mp hm
    exact O.step n g h s K hs
/-! ### steps that are left -/
theorem sum_set {α : Type} (f : α → Nat) : ∀ (l : List α) (h : Nat) (a b : α), l[h]? = some a → ((l.set h b).map f).sum + f a = (l.map f).sum + f b
  | [], _, _, _, e => by simp at e
  | x :: l, 0, a, b, e => by
    simp at e
    subst e
    simp
    omega
  | x :: l, h + 1, a, b, e => by
    have := sum_set f l h a b (by simpa using e)
    rw [List.set_cons_succ, List.map_cons, List.sum_cons, List.map_cons, List.sum_cons]
    omega
def lf {σ : Type} (μ : σ → Nat) : Option σ → Nat
  | some s => μ s | none => 0
def OS.phi (O : OS) (μ : O.σ → Nat) (g : OG O.γ O.σ) : Nat := (g.states.map (lf μ)).sum
theorem OS.phi_step (O : OS) {μ : O.σ → Nat} (hμ : ∀ (h : Nat) (cells : List O.γ) (c : O.γ) (s : O.σ), cells.length = O.m → cells[h]? = some c → O.inv c h s → lf μ (O.aft h cells s).2.1 + 1 ≤ μ s) {g : OG O.γ O.σ} {h : Nat} (K : O.Ok g) (hm : h ∈ mvD (O.ki.S g)) : O.phi μ (O.stp g h) + 1 ≤ O.phi μ g := by
  obtain ⟨s, hs⟩ := O.mv.mp hm
  have hl := (List.getElem?_eq_some_iff.mp hs).1
  have lc := K.lc
  have ls := K.ls
  obtain ⟨c, hc⟩ : ∃ c, g.cells[h]? = some c := ⟨g.cells[h]'(by omega), List.getElem?_eq_getElem _⟩
  have q := hμ h g.cells c s K.lc hc (K.iv h c s hc hs)
  rw [O.stp_is hs]
  have q2 := sum_set (lf μ) g.states h _ (O.aft h g.cells s).2.1 hs
  have q3 : lf μ (some s) = μ s := rfl
  unfold OS.phi
  dsimp only
  omega
theorem KI.left {K : KI} {B : K.G → Nat} (hB : ∀ g h, K.ok g → h ∈ mvD (K.S g) → B (K.st g h) + 1 ≤ B g) {W : List Nat} (V : K.Wov W) : ∀ i, i ≤ W.length → i + B (K.at W i) ≤ B K.g0
  | 0, _ => by simp [KI.at]
  | i + 1, hi => by
    have ih := KI.left hB V i (by omega)
    have e : W[i]? = some W[i] := List.getElem?_eq_getElem (by omega)
    rw [KI.at_step e]
    have := hB _ _ (K.at_ok V i) (V i _ e)
    omega
theorem sum_const {α : Type} (f : α → Nat) (c : Nat) : ∀ l : List α, (∀ x ∈ l, f x ≤ c) → (l.map f).sum ≤ l.length * c
  | [], _ => by simp
  | x :: l, h => by
    have := sum_const f c l fun y hy => h y (List.mem_cons_of_mem _ hy)
    have := h x (List.mem_cons_self ..)
    simp [Nat.add_mul]
    omega
end K13

set_option maxRecDepth 100000
set_option maxHeartbeats 400000
namespace K13
open PySem Ev
/-! ### plays of other kinds -/
def ePo (k : Str) (i r : D) : D := .ins 0 [(s2_kind, .str k), (s1_inputs, i), (s0_rows, r)]
theorem d_ePo {k : Str} {i r : D} : der (ePo k i r) = pure (ePo k i r) := id rfl
theorem q_kindO {n : Nat} {k : Str} {i r : D} : fldD (cg n) s2_kind (ePo k i r) = pure (.str k) := by simp [ePo, Vz0, Vz1, Vz2, Vz3, Vz4, Vz5, kx, SZ, beq_self_eq_true, List.contains_cons, List.contains_nil]
theorem q_inputsO {n : Nat} {k : Str} {i r : D} : fldD (cg n) s1_inputs (ePo k i r) = pure i := by simp [ePo, Vz0, Vz1, Vz2, Vz3, Vz4, Vz5, kx, SZ, beq_self_eq_true, List.contains_cons, List.contains_nil]
theorem q_rowsO {n : Nat} {k : Str} {i r : D} : fldD (cg n) s0_rows (ePo k i r) = pure r := by simp [ePo, Vz0, Vz1, Vz2, Vz3, Vz4, Vz5, kx, SZ, beq_self_eq_true, List.contains_cons, List.contains_nil]
theorem o_is_hand (n : Nat) (k : Str) (i : D) (rs : List D) (x : Int) : callF prg (n + 4) 11 [ePo k i (.tup rs), .int x] = pure (.bl (decide (0 ≤ x ∧ x < rs.length))) := by
  refine eq_pure fun w => ?_
  rw [c_is_hand]
  simp [f_is_hand, Vz0, Vz1, Vz2, Vz3, Vz4, Vz5, kx, SZ, beq_self_eq_true, List.contains_cons, List.contains_nil, d_ePo, q_rowsO, t_is_below n]
theorem o_begun (n : Nat) (k : Str) (i : D) (rs : List D) (c : D) (st : Nat → D) (h0 : 1 ≤ rs.length) (h1 : rs.length ≤ 5) (hc : ∀ h : Nat, callF prg (n + 3) 27 [ePo k i (.tup rs), .int (h : Int)] = pure c) (hs : ∀ h : Nat, h < rs.length → callF prg (n + 3) 28 [ePo k i (.tup rs), .int (h : Int)] = pure (st h))
    (hcd : der c = pure c) (hsd : ∀ h, der (st h) = pure (st h)) :
    callF prg (n + 4) 31 [ePo k i (.tup rs)] = pure (.tup [.tup (List.replicate rs.length c), .tup ((List.range rs.length).map st), .tup (List.replicate rs.length (.tup []))]) := by
  refine eq_pure fun w => ?_
  rw [c_begun]
  have r1 : rngOk (rs.length : Int) := rngOk_nat (by omega)
  simp [f_begun, Vz0, Vz1, Vz2, Vz3, Vz4, Vz5, kx, SZ, beq_self_eq_true, List.contains_cons, List.contains_nil, d_ePo, q_rowsO, r1, rngD0]
  refine ⟨by omega, wp_lc1 (fun (i : Nat) => D.int (i : Int)) (fun _ => c) _ (fun _ => rfl) (fun a _ => ?_) ?_⟩
  · simp [Vz0, Vz1, Vz2, Vz3, Vz4, Vz5, kx, SZ, beq_self_eq_true, List.contains_cons, List.contains_nil, d_ePo, hc, hcd]
  · refine ⟨by omega, wp_lc1 (fun (i : Nat) => D.int (i : Int)) st _ (fun _ => rfl) (fun a ha => ?_) ?_⟩
    · have ha' := List.mem_range.mp ha
      simp [Vz0, Vz1, Vz2, Vz3, Vz4, Vz5, kx, SZ, beq_self_eq_true, List.contains_cons, List.contains_nil, d_ePo, hs a ha', hsd]
    · refine ⟨by omega, ⟨?_, rfl⟩, rfl⟩
      refine List.ext_getElem (by simp) fun i h1 h2 => by simp
/-! ### levels -/
abbrev LC := Option (Int × Int)
structure LS where
  lv : Int
  now : Option (List LC)
def eLC (c : LC) : D := eO eNV c
def eLcs (l : List LC) : D := .tup (l.map eLC)
def eLS (s : LS) : D := .tup [.int s.lv, eO eLcs s.now]
def isBelow (lv : Int) : LC → Bool
  | some c => decide (c.1 ≤ lv) | none => false
def belowM (lv : Int) (l : List LC) : List D := (l.zipIdx.filter fun p => isBelow lv p.1).map fun p => .tup [.int p.2, .int ((p.1.getD (0, 0)).2)]
def aftL (rows : List Int) (h : Nat) (cells : List LC) (s : LS) : Option LC × Option LS × Option D := match s.now with
  | none => (some (some (s.lv - 1, rows.getD h 0)), some ⟨s.lv - 1, some []⟩, none)
  | some now => if now.length + 1 < cells.length then (none, some ⟨s.lv, some (now ++ [(cells.getD now.length none)])⟩, none)
    else if s.lv ≤ ((belowM s.lv (now ++ [(cells.getD now.length none)])).length : Int) then (none, none, some (.tup (belowM s.lv (now ++ [(cells.getD now.length none)])))) else (none, some ⟨s.lv, none⟩, none)
def eRw (r : List Int) : D := .tup (r.map .int)
theorem d_eLC {c : LC} : der (eLC c) = pure (eLC c) := der_eO fun _ => rfl
theorem i_eLC {c : LC} : isIns (eLC c) = false := ins_eO fun _ => rfl
theorem n_eLC {c : LC} : isNon (eLC c) = c.isNone := non_eO fun _ => rfl
theorem d_eLcs {c : List LC} : der (eLcs c) = pure (eLcs c) := id rfl
theorem d_eLS {s : LS} : der (eLS s) = pure (eLS s) := id rfl
theorem x_eLS1 {s : LS} : idxop (eLS s) (.int 1) = pure (eO eLcs s.now) := by simp [eLS, Vz0, Vz1, Vz2, Vz3, Vz4, Vz5, kx, SZ, beq_self_eq_true, List.contains_cons, List.contains_nil]
theorem b_eLS {s : LS} {ts : List Tg} {e : Ev.Env} : bindTg (.t ts) (eLS s) e = bindTg.go ts [.int s.lv, eO eLcs s.now] e := by rw [eLS, bi_t]
theorem l_eLcs {l : List LC} : b1op .len (eLcs l) = pure (.int l.length) := by simp [eLcs, Vz0, Vz1, Vz2, Vz3, Vz4, Vz5, kx, SZ, beq_self_eq_true, List.contains_cons, List.contains_nil]
theorem x_eLcs {l : List LC} {h : Nat} : idxop (eLcs l) (.int h) = ofO ((l[h]?).map eLC) := by simp [eLcs, Vz0, Vz1, Vz2, Vz3, Vz4, Vz5, kx, SZ, beq_self_eq_true, List.contains_cons, List.contains_nil]
theorem a_eLcs {l : List LC} {c : LC} : binop .add (eLcs l) (.tup [eLC c]) = grd (l.length + 1 ≤ SZ) (pure (eLcs (l ++ [c]))) := by unfold eLcs; rw [b_addt]; unfold grd; simp
theorem t_level_next (n : Nat) (p h : D) (s : LS) : callF prg (n + 1) 15 [p, h, eLS s] = pure (match s.now with | none => .tup [.str s10_put] | some now => .tup [.str s11_look, .int now.length]) := by
  refine eq_pure fun w => ?_
  rw [c_level_next]
  cases z : s.now with
  | none => simp [f_level_next, Vz0, Vz1, Vz2, Vz3, Vz4, Vz5, kx, SZ, beq_self_eq_true, List.contains_cons, List.contains_nil, d_eLS, x_eLS1, z, eO_none]
  | some now => simp [f_level_next, Vz0, Vz1, Vz2, Vz3, Vz4, Vz5, kx, SZ, beq_self_eq_true, List.contains_cons, List.contains_nil, d_eLS, x_eLS1, z, eO_some, d_eLcs, l_eLcs, show isNon (eLcs now) = false from rfl, show isIns (eLcs now) = false from rfl]
end K13

set_option maxRecDepth 100000
set_option maxHeartbeats 400000
namespace K13
open PySem Ev
theorem enum_LC (l : List LC) : enumD (l.map eLC) = l.zipIdx.map fun p => .tup [.int p.2, eLC p.1] := enumD_map eLC l
theorem nn_eLcs {l : List LC} : isNon (eLcs l) = false := id rfl
theorem ni_eLcs {l : List LC} : isIns (eLcs l) = false := id rfl
theorem t_level_after (n h : Nat) (i : D) (rows : List Int) (cells : List LC) (s : LS) (r : Int) (hr : rows[h]? = some r) (hl : ∀ now, s.now = some now → now.length < cells.length) (h5 : cells.length ≤ 5) :
    callF prg (n + 1) 16 [ePo s7_levels i (eRw rows), .int (h : Int), eLcs cells, eLS s] = pure (.tup [eO eLC (aftL rows h cells s).1, eO eLS (aftL rows h cells s).2.1, eO id (aftL rows h cells s).2.2]) := by
  refine eq_pure fun w => ?_
  rw [c_level_after]
  unfold aftL
  cases z : s.now with
  | none => simp [f_level_after, Vz0, Vz1, Vz2, Vz3, Vz4, Vz5, kx, SZ, beq_self_eq_true, List.contains_cons, List.contains_nil, d_ePo, q_rowsO, d_eLS, b_eLS, z, eO_none, eRw, hr, eO_some, eLC, eNV, eLS, eLcs]
  | some now =>
    have hn := hl now z
    have hc : cells[now.length]? = some (cells.getD now.length none) := by rw [List.getElem?_eq_getElem hn]; simp [List.getD, List.getElem?_eq_getElem hn]
    generalize cells.getD now.length none = c at *
    have bt : ∀ L : List LC, enumOf [eLcs L] = pure (L.zipIdx.map fun p => D.tup [.int p.2, eLC p.1]) := fun L => by rw [← enum_LC]; rfl
    by_cases hw : now.length + 1 < cells.length
    · have hw' : (now.length : Int) + 1 < (cells.length : Int) := by omega
      simp [f_level_after, Vz0, Vz1, Vz2, Vz3, Vz4, Vz5, kx, SZ, beq_self_eq_true, List.contains_cons, List.contains_nil, d_ePo, d_eLS, b_eLS, z, eO_some, d_eLcs, l_eLcs, nn_eLcs, ni_eLcs, x_eLcs, hc, d_eLC, a_eLcs, hw, hw', eO_none, eLS]
      omega
    · have hw' : ¬ (now.length : Int) + 1 < (cells.length : Int) := by omega
      simp [f_level_after, Vz0, Vz1, Vz2, Vz3, Vz4, Vz5, kx, SZ, beq_self_eq_true, List.contains_cons, List.contains_nil, d_ePo, d_eLS, b_eLS, z, eO_some, d_eLcs, l_eLcs, nn_eLcs, ni_eLcs, x_eLcs, hc, d_eLC, a_eLcs, hw, hw', eO_none, bt]
      refine ⟨by omega, ?_⟩
      refine wp_lc (fun (p : LC × Nat) => D.tup [.int p.2, eLC p.1]) (fun p => isBelow s.lv p.1) (fun p => D.tup [.int p.2, .int ((p.1.getD (0, 0)).2)]) _ (fun a _ => ?_) ?_
      · obtain ⟨c2, j⟩ := a
        cases c2 with
        | none => simp [Vz0, Vz1, Vz2, Vz3, Vz4, Vz5, kx, SZ, beq_self_eq_true, List.contains_cons, List.contains_nil, d_eLC, i_eLC, n_eLC, isBelow]
        | some p =>
          have x0 : idxop (eLC (some p)) (.int 0) = pure (.int p.1) := by simp [eLC, eO, eNV, Vz0, Vz1, Vz2, Vz3, Vz4, Vz5, kx, SZ, beq_self_eq_true, List.contains_cons, List.contains_nil]
          have x1 : idxop (eLC (some p)) (.int 1) = pure (.int p.2) := by simp [eLC, eO, eNV, Vz0, Vz1, Vz2, Vz3, Vz4, Vz5, kx, SZ, beq_self_eq_true, List.contains_cons, List.contains_nil]
          simp [Vz0, Vz1, Vz2, Vz3, Vz4, Vz5, kx, SZ, beq_self_eq_true, List.contains_cons, List.contains_nil, d_eLC, i_eLC, n_eLC, isBelow, x0, x1]
      · have eb : (((now ++ [c]).zipIdx).filter (fun p => isBelow s.lv p.1)).map (fun p => D.tup [.int p.2, .int ((p.1.getD (0, 0)).2)]) = belowM s.lv (now ++ [c]) := rfl
        rw [eb]
        generalize belowM s.lv (now ++ [c]) = bs
        by_cases hb : s.lv ≤ (bs.length : Int)
        · simp [Vz0, Vz1, Vz2, Vz3, Vz4, Vz5, kx, SZ, beq_self_eq_true, List.contains_cons, List.contains_nil, hb, eO_none, eO_some]
        · simp [Vz0, Vz1, Vz2, Vz3, Vz4, Vz5, kx, SZ, beq_self_eq_true, List.contains_cons, List.contains_nil, hb, eO_none, eO_some, eLS]
end K13

set_option maxRecDepth 100000
set_option maxHeartbeats 400000
namespace K13
open PySem Ev
theorem lev_cell_of (n : Nat) (i r h : D) : callF prg (n + 3) 27 [ePo s7_levels i r, h] = pure .non := by
  refine eq_pure fun w => ?_
  rw [c_cell_of]
  have q : callF prg (n + 2) 13 [ePo s7_levels i r, h] = pure .non := by
    refine eq_pure fun w => ?_
    rw [c_level_cell]
    simp [f_level_cell, Vz0, Vz1, Vz2, Vz3, Vz4, Vz5, kx, SZ, beq_self_eq_true, List.contains_cons, List.contains_nil]
  simp [f_cell_of, Vz0, Vz1, Vz2, Vz3, Vz4, Vz5, kx, SZ, beq_self_eq_true, List.contains_cons, List.contains_nil, d_ePo, q_kindO, in_levels, q]
theorem lev_state_of (n : Nat) (i h : D) (rows : List Int) : callF prg (n + 3) 28 [ePo s7_levels i (eRw rows), h] = pure (eLS ⟨rows.length + 1, none⟩) := by
  refine eq_pure fun w => ?_
  rw [c_state_of]
  have q : callF prg (n + 2) 14 [ePo s7_levels i (eRw rows), h] = pure (eLS ⟨rows.length + 1, none⟩) := by
    refine eq_pure fun w => ?_
    rw [c_level_state]
    simp [f_level_state, Vz0, Vz1, Vz2, Vz3, Vz4, Vz5, kx, SZ, beq_self_eq_true, List.contains_cons, List.contains_nil, d_ePo, q_rowsO, eRw, eLS, eO]
  simp [f_state_of, Vz0, Vz1, Vz2, Vz3, Vz4, Vz5, kx, SZ, beq_self_eq_true, List.contains_cons, List.contains_nil, d_ePo, q_kindO, in_levels, q]
theorem below_len {L : Int} {l : List LC} {h : Nat} {v : Int} (hh : l[h]? = some (some (L, v))) : 1 ≤ (belowM L l).length := by
  unfold belowM
  rw [List.length_map]
  refine List.length_pos_iff.mpr fun e => ?_
  have q : (some (L, v), h) ∈ l.zipIdx.filter fun p => isBelow L p.1 := List.mem_filter.mpr ⟨List.mem_zipIdx_iff_getElem?.mpr hh, by simp [isBelow]⟩
  rw [e] at q
  cases q
def levInv (m : Nat) (c : LC) (h : Nat) (s : LS) : Prop := match s.now with
  | none => 2 ≤ s.lv ∧ s.lv ≤ m + 1
  | some now => 1 ≤ s.lv ∧ s.lv ≤ m ∧ now.length < m ∧ (∃ v, c = some (s.lv, v)) ∧ (h < now.length → ∃ v, now[h]? = some (some (s.lv, v)))
theorem levInv_now {m : Nat} {c : LC} {h : Nat} {s : LS} (I : levInv m c h s) {now : List LC} (z : s.now = some now) : 1 ≤ s.lv ∧ s.lv ≤ m ∧ now.length < m ∧ (∃ v, c = some (s.lv, v)) ∧ (h < now.length → ∃ v, now[h]? = some (some (s.lv, v))) := by
  unfold levInv at I
  rw [z] at I
  exact I
theorem levInv_non {m : Nat} {c : LC} {h : Nat} {s : LS} (I : levInv m c h s) (z : s.now = none) : 2 ≤ s.lv ∧ s.lv ≤ m + 1 := by
  unfold levInv at I
  rw [z] at I
  exact I
/-- of the looked ones the hand's own stands in its place -/
theorem lev_own {m : Nat} {cells : List LC} {c : LC} {h : Nat} {s : LS} (hc : cells.length = m) (hh : cells[h]? = some c) (I : levInv m c h s) {now : List LC} (z : s.now = some now) : h < now.length + 1 → ∃ v, (now ++ [cells.getD now.length none])[h]? = some (some (s.lv, v)) := fun hl => by
  obtain ⟨i1, i2, i3, ⟨v, rfl⟩, i5⟩ := levInv_now I z
  by_cases e : h < now.length
  · obtain ⟨v2, h2⟩ := i5 e
    exact ⟨v2, by rw [List.getElem?_append_left e]; exact h2⟩
  · have e2 : h = now.length := by omega
    subst e2
    exact ⟨v, by simp [List.getD, hh]⟩
def nxL (s : LS) : D := match s.now with
  | none => .tup [.str s10_put] | some now => .tup [.str s11_look, .int now.length]
def levOS (rows : List Int) (h1 : 1 ≤ rows.length) (h5 : rows.length ≤ 5) : OS where
  γ := LC
  σ := LS
  eγ := eLC
  eσ := eLS
  pl := ePo s7_levels (eRw rows) (eRw rows)
  m := rows.length
  m1 := h1
  m5 := h5
  dp := d_ePo
  hand := fun n i => by
    have := o_is_hand n s7_levels (eRw rows) (rows.map .int) i
    simpa [eRw] using this
  c0 := none
  s0 := fun _ => ⟨rows.length + 1, none⟩
  aft := aftL rows
  inv := levInv rows.length
  okc := fun _ => True
  ns := fun _ => rfl
  ds := fun _ => rfl
  is := fun _ => rfl
  okc0 := trivial
  inv0 := fun h _ => by
    unfold levInv
    dsimp only
    omega
  begun := fun n => by
    have q := o_begun n s7_levels (eRw rows) (rows.map .int) .non (fun _ => eLS ⟨rows.length + 1, none⟩) (by simpa using h1) (by simpa using h5) (fun h => lev_cell_of n _ _ _) (fun h _ => lev_state_of n _ _ rows) (id rfl) fun _ => id rfl
    have e : D.tup (rows.map .int) = eRw rows := rfl
    rw [e] at q
    rw [q]
    simp [eLC, eO]
  after := fun n h cells c s hl hc hh I _ => by
    refine eq_pure fun w => ?_
    rw [c_after_of]
    have hr : rows[h]? = some rows[h] := List.getElem?_eq_getElem hh
    have q := t_level_after (n + 3) h (eRw rows) rows cells s _ hr (fun now z => by have := levInv_now I z; omega) (by omega)
    have e : D.tup (cells.map eLC) = eLcs cells := rfl
    rw [e]
    simp [f_after_of, Vz0, Vz1, Vz2, Vz3, Vz4, Vz5, kx, SZ, beq_self_eq_true, List.contains_cons, List.contains_nil, d_ePo, q_kindO, in_levels, q, d_eLcs, d_eLS]
  next := fun n h cells c s hl hc hh I => by
    refine ⟨nxL s, eq_pure fun w => ?_, ?_⟩
    · rw [c_next_of]
      have q : callF prg (n + 4) 15 [ePo s7_levels (eRw rows) (eRw rows), .int (h : Int), eLS s] = pure (nxL s) := t_level_next (n + 3) (ePo s7_levels (eRw rows) (eRw rows)) (.int (h : Int)) s
      simp [f_next_of, Vz0, Vz1, Vz2, Vz3, Vz4, Vz5, kx, SZ, beq_self_eq_true, List.contains_cons, List.contains_nil, d_ePo, q_kindO, in_levels, q, d_eLS]
    · unfold aftL nxL
      cases z : s.now with
      | none => simp [Vz0, Vz1, Vz2, Vz3, Vz4, Vz5, kx, SZ, beq_self_eq_true, List.contains_cons, List.contains_nil, eqv_tup, D.pyAll, D.py, PyData.eqvAll, PyData.eqv, shape2, D.shp, D.shpAll, D.dep, D.depAll]
      | some now =>
        dsimp only
        split
        · simp [Vz0, Vz1, Vz2, Vz3, Vz4, Vz5, kx, SZ, beq_self_eq_true, List.contains_cons, List.contains_nil, eqv_tup, D.pyAll, D.py, PyData.eqvAll, PyData.eqv, shape2, D.shp, D.shpAll, D.dep, D.depAll]
        · split <;> simp [Vz0, Vz1, Vz2, Vz3, Vz4, Vz5, kx, SZ, beq_self_eq_true, List.contains_cons, List.contains_nil, eqv_tup, D.pyAll, D.py, PyData.eqvAll, PyData.eqv, shape2, D.shp, D.shpAll, D.dep, D.depAll]
  tells := fun h cells s d hd => by
    unfold aftL at hd ⊢
    cases z : s.now with
    | none => rw [z] at hd; cases hd
    | some now =>
      rw [z] at hd
      dsimp only at hd ⊢
      split at hd
      · cases hd
      · split at hd
        · rename_i a b
          rw [if_neg a, if_pos b]
          cases hd
          exact ⟨rfl, rfl, rfl, rfl⟩
        · cases hd
  keeps := fun h cells c s hl hc I _ => by
    have own := fun now z => lev_own (s := s) hl hc I (now := now) z
    have hh : h < rows.length := by rw [← hl]; exact (List.getElem?_eq_some_iff.mp hc).1
    refine ⟨fun _ _ => trivial, fun s' hs => ?_⟩
    unfold aftL at hs ⊢
    cases z : s.now with
    | none =>
      obtain ⟨i1, i2⟩ := levInv_non I z
      rw [z] at hs
      cases hs
      dsimp only
      unfold levInv
      dsimp only
      exact ⟨by omega, by omega, by simp; omega, ⟨_, rfl⟩, fun q => by simp at q⟩
    | some now =>
      obtain ⟨i1, i2, i3, ⟨v, rfl⟩, i5⟩ := levInv_now I z
      rw [z] at hs
      dsimp only at hs ⊢
      split at hs
      · rename_i a
        cases hs
        rw [if_pos a]
        dsimp only
        unfold levInv
        dsimp only
        refine ⟨i1, i2, by simp; omega, ⟨v, rfl⟩, fun q => own now z (by simpa using q)⟩
      · rename_i a
        split at hs
        · cases hs
        · rename_i b
          cases hs
          rw [if_neg a, if_neg b]
          obtain ⟨v2, o⟩ := own now z (by omega)
          have := below_len o
          unfold levInv
          dsimp only
          omega
end K13

set_option maxRecDepth 100000
set_option maxHeartbeats 400000
namespace K13
open PySem Ev
def levMu (m : Nat) (s : LS) : Nat := (s.lv - 1).toNat * (m + 1) + match s.now with
  | none => 0 | some now => m - now.length
theorem lev_mu (rows : List Int) (h : Nat) (cells : List LC) (c : LC) (s : LS) (hl : cells.length = rows.length) (hc : cells[h]? = some c) (I : levInv rows.length c h s) : lf (levMu rows.length) (aftL rows h cells s).2.1 + 1 ≤ levMu rows.length s := by
  have own := fun now z => lev_own (s := s) hl hc I (now := now) z
  have hh : h < rows.length := by rw [← hl]; exact (List.getElem?_eq_some_iff.mp hc).1
  unfold aftL levMu
  cases z : s.now with
  | none =>
    obtain ⟨i1, i2⟩ := levInv_non I z
    dsimp only
    show (s.lv - 1 - 1).toNat * (rows.length + 1) + (rows.length - ([] : List LC).length) + 1 ≤ _
    obtain ⟨k, hk⟩ : ∃ k : Nat, s.lv = k + 2 := ⟨(s.lv - 2).toNat, by omega⟩
    have e1 : (s.lv - 1 - 1).toNat = k := by omega
    have e2 : (s.lv - 1).toNat = k + 1 := by omega
    rw [e1, e2, Nat.succ_mul]
    simp
    omega
  | some now =>
    obtain ⟨i1, i2, i3, i4, i5⟩ := levInv_now I z
    dsimp only
    split
    · show (s.lv - 1).toNat * (rows.length + 1) + (rows.length - (now ++ [_]).length) + 1 ≤ _
      simp
      omega
    · rename_i a
      split
      · show 0 + 1 ≤ _
        omega
      · show (s.lv - 1).toNat * (rows.length + 1) + 0 + 1 ≤ _
        omega
theorem lev_all (rows : List Int) (h1 : 1 ≤ rows.length) (h5 : rows.length ≤ 5) : (levOS rows h1 h5).phi (levMu rows.length) (levOS rows h1 h5).ki.g0 ≤ rows.length * (rows.length * (rows.length + 1)) := by
  show (((List.range rows.length).map fun _ => some (⟨rows.length + 1, none⟩ : LS)).map (lf (levMu rows.length))).sum ≤ _
  rw [List.map_map]
  refine Nat.le_trans (sum_const _ (rows.length * (rows.length + 1)) _ fun x _ => ?_) (by simp)
  show (((rows.length : Int) + 1 - 1).toNat) * (rows.length + 1) + 0 ≤ _
  have : ((rows.length : Int) + 1 - 1).toNat = rows.length := by omega
  rw [this]
  omega
/-! ### a whole weaving of a kind whose hands have so many steps left -/
theorem os_run_out (O : OS) (μ : O.σ → Nat) (hμ : ∀ (h : Nat) (cells : List O.γ) (c : O.γ) (s : O.σ), cells.length = O.m → cells[h]? = some c → O.inv c h s → lf μ (O.aft h cells s).2.1 + 1 ≤ μ s) (b : Nat) (hb : O.phi μ O.ki.g0 ≤ b) (hb2 : b ≤ 1000)
    (n : Nat) (W : List Nat) (V : O.ki.Wov W) (w : Wd) (Q : D → Wd → Prop) (E : EK)
    (hq : ∀ X, O.ki.Wov (W ++ X) → mvD (O.ki.S (O.ki.at (W ++ X) (W ++ X).length)) = [] → (W ++ X).length ≤ b → Q (eHands (W ++ X)) w) : wp (callF prg (n + 9) 41 [O.pl, eHands W]) w Q E := by
  have hd : ∀ (g : O.ki.G) (h : Nat), O.ki.ok g → h ∈ mvD (O.ki.S g) → O.phi μ (O.ki.st g h) + 1 ≤ O.phi μ g := fun g h K hm => O.phi_step hμ K hm
  have hl := KI.left (K := O.ki) (B := O.phi μ) hd V W.length (Nat.le_refl _)
  exact g_run_out O.ki (O.phi μ) (fun g h t K e => by have := hd g h K (by rw [e]; exact List.mem_cons_self ..); omega) n W V (by omega) w Q E fun X V2 e l => hq X V2 e (by omega)
end K13

set_option maxRecDepth 100000
set_option maxHeartbeats 400000
namespace K13
open PySem Ev
theorem intsD_map : ∀ l : List Int, intsD (l.map .int) = some l
  | [] => rfl
  | x :: l => by
    have := intsD_map l
    rw [List.map_cons, intsD, this]
    rfl
theorem f_sorted_d (kvs : List (D × D)) (ks : List Int) (h : kvs.map (·.1) = ks.map .int) (hl : ks.length < 64) : b1op .sorted (.dic kvs) = pure (.lst ((sortI ks).map .int)) := by
  show onInts (kvs.map (·.1)) (fun ns => grd (ns.length < 64) (pure (.lst ((sortI ns).map .int)))) = _
  unfold onInts
  rw [h, intsD_map]
  dsimp only
  rw [grd_if, if_pos hl]
theorem f_max_l (ns : List Int) (m : Int) (h : maxI ns = some m) : b1op .max (.lst (ns.map .int)) = pure (.int m) := by
  show onInts (ns.map .int) (fun ns => ofO ((maxI ns).map .int)) = _
  unfold onInts
  rw [intsD_map]
  dsimp only
  rw [h]
  rfl
theorem f_min_l (ns : List Int) (m : Int) (h : minI ns = some m) : b1op .min (.lst (ns.map .int)) = pure (.int m) := by
  show onInts (ns.map .int) (fun ns => ofO ((minI ns).map .int)) = _
  unfold onInts
  rw [intsD_map]
  dsimp only
  rw [h]
  rfl
/-! ### few numbers -/
theorem few : ∀ (m : Nat) (l : List Int), l.Nodup → (∀ x ∈ l, 0 ≤ x ∧ x < m) → l.length ≤ m
  | 0, l, _, h => by
    cases l with
    | nil => simp
    | cons x r => have := h x (List.mem_cons_self ..); omega
  | m + 1, l, hn, h => by
    have h1 := few m (l.erase m) (hn.erase _) fun x hx => by
      have q := (List.Nodup.mem_erase_iff hn).mp hx
      have := h x q.2
      have := q.1
      omega
    have h2 := List.length_erase (a := (m : Int)) (l := l)
    split at h2 <;> omega
/-! ### lots -/
def addK (ks : List Int) (x : Int) : List Int := if x ∈ ks then ks else ks ++ [x]
def addAll : List Int → List Int → List Int
  | ks, [] => ks
  | ks, x :: r => addAll (addK ks x) r
theorem addAll_snoc : ∀ (l ks : List Int) (x : Int), addAll ks (l ++ [x]) = addK (addAll ks l) x
  | [], _, _ => rfl
  | y :: l, ks, x => addAll_snoc l (addK ks y) x
theorem addAll_app : ∀ (l ks r : List Int), addAll ks (l ++ r) = addAll (addAll ks l) r
  | [], _, _ => rfl
  | y :: l, ks, r => addAll_app l (addK ks y) r
theorem addK_ok {ks : List Int} {x : Int} (h : ks.Nodup ∧ ∀ y ∈ ks, 0 ≤ y ∧ y < 20) (hx : 0 ≤ x ∧ x < 20) : (addK ks x).Nodup ∧ ∀ y ∈ addK ks x, 0 ≤ y ∧ y < 20 := by
  unfold addK
  split
  · exact h
  · rename_i q
    refine ⟨?_, fun y hy => ?_⟩
    · rw [List.nodup_append]
      refine ⟨h.1, by simp, fun a ha b hb e => ?_⟩
      rw [List.mem_singleton.mp hb] at e
      exact q (e ▸ ha)
    · rcases List.mem_append.mp hy with hy | hy
      · exact h.2 y hy
      · rw [List.mem_singleton.mp hy]; exact hx
theorem addAll_ok : ∀ (l ks : List Int), (ks.Nodup ∧ ∀ y ∈ ks, 0 ≤ y ∧ y < 20) → (∀ x ∈ l, 0 ≤ x ∧ x < 20) → (addAll ks l).Nodup ∧ ∀ y ∈ addAll ks l, 0 ≤ y ∧ y < 20
  | [], _, h, _ => h
  | x :: l, ks, h, hx => addAll_ok l (addK ks x) (addK_ok h (hx x (List.mem_cons_self ..))) fun y hy => hx y (List.mem_cons_of_mem _ hy)
def dcK (ks : List Int) : List (D × D) := ks.map fun k => (D.int k, D.bl true)
theorem dput_K (ks : List Int) (x : Int) : dput (dcK ks) (.int x) (.bl true) = dcK (addK ks x) := by
  unfold dput addK
  by_cases h : x ∈ ks
  · have ha : ((dcK ks).any fun p => keyEq p.fst (D.int x)) = true := List.any_eq_true.mpr ⟨(D.int x, D.bl true), List.mem_map.mpr ⟨x, h, rfl⟩, by simp [keyEq_ii]⟩
    rw [if_pos ha, if_pos h]
    unfold dcK
    rw [List.map_map]
    refine List.map_congr_left fun k hk => ?_
    show (if keyEq (.int k) (.int x) = true then (D.int k, D.bl true) else (D.int k, D.bl true)) = _
    simp
  · rw [if_neg (fun q => ?_), if_neg h]
    · simp [dcK]
    · obtain ⟨p, hp, e⟩ := List.any_eq_true.mp q
      obtain ⟨k, hk, rfl⟩ := List.mem_map.mp hp
      have : k = x := by simpa [keyEq_ii] using e
      exact h (this ▸ hk)
theorem dcK_keys (ks : List Int) : (dcK ks).map (·.1) = ks.map .int := by simp [dcK]
end K13

set_option maxRecDepth 100000
set_option maxHeartbeats 400000
namespace K13
open PySem Ev
abbrev CC := Option (List Int)
def eCC (c : CC) : D := eO eIs c
def flatC (l : List CC) : List Int := l.flatMap fun c => c.getD []
theorem flatC_take {cells : List CC} {i : Nat} {c : CC} (h : cells[i]? = some c) : flatC (cells.take (i + 1)) = flatC (cells.take i) ++ c.getD [] := by
  obtain ⟨hl, e⟩ := List.getElem?_eq_some_iff.mp h
  unfold flatC
  rw [List.take_succ, h]
  simp
def okLot (l : List Int) : Prop := ∀ x ∈ l, 0 ≤ x ∧ x < 20
def okCC (c : CC) : Prop := ∀ l, c = some l → okLot l
theorem flatC_ok {cells : List CC} (h : ∀ c ∈ cells, okCC c) : ∀ x ∈ flatC cells, 0 ≤ x ∧ x < 20 := fun x hx => by
  obtain ⟨c, hc, hx⟩ := List.mem_flatMap.mp hx
  cases c with
  | none => simp at hx
  | some l => exact h _ hc l rfl x hx
def aftC (rows : List (List Int)) (h : Nat) (cells : List CC) (b : Bool) : Option CC × Option Bool × Option D :=
  if b then (none, none, some (.tup ((sortI (addAll [] (flatC cells))).map .int))) else (some (some (rows.getD h [])), some true, none)
def eB (b : Bool) : D := .tup [.bl b]
def eLots (r : List (List Int)) : D := .tup (r.map eIs)
theorem d_eCC {c : CC} : der (eCC c) = pure (eCC c) := der_eO fun _ => rfl
theorem i_eCC {c : CC} : isIns (eCC c) = false := ins_eO fun _ => rfl
theorem n_eCC {c : CC} : isNon (eCC c) = c.isNone := non_eO fun _ => rfl
def ChO (play hd : D) (cells : List CC) (w : Wd) (i : Nat) (e : Ev.Env) (w' : Wd) : Prop := w' = w ∧ ∃ j5 j6, e = [.val play, .val hd, .val (.tup (cells.map eCC)), .val (eB true), .own (.dic (dcK (addAll [] (flatC (cells.take i))))), j5, j6]
def ChI (play hd : D) (cells : List CC) (w : Wd) (i : Nat) (lot : List Int) (j : Nat) (e : Ev.Env) (w' : Wd) : Prop := w' = w ∧ ∃ j5 j6, e = [.val play, .val hd, .val (.tup (cells.map eCC)), .val (eB true), .own (.dic (dcK (addAll (addAll [] (flatC (cells.take i))) (lot.take j)))), j5, j6]
theorem keys_few {ks l : List Int} (h1 : okLot l) (h2 : ∀ x ∈ ks, 0 ≤ x ∧ x < 20) : (addAll (addAll [] ks) l).length ≤ 20 := by
  have a := addAll_ok ks [] ⟨List.nodup_nil, fun _ h => by simp at h⟩ h2
  have b := addAll_ok l _ a h1
  exact few 20 _ b.1 fun x hx => by have := b.2 x hx; omega
theorem t_after_chain (n h : Nat) (i : D) (rows : List (List Int)) (cells : List CC) (b : Bool) (r : List Int) (hr : rows[h]? = some r) (h5 : cells.length ≤ 5) (hok : ∀ c ∈ cells, okCC c) :
    callF prg (n + 1) 25 [ePo s15_chain i (eLots rows), .int (h : Int), .tup (cells.map eCC), eB b] = pure (.tup [eO eCC (aftC rows h cells b).1, eO eB (aftC rows h cells b).2.1, eO id (aftC rows h cells b).2.2]) := by
  refine eq_pure fun w => ?_
  rw [c_after_chain]
  unfold aftC
  have xb : ∀ c, idxop (eB c) (.int 0) = pure (.bl c) := fun c => by simp [eB, Vz0, Vz1, Vz2, Vz3, Vz4, Vz5, kx, SZ, beq_self_eq_true, List.contains_cons, List.contains_nil]
  have db : ∀ c, der (eB c) = pure (eB c) := fun _ => id rfl
  have xr : idxop (eLots rows) (.int (h : Int)) = pure (eIs r) := by simp [eLots, Vz0, Vz1, Vz2, Vz3, Vz4, Vz5, kx, SZ, beq_self_eq_true, List.contains_cons, List.contains_nil, hr]
  cases b with
  | false => simp [f_after_chain, Vz0, Vz1, Vz2, Vz3, Vz4, Vz5, kx, SZ, beq_self_eq_true, List.contains_cons, List.contains_nil, d_ePo, q_rowsO, xb, db, xr, eO_some, eO_none, d_eIs, hr, show der (eLots rows) = pure (eLots rows) from rfl]; simp [eCC, eO, eB]
  | true =>
    simp [f_after_chain, Vz0, Vz1, Vz2, Vz3, Vz4, Vz5, kx, SZ, beq_self_eq_true, List.contains_cons, List.contains_nil, d_ePo, q_rowsO, xb, db, xr, eO_some, eO_none, d_eIs, hr]
    refine wp_forGo0 (ChO _ _ cells w) ⟨rfl, _, _, rfl⟩ (fun k d e w' hd hi => ?_) fun e w' hi => ?_
    · obtain ⟨rfl, j5, j6, rfl⟩ := hi
      rw [List.getElem?_map] at hd
      obtain ⟨c, hc, rfl⟩ := Option.map_eq_some_iff.mp hd
      have hfl := flatC_take hc
      have hck := hok c (List.mem_of_getElem? hc)
      cases c with
      | none =>
        simp [Vz0, Vz1, Vz2, Vz3, Vz4, Vz5, kx, SZ, beq_self_eq_true, List.contains_cons, List.contains_nil, d_eCC, i_eCC, n_eCC]
        exact ⟨rfl, .val (eCC none), j6, by rw [hfl]; simp⟩
      | some lot =>
        have itl : itemsOf (eCC (some lot)) = pure (lot.map D.int) := id rfl
        have ofl : ∀ x ∈ flatC (cells.take k), 0 ≤ x ∧ x < 20 := flatC_ok fun c hc => hok c (List.mem_of_mem_take hc)
        simp [Vz0, Vz1, Vz2, Vz3, Vz4, Vz5, kx, SZ, beq_self_eq_true, List.contains_cons, List.contains_nil, d_eCC, i_eCC, n_eCC]
        rw [itl, wp_pure]
        refine wp_forGo0 (ChI (ePo s15_chain i (eLots rows)) (.int (h : Int)) cells w' k lot) ⟨rfl, _, _, rfl⟩ (fun j d e w2 hd2 hi2 => ?_) fun e w2 hi2 => ?_
        · obtain ⟨rfl, j5, j6, rfl⟩ := hi2
          rw [List.getElem?_map] at hd2
          obtain ⟨x, hx, rfl⟩ := Option.map_eq_some_iff.mp hd2
          have lk : (dcK (addAll (addAll [] (flatC (cells.take k))) (lot.take j))).length ≤ 20 := by
            have := keys_few (l := lot.take j) (fun x hx => hck lot rfl x (List.mem_of_mem_take hx)) ofl
            simpa [dcK] using this
          simp [Vz0, Vz1, Vz2, Vz3, Vz4, Vz5, kx, SZ, beq_self_eq_true, List.contains_cons, List.contains_nil]
          refine ⟨by omega, rfl, j5, .val (.int x), ?_⟩
          rw [dput_K, List.take_succ, hx]
          simp [addAll_snoc]
        · obtain ⟨rfl, j5, j6, rfl⟩ := hi2
          refine ⟨rfl, j5, j6, ?_⟩
          rw [hfl]
          simp [addAll_app]
    · obtain ⟨rfl, j5, j6, rfl⟩ := hi
      have lk : (addAll [] (flatC cells)).length < 64 := by
        have a := addAll_ok (flatC cells) [] ⟨List.nodup_nil, fun _ h => by simp at h⟩ (flatC_ok hok)
        have := few 20 _ a.1 fun x hx => by have := a.2 x hx; omega
        omega
      have q := f_sorted_d (dcK (addAll [] (flatC cells))) _ (dcK_keys _) lk
      simp [Vz0, Vz1, Vz2, Vz3, Vz4, Vz5, kx, SZ, beq_self_eq_true, List.contains_cons, List.contains_nil, q]
end K13

set_option maxRecDepth 100000
set_option maxHeartbeats 400000
namespace K13
open PySem Ev
/-! ### tops in general -/
def TopK (k : Str) : Prop := hasD (.str k) [.str s12_sweep, .str s13_twice, .str s14_borrow] = false ∧ D.eqv (.str k) (.str s7_levels) = false ∧ shape2 (.str k) (.str s7_levels) = true
theorem topk_names : TopK s8_names := ⟨by simp [hasD, Vz0, Vz1, Vz2, Vz3, Vz4, Vz5, kx, SZ, beq_self_eq_true, List.contains_cons, List.contains_nil], by simp [Vz0, Vz1, Vz2, Vz3, Vz4, Vz5, kx, SZ, beq_self_eq_true, List.contains_cons, List.contains_nil], by simp [Vz0, Vz1, Vz2, Vz3, Vz4, Vz5, kx, SZ, beq_self_eq_true, List.contains_cons, List.contains_nil]⟩
theorem topk_near : TopK s6_near := ⟨by simp [hasD, Vz0, Vz1, Vz2, Vz3, Vz4, Vz5, kx, SZ, beq_self_eq_true, List.contains_cons, List.contains_nil], by simp [Vz0, Vz1, Vz2, Vz3, Vz4, Vz5, kx, SZ, beq_self_eq_true, List.contains_cons, List.contains_nil], by simp [Vz0, Vz1, Vz2, Vz3, Vz4, Vz5, kx, SZ, beq_self_eq_true, List.contains_cons, List.contains_nil]⟩
theorem topk_chain : TopK s15_chain := ⟨by simp [hasD, Vz0, Vz1, Vz2, Vz3, Vz4, Vz5, kx, SZ, beq_self_eq_true, List.contains_cons, List.contains_nil], by simp [Vz0, Vz1, Vz2, Vz3, Vz4, Vz5, kx, SZ, beq_self_eq_true, List.contains_cons, List.contains_nil], by simp [Vz0, Vz1, Vz2, Vz3, Vz4, Vz5, kx, SZ, beq_self_eq_true, List.contains_cons, List.contains_nil]⟩
theorem top_cell_of (n : Nat) (k : Str) (T : TopK k) (i r h c : D) (q : callF prg (n + 2) 19 [ePo k i r, h] = pure c) : callF prg (n + 3) 27 [ePo k i r, h] = pure c := by
  refine eq_pure fun w => ?_
  rw [c_cell_of]
  have e : k ≠ s7_levels := fun e => by have := T.2.1; simp [e, Vz0, Vz1, Vz2, Vz3, Vz4, Vz5, kx, SZ, beq_self_eq_true, List.contains_cons, List.contains_nil] at this
  simp [f_cell_of, Vz0, Vz1, Vz2, Vz3, Vz4, Vz5, kx, SZ, beq_self_eq_true, List.contains_cons, List.contains_nil, d_ePo, q_kindO, T.1, T.2.1, T.2.2, q, e]
theorem top_state_of (n : Nat) (k : Str) (T : TopK k) (i r h c : D) (q : callF prg (n + 2) 20 [ePo k i r, h] = pure c) : callF prg (n + 3) 28 [ePo k i r, h] = pure c := by
  refine eq_pure fun w => ?_
  rw [c_state_of]
  have e : k ≠ s7_levels := fun e => by have := T.2.1; simp [e, Vz0, Vz1, Vz2, Vz3, Vz4, Vz5, kx, SZ, beq_self_eq_true, List.contains_cons, List.contains_nil] at this
  simp [f_state_of, Vz0, Vz1, Vz2, Vz3, Vz4, Vz5, kx, SZ, beq_self_eq_true, List.contains_cons, List.contains_nil, d_ePo, q_kindO, T.1, T.2.1, T.2.2, q, e]
theorem top_next_of (n : Nat) (k : Str) (T : TopK k) (i r h s c : D) (ds : der s = pure s) (q : callF prg (n + 4) 21 [ePo k i r, h, s] = pure c) : callF prg (n + 5) 29 [ePo k i r, h, s] = pure c := by
  refine eq_pure fun w => ?_
  rw [c_next_of]
  have e : k ≠ s7_levels := fun e => by have := T.2.1; simp [e, Vz0, Vz1, Vz2, Vz3, Vz4, Vz5, kx, SZ, beq_self_eq_true, List.contains_cons, List.contains_nil] at this
  simp [f_next_of, Vz0, Vz1, Vz2, Vz3, Vz4, Vz5, kx, SZ, beq_self_eq_true, List.contains_cons, List.contains_nil, d_ePo, q_kindO, T.1, T.2.1, T.2.2, q, e, ds]
theorem top_after_of (n : Nat) (k : Str) (T : TopK k) (i r h s c cs : D) (ds : der s = pure s) (dc : der cs = pure cs) (q : callF prg (n + 4) 26 [ePo k i r, h, cs, s] = pure c) : callF prg (n + 5) 30 [ePo k i r, h, cs, s] = pure c := by
  refine eq_pure fun w => ?_
  rw [c_after_of]
  have e : k ≠ s7_levels := fun e => by have := T.2.1; simp [e, Vz0, Vz1, Vz2, Vz3, Vz4, Vz5, kx, SZ, beq_self_eq_true, List.contains_cons, List.contains_nil] at this
  simp [f_after_of, Vz0, Vz1, Vz2, Vz3, Vz4, Vz5, kx, SZ, beq_self_eq_true, List.contains_cons, List.contains_nil, d_ePo, q_kindO, T.1, T.2.1, T.2.2, q, e, ds, dc]
/-- whether a hand has put: the last one of its state -/
theorem t_top_next (n : Nat) (p h s : D) (b : Bool) (ds : der s = pure s) (x : idxop s (.int (-1)) = pure (.bl b)) : callF prg (n + 1) 21 [p, h, s] = pure (if b then .tup [.str s9_see] else .tup [.str s10_put]) := by
  refine eq_pure fun w => ?_
  rw [c_top_next]
  cases b <;> simp [f_top_next, Vz0, Vz1, Vz2, Vz3, Vz4, Vz5, kx, SZ, beq_self_eq_true, List.contains_cons, List.contains_nil, ds, x]
/-! ### chains -/
def chOS (rows : List (List Int)) (h1 : 1 ≤ rows.length) (h5 : rows.length ≤ 5) (hl : ∀ l ∈ rows, okLot l) : OS where
  γ := CC
  σ := Bool
  eγ := eCC
  eσ := eB
  pl := ePo s15_chain (eLots rows) (eLots rows)
  m := rows.length
  m1 := h1
  m5 := h5
  dp := d_ePo
  hand := fun n i => by
    have := o_is_hand n s15_chain (eLots rows) (rows.map eIs) i
    simpa [eLots] using this
  c0 := none
  s0 := fun _ => false
  aft := aftC rows
  inv := fun _ _ _ => True
  okc := okCC
  ns := fun _ => rfl
  ds := fun _ => rfl
  is := fun _ => rfl
  okc0 := fun l e => by cases e
  inv0 := fun h _ => trivial
  begun := fun n => by
    have c1 : ∀ h, callF prg (n + 2) 19 [ePo s15_chain (eLots rows) (eLots rows), h] = pure .non := fun h => by
      refine eq_pure fun w => ?_
      rw [c_top_cell]
      simp [f_top_cell, Vz0, Vz1, Vz2, Vz3, Vz4, Vz5, kx, SZ, beq_self_eq_true, List.contains_cons, List.contains_nil, d_ePo, q_kindO]
    have c2 : ∀ h, callF prg (n + 2) 20 [ePo s15_chain (eLots rows) (eLots rows), h] = pure (eB false) := fun h => by
      refine eq_pure fun w => ?_
      rw [c_top_state]
      simp [f_top_state, Vz0, Vz1, Vz2, Vz3, Vz4, Vz5, kx, SZ, beq_self_eq_true, List.contains_cons, List.contains_nil, d_ePo, q_kindO, eB]
    have q := o_begun n s15_chain (eLots rows) (rows.map eIs) .non (fun _ => eB false) (by simpa using h1) (by simpa using h5) (fun h => top_cell_of n _ topk_chain _ _ _ _ (c1 _)) (fun h _ => top_state_of n _ topk_chain _ _ _ _ (c2 _)) (id rfl) fun _ => id rfl
    have e : D.tup (rows.map eIs) = eLots rows := rfl
    rw [e] at q
    rw [q]
    simp [eCC, eO]
  after := fun n h cells c s hl hc hh I hok => by
    have hr : rows[h]? = some rows[h] := List.getElem?_eq_getElem hh
    refine top_after_of n _ topk_chain _ _ _ _ _ _ (id rfl) (id rfl) (eq_pure fun w => ?_)
    rw [c_top_after]
    have q := t_after_chain (n + 2) h (eLots rows) rows cells s _ hr (by omega) hok
    simp [f_top_after, Vz0, Vz1, Vz2, Vz3, Vz4, Vz5, kx, SZ, beq_self_eq_true, List.contains_cons, List.contains_nil, d_ePo, q_kindO, q, show der (eB s) = pure (eB s) from rfl]
  next := fun n h cells c s hl hc hh I => by
    refine ⟨_, top_next_of n _ topk_chain _ _ _ _ _ (id rfl) (t_top_next (n + 3) _ _ (eB s) s (id rfl) (id rfl)), ?_⟩
    unfold aftC
    cases s <;> simp [Vz0, Vz1, Vz2, Vz3, Vz4, Vz5, kx, SZ, beq_self_eq_true, List.contains_cons, List.contains_nil, eqv_tup, D.pyAll, D.py, PyData.eqvAll, PyData.eqv, shape2, D.shp, D.shpAll, D.dep, D.depAll]
  tells := fun h cells s d hd => by
    unfold aftC at hd ⊢
    cases s with
    | false => cases hd
    | true => cases hd; exact ⟨rfl, rfl, rfl, rfl⟩
  keeps := fun h cells c s hl2 hc I hok => by
    unfold aftC
    cases s with
    | false =>
      refine ⟨fun c' e => ?_, fun _ _ => trivial⟩
      cases e
      intro l e
      cases e
      have hh : h < rows.length := by rw [← hl2]; exact (List.getElem?_eq_some_iff.mp hc).1
      have : rows.getD h [] = rows[h] := by simp [List.getD, List.getElem?_eq_getElem hh]
      rw [this]
      exact hl _ (List.getElem_mem hh)
    | true => exact ⟨fun c' e => (by cases e), fun _ _ => trivial⟩
def chMu (b : Bool) : Nat := if b then 1 else 2
theorem ch_mu (rows : List (List Int)) (h : Nat) (cells : List CC) (s : Bool) : lf chMu (aftC rows h cells s).2.1 + 1 ≤ chMu s := by
  unfold aftC
  cases s <;> simp [lf, chMu]
theorem ch_all (rows : List (List Int)) (h1 : 1 ≤ rows.length) (h5 : rows.length ≤ 5) (hl : ∀ l ∈ rows, okLot l) : (chOS rows h1 h5 hl).phi chMu (chOS rows h1 h5 hl).ki.g0 ≤ 2 * rows.length := by
  show (((List.range rows.length).map fun _ => some false).map (lf chMu)).sum ≤ _
  rw [List.map_map]
  refine Nat.le_trans (sum_const _ 2 _ fun x _ => ?_) (by simp; omega)
  show 2 ≤ 2
  omega
end K13

set_option maxRecDepth 100000
set_option maxHeartbeats 400000
namespace K13
open PySem Ev
/-! ### near values -/
structure NS where
  num : Nat
  top : Int
  put : Bool
def eNS (s : NS) : D := .tup [.int s.num, .int s.top, .bl s.put]
def topsM (cells : List (List Int)) (num : Nat) : List Int := (cells.filter fun c => decide (num < c.length)).map fun c => c.getD num 0
def aftN (rounds : Nat) (h : Nat) (cells : List (List Int)) (s : NS) : Option (List Int) × Option NS × Option D :=
  if s.put then (if s.num + 1 = rounds then (none, none, some (.tup [.int ((minI (topsM cells s.num)).getD 0 + (maxI (topsM cells s.num)).getD 0), .int (s.num + 1)]))
    else (none, some ⟨s.num + 1, (minI (topsM cells s.num)).getD 0 + (maxI (topsM cells s.num)).getD 0, false⟩, none))
  else (some (cells.getD h [] ++ [s.top]), some ⟨s.num, s.top, true⟩, none)
def eNI (rounds : Nat) (vs : List Int) : D := .tup [.int rounds, eRw vs]
theorem t_after_near (n h rounds : Nat) (vs : List Int) (cells : List (List Int)) (s : NS) (c : List Int) (hc : cells[h]? = some c) (h5 : cells.length ≤ 5) (hp : s.put = true → s.num < c.length) (hl : c.length ≤ 100) :
    callF prg (n + 1) 24 [ePo s6_near (eNI rounds vs) (eRw vs), .int (h : Int), .tup (cells.map eIs), eNS s] = pure (.tup [eO eIs (aftN rounds h cells s).1, eO eNS (aftN rounds h cells s).2.1, eO id (aftN rounds h cells s).2.2]) := by
  refine eq_pure fun w => ?_
  rw [c_after_near]
  unfold aftN
  have ds : der (eNS s) = pure (eNS s) := id rfl
  have bs : ∀ ts e, bindTg (.t ts) (eNS s) e = bindTg.go ts [.int s.num, .int s.top, .bl s.put] e := fun ts e => by rw [eNS, bi_t]
  have hg : cells.getD h [] = c := by simp [List.getD, hc]
  cases z : s.put with
  | false =>
    have ad : binop .add (eIs c) (.tup [.int s.top]) = grd (c.length + 1 ≤ SZ) (pure (eIs (c ++ [s.top]))) := by unfold eIs; rw [b_addt]; unfold grd; simp
    simp [f_after_near, Vz0, Vz1, Vz2, Vz3, Vz4, Vz5, kx, SZ, beq_self_eq_true, List.contains_cons, List.contains_nil, ds, bs, z, hc, d_eIs, ad, hg, eO_some, eO_none]
    refine ⟨by omega, ?_⟩
    simp [eNS]
  | true =>
    have hn := hp z
    have nt : topsM cells s.num ≠ [] := fun e => by
      have q : c ∈ cells.filter fun c => decide (s.num < c.length) := List.mem_filter.mpr ⟨List.mem_of_getElem? hc, by simpa using hn⟩
      unfold topsM at e
      rw [List.map_eq_nil_iff] at e
      rw [e] at q
      cases q
    obtain ⟨mn, e1⟩ : ∃ m, minI (topsM cells s.num) = some m := by
      cases y : topsM cells s.num with
      | nil => exact absurd y nt
      | cons a r => exact ⟨_, rfl⟩
    obtain ⟨mx, e2⟩ : ∃ m, maxI (topsM cells s.num) = some m := by
      cases y : topsM cells s.num with
      | nil => exact absurd y nt
      | cons a r => exact ⟨_, rfl⟩
    have q1 := f_min_l _ _ e1
    have q2 := f_max_l _ _ e2
    simp [f_after_near, Vz0, Vz1, Vz2, Vz3, Vz4, Vz5, kx, SZ, beq_self_eq_true, List.contains_cons, List.contains_nil, ds, bs, z, d_ePo, q_inputsO]
    refine ⟨by omega, ?_⟩
    refine wp_lc eIs (fun c => decide (s.num < c.length)) (fun c => .int (c.getD s.num 0)) _ (fun a _ => ?_) ?_
    · have la : b1op .len (eIs a) = pure (.int a.length) := by simp [eIs, Vz0, Vz1, Vz2, Vz3, Vz4, Vz5, kx, SZ, beq_self_eq_true, List.contains_cons, List.contains_nil]
      by_cases g : s.num < a.length
      · have ga : idxop (eIs a) (.int (s.num : Int)) = pure (.int (a.getD s.num 0)) := by simp [eIs, Vz0, Vz1, Vz2, Vz3, Vz4, Vz5, kx, SZ, beq_self_eq_true, List.contains_cons, List.contains_nil, List.getD, List.getElem?_eq_getElem g]
        simp [Vz0, Vz1, Vz2, Vz3, Vz4, Vz5, kx, SZ, beq_self_eq_true, List.contains_cons, List.contains_nil, d_eIs, la, g, ga]
      · simp [Vz0, Vz1, Vz2, Vz3, Vz4, Vz5, kx, SZ, beq_self_eq_true, List.contains_cons, List.contains_nil, d_eIs, la, g]
    · have et : (cells.filter (fun c => decide (s.num < c.length))).map (fun c => D.int (c.getD s.num 0)) = (topsM cells s.num).map .int := by simp [topsM]
      rw [et]
      have xi : idxop (eNI rounds vs) (.int 0) = pure (.int rounds) := by simp [eNI, Vz0, Vz1, Vz2, Vz3, Vz4, Vz5, kx, SZ, beq_self_eq_true, List.contains_cons, List.contains_nil]
      have dn : der (eNI rounds vs) = pure (eNI rounds vs) := id rfl
      by_cases g : s.num + 1 = rounds
      · have g' : (s.num : Int) + 1 = rounds := by omega
        simp [Vz0, Vz1, Vz2, Vz3, Vz4, Vz5, kx, SZ, beq_self_eq_true, List.contains_cons, List.contains_nil, q1, q2, e1, e2, d_ePo, q_inputsO, xi, dn, g, g', eO_none, eO_some]
      · have g' : ¬ (s.num : Int) + 1 = rounds := by omega
        simp [Vz0, Vz1, Vz2, Vz3, Vz4, Vz5, kx, SZ, beq_self_eq_true, List.contains_cons, List.contains_nil, q1, q2, e1, e2, d_ePo, q_inputsO, xi, dn, g, g', eO_none, eO_some, eNS]
end K13

set_option maxRecDepth 100000
set_option maxHeartbeats 400000
namespace K13
open PySem Ev
def neInv (rounds : Nat) (c : List Int) (_ : Nat) (s : NS) : Prop := s.num < rounds ∧ c.length = s.num + (if s.put then 1 else 0)
def neOS (rounds : Nat) (vs : List Int) (r1 : 1 ≤ rounds) (r6 : rounds ≤ 6) (h1 : 1 ≤ vs.length) (h5 : vs.length ≤ 5) : OS where
  γ := List Int
  σ := NS
  eγ := eIs
  eσ := eNS
  pl := ePo s6_near (eNI rounds vs) (eRw vs)
  m := vs.length
  m1 := h1
  m5 := h5
  dp := d_ePo
  hand := fun n i => by
    have := o_is_hand n s6_near (eNI rounds vs) (vs.map .int) i
    simpa [eRw] using this
  c0 := []
  s0 := fun h => ⟨0, vs.getD h 0, false⟩
  aft := aftN rounds
  inv := neInv rounds
  okc := fun _ => True
  ns := fun _ => rfl
  ds := fun _ => rfl
  is := fun _ => rfl
  okc0 := trivial
  inv0 := fun h _ => ⟨r1, rfl⟩
  begun := fun n => by
    have c1 : ∀ h, callF prg (n + 2) 19 [ePo s6_near (eNI rounds vs) (eRw vs), h] = pure (eIs []) := fun h => by
      refine eq_pure fun w => ?_
      rw [c_top_cell]
      simp [f_top_cell, Vz0, Vz1, Vz2, Vz3, Vz4, Vz5, kx, SZ, beq_self_eq_true, List.contains_cons, List.contains_nil, d_ePo, q_kindO, eIs]
    have c2 : ∀ h : Nat, h < vs.length → callF prg (n + 2) 20 [ePo s6_near (eNI rounds vs) (eRw vs), .int (h : Int)] = pure (eNS ⟨0, vs.getD h 0, false⟩) := fun h hh => by
      refine eq_pure fun w => ?_
      rw [c_top_state]
      have e : vs[h]? = some (vs.getD h 0) := by simp [List.getD, List.getElem?_eq_getElem hh]
      have x : idxop (eRw vs) (.int (h : Int)) = pure (.int (vs.getD h 0)) := by simp only [eRw, Vz0, Vz1, Vz2, Vz3, Vz4, Vz5, kx, SZ, beq_self_eq_true, List.contains_cons, List.contains_nil]; rw [List.getElem?_map, e]; rfl
      simp [f_top_state, Vz0, Vz1, Vz2, Vz3, Vz4, Vz5, kx, SZ, beq_self_eq_true, List.contains_cons, List.contains_nil, d_ePo, q_kindO, q_rowsO, show der (eRw vs) = pure (eRw vs) from rfl, x, eNS]
    have q := o_begun n s6_near (eNI rounds vs) (vs.map .int) (eIs []) (fun h => eNS ⟨0, vs.getD h 0, false⟩) (by simpa using h1) (by simpa using h5) (fun h => top_cell_of n _ topk_near _ _ _ _ (c1 _)) (fun h hh => top_state_of n _ topk_near _ _ _ _ (c2 h (by simpa using hh))) (id rfl) fun _ => id rfl
    have e : D.tup (vs.map .int) = eRw vs := rfl
    rw [e] at q
    rw [q]
    simp
    rfl
  after := fun n h cells c s hl hc hh I hok => by
    refine top_after_of n _ topk_near _ _ _ _ _ _ (id rfl) (id rfl) (eq_pure fun w => ?_)
    rw [c_top_after]
    obtain ⟨i1, i2⟩ := I
    have q := t_after_near (n + 2) h rounds vs cells s c hc (by omega) (fun z => by rw [z] at i2; simp at i2; omega) (by split at i2 <;> omega)
    simp [f_top_after, Vz0, Vz1, Vz2, Vz3, Vz4, Vz5, kx, SZ, beq_self_eq_true, List.contains_cons, List.contains_nil, d_ePo, q_kindO, q, show der (eNS s) = pure (eNS s) from rfl]
  next := fun n h cells c s hl hc hh I => by
    refine ⟨_, top_next_of n _ topk_near _ _ _ _ _ (id rfl) (t_top_next (n + 3) _ _ (eNS s) s.put (id rfl) (id rfl)), ?_⟩
    unfold aftN
    cases z : s.put with
    | false => simp [Vz0, Vz1, Vz2, Vz3, Vz4, Vz5, kx, SZ, beq_self_eq_true, List.contains_cons, List.contains_nil, eqv_tup, D.pyAll, D.py, PyData.eqvAll, PyData.eqv, shape2, D.shp, D.shpAll, D.dep, D.depAll]
    | true => by_cases g : s.num + 1 = rounds <;> simp [g, Vz0, Vz1, Vz2, Vz3, Vz4, Vz5, kx, SZ, beq_self_eq_true, List.contains_cons, List.contains_nil, eqv_tup, D.pyAll, D.py, PyData.eqvAll, PyData.eqv, shape2, D.shp, D.shpAll, D.dep, D.depAll]
  tells := fun h cells s d hd => by
    unfold aftN at hd ⊢
    cases z : s.put with
    | false => rw [z] at hd; cases hd
    | true =>
      rw [z] at hd
      by_cases g : s.num + 1 = rounds
      · rw [if_pos rfl, if_pos g] at hd ⊢; cases hd; exact ⟨rfl, rfl, rfl, rfl⟩
      · rw [if_pos rfl, if_neg g] at hd; cases hd
  keeps := fun h cells c s hl2 hc I hok => by
    refine ⟨fun _ _ => trivial, fun s' e => ?_⟩
    obtain ⟨i1, i2⟩ := I
    unfold aftN at e ⊢
    cases z : s.put with
    | false =>
      rw [z] at e i2
      cases e
      have hg : cells.getD h [] = c := by simp [List.getD, hc]
      refine ⟨i1, ?_⟩
      simp [hc] at i2 ⊢
      omega
    | true =>
      rw [z] at e i2
      by_cases g : s.num + 1 = rounds
      · rw [if_pos rfl, if_pos g] at e; cases e
      · rw [if_pos rfl, if_neg g] at e ⊢
        cases e
        refine ⟨by show s.num + 1 < rounds; omega, ?_⟩
        simp at i2 ⊢
        omega
def neMu (rounds : Nat) (s : NS) : Nat := 2 * (rounds - s.num) - (if s.put then 1 else 0)
theorem ne_mu (rounds h : Nat) (cells : List (List Int)) (c : List Int) (s : NS) (I : neInv rounds c h s) : lf (neMu rounds) (aftN rounds h cells s).2.1 + 1 ≤ neMu rounds s := by
  obtain ⟨i1, i2⟩ := I
  unfold aftN
  cases z : s.put with
  | false => simp [lf, neMu, z]; omega
  | true => by_cases g : s.num + 1 = rounds <;> simp [lf, neMu, z, g] <;> omega
theorem ne_all (rounds : Nat) (vs : List Int) (r1 : 1 ≤ rounds) (r6 : rounds ≤ 6) (h1 : 1 ≤ vs.length) (h5 : vs.length ≤ 5) : (neOS rounds vs r1 r6 h1 h5).phi (neMu rounds) (neOS rounds vs r1 r6 h1 h5).ki.g0 ≤ vs.length * (2 * rounds) := by
  show (((List.range vs.length).map fun h => some (⟨0, vs.getD h 0, false⟩ : NS)).map (lf (neMu rounds))).sum ≤ _
  rw [List.map_map]
  refine Nat.le_trans (sum_const _ (2 * rounds) _ fun x _ => ?_) (by simp)
  show 2 * (rounds - 0) - 0 ≤ _
  omega
end K13

set_option maxRecDepth 100000
set_option maxHeartbeats 400000
namespace K13
open PySem Ev
/-! ### new names -/
structure MS where
  wish : Int
  put : Bool
def eMS (s : MS) : D := .tup [.int s.wish, .bl s.put]
def isLess (own : Int) : LC → Bool
  | some p => decide (p.1 < own) | none => false
def rankM (cells : List LC) (own : Int) : Nat := (cells.filter (isLess own)).length
def others (cells : List LC) (h : Nat) : List (LC × Nat) := cells.zipIdx.filter fun p => decide (p.2 ≠ h) && p.1.isSome
def wishedM (cells : List LC) (h : Nat) : List Int := (others cells h).map fun p => (p.1.getD (0, 0)).2
def freeM (m : Nat) (w : List Int) : List Nat := (List.range (2 * m)).filter fun (i : Nat) => decide ((1 + (i : Int)) ∉ w)
theorem filter_ne_len (x : Nat) : ∀ l : List Nat, l.Nodup → l.length ≤ (l.filter fun y => decide (y ≠ x)).length + 1
  | [], _ => by simp
  | y :: l, h => by
    have hn := List.nodup_cons.mp h
    by_cases e : y = x
    · subst e
      have : l.filter (fun z => decide (z ≠ y)) = l := List.filter_eq_self.mpr fun z hz => by
        have : z ≠ y := fun q => hn.1 (q ▸ hz)
        simp [this]
      rw [List.filter_cons_of_neg (by simp), this]
      simp
    · have ih := filter_ne_len x l hn.2
      rw [List.filter_cons_of_pos (by simp [e])]
      simp only [List.length_cons]
      omega
theorem free_len (l : List Nat) (hn : l.Nodup) : ∀ w : List Int, l.length ≤ (l.filter fun (i : Nat) => decide ((1 + (i : Int)) ∉ w)).length + w.length
  | [] => by
    have e : (l.filter fun (i : Nat) => decide ((1 + (i : Int)) ∉ ([] : List Int))) = l := List.filter_eq_self.mpr fun z _ => by simp
    rw [e]
    simp
  | x :: w => by
    have ih := free_len l hn w
    have e : (l.filter fun (i : Nat) => decide ((1 + (i : Int)) ∉ x :: w)) = (l.filter fun (i : Nat) => decide ((1 + (i : Int)) ∉ w)).filter fun (i : Nat) => decide (i ≠ (x - 1).toNat ∨ x < 1) := by
      rw [List.filter_filter]
      refine List.filter_congr fun i _ => ?_
      by_cases a : (1 + (i : Int)) ∈ w
      · simp [a]
      · by_cases b : (1 + (i : Int)) = x
        · simp [a, b]
          omega
        · have : i ≠ (x - 1).toNat ∨ x < 1 := by omega
          simp [a, b]
          simpa using this
    rw [e]
    generalize hl' : (l.filter fun (i : Nat) => decide ((1 + (i : Int)) ∉ w)) = l' at *
    have nd : l'.Nodup := by rw [← hl']; exact hn.filter _
    by_cases c : x < 1
    · have : l'.filter (fun (i : Nat) => decide (i ≠ (x - 1).toNat ∨ x < 1)) = l' := List.filter_eq_self.mpr fun z hz => by simp [c]
      rw [this]
      simp only [List.length_cons]
      omega
    · have : l'.filter (fun (i : Nat) => decide (i ≠ (x - 1).toNat ∨ x < 1)) = l'.filter fun y => decide (y ≠ (x - 1).toNat) := List.filter_congr fun z hz => by simp [c]
      rw [this]
      have := filter_ne_len (x - 1).toNat l' nd
      simp only [List.length_cons]
      omega
theorem rank_lt {cells : List LC} {own v : Int} {h : Nat} (hc : cells[h]? = some (some (own, v))) : rankM cells own < cells.length := by
  unfold rankM
  have hle := List.length_filter_le (isLess own) cells
  rcases Nat.lt_or_ge (cells.filter (isLess own)).length cells.length with h | h'
  · exact h
  · have e := List.filter_eq_self.mp (List.Sublist.eq_of_length_le (List.filter_sublist) h') _ (List.mem_of_getElem? hc)
    simp [isLess] at e
theorem wished_len {cells : List LC} {h : Nat} : (wishedM cells h).length ≤ cells.length := by
  unfold wishedM others
  rw [List.length_map]
  exact Nat.le_trans (List.length_filter_le _ _) (by simp)
theorem free_rank {cells : List LC} {own v : Int} {h : Nat} (hc : cells[h]? = some (some (own, v))) : rankM cells own < (freeM cells.length (wishedM cells h)).length := by
  have a := rank_lt hc
  have b := wished_len (cells := cells) (h := h)
  have c := free_len (List.range (2 * cells.length)) List.nodup_range (wishedM cells h)
  unfold freeM
  simp only [List.length_range] at c
  omega
def wishM (cells : List LC) (h : Nat) (own : Int) : Int := 1 + (((freeM cells.length (wishedM cells h)).getD (rankM cells own) 0 : Nat) : Int)
theorem wish_new {cells : List LC} {own v : Int} {h : Nat} (hc : cells[h]? = some (some (own, v))) : wishM cells h own ∉ wishedM cells h := by
  have a := free_rank hc
  unfold wishM
  have e : (freeM cells.length (wishedM cells h)).getD (rankM cells own) 0 = (freeM cells.length (wishedM cells h))[rankM cells own] := by simp [List.getD, List.getElem?_eq_getElem a]
  rw [e]
  have := List.mem_filter.mp (List.getElem_mem a)
  simpa using this.2
end K13

set_option maxRecDepth 100000
set_option maxHeartbeats 400000
namespace K13
open PySem Ev
theorem x_eLC0 {p : Int × Int} : idxop (eLC (some p)) (.int 0) = pure (.int p.1) := by simp [eLC, eO, eNV, Vz0, Vz1, Vz2, Vz3, Vz4, Vz5, kx, SZ, beq_self_eq_true, List.contains_cons, List.contains_nil]
theorem x_eLC1 {p : Int × Int} : idxop (eLC (some p)) (.int 1) = pure (.int p.2) := by simp [eLC, eO, eNV, Vz0, Vz1, Vz2, Vz3, Vz4, Vz5, kx, SZ, beq_self_eq_true, List.contains_cons, List.contains_nil]
theorem hasD_is {i : Int} {l : List Int} : hasD (.int i) (l.map .int) = decide (i ∈ l) := by
  unfold hasD
  rw [List.any_map]
  induction l with
  | nil => simp
  | cons a r ih =>
    rw [List.any_cons, ih]
    by_cases e : a = i
    · simp [e, Vz0, Vz1, Vz2, Vz3, Vz4, Vz5, kx, SZ, beq_self_eq_true, List.contains_cons, List.contains_nil]
    · have e2 : ¬ i = a := fun q => e q.symm
      simp [e, e2, Vz0, Vz1, Vz2, Vz3, Vz4, Vz5, kx, SZ, beq_self_eq_true, List.contains_cons, List.contains_nil]
theorem shapes_is {i : Int} : ∀ l : List Int, shapes (.int i) (l.map .int) = true := fun l => by
  have a : ∀ l : List Int, D.shpAll (l.map .int) = true := fun l => by
    induction l with
    | nil => rfl
    | cons a r ih => simp [D.shpAll, D.shp, ih]
  have b : ∀ l : List Int, D.depAll (l.map .int) = 0 := fun l => by
    induction l with
    | nil => rfl
    | cons a r ih => simp [D.depAll, D.dep, ih]
  unfold shapes
  rw [a l, b l]
  simp [D.shp, D.dep]
theorem t_wish_by (n h : Nat) (cells : List LC) (own v : Int) (hc : cells[h]? = some (some (own, v))) (h5 : cells.length ≤ 5) : callF prg (n + 1) 22 [eLcs cells, .int (h : Int)] = pure (.int (wishM cells h own)) := by
  refine eq_pure fun w => ?_
  rw [c_wish_by]
  have itl : itemsOf (eLcs cells) = pure (cells.map eLC) := id rfl
  have enl : enumOf [eLcs cells] = pure (cells.zipIdx.map fun p => D.tup [.int p.2, eLC p.1]) := by rw [← enum_LC]; rfl
  have xc : idxop (eLcs cells) (.int (h : Int)) = pure (eLC (some (own, v))) := by rw [x_eLcs, hc]; rfl
  simp [f_wish_by, Vz0, Vz1, Vz2, Vz3, Vz4, Vz5, kx, SZ, beq_self_eq_true, List.contains_cons, List.contains_nil, d_eLcs, itl]
  refine ⟨by omega, wp_lc eLC (isLess own) eLC _ (fun a _ => ?_) ?_⟩
  · cases a with
    | none => simp [Vz0, Vz1, Vz2, Vz3, Vz4, Vz5, kx, SZ, beq_self_eq_true, List.contains_cons, List.contains_nil, d_eLC, i_eLC, n_eLC, isLess]
    | some p => simp [Vz0, Vz1, Vz2, Vz3, Vz4, Vz5, kx, SZ, beq_self_eq_true, List.contains_cons, List.contains_nil, d_eLC, i_eLC, n_eLC, isLess, x_eLC0, d_eLcs, xc]
  · simp [Vz0, Vz1, Vz2, Vz3, Vz4, Vz5, kx, SZ, beq_self_eq_true, List.contains_cons, List.contains_nil, d_eLcs, enl]
    refine ⟨by omega, wp_lc (fun (p : LC × Nat) => D.tup [.int p.2, eLC p.1]) (fun p => decide (p.2 ≠ h) && p.1.isSome) (fun p => .int (p.1.getD (0, 0)).2) _ (fun a _ => ?_) ?_⟩
    · obtain ⟨c, j⟩ := a
      by_cases e : j = h
      · have e' : (j : Int) = h := by omega
        simp [Vz0, Vz1, Vz2, Vz3, Vz4, Vz5, kx, SZ, beq_self_eq_true, List.contains_cons, List.contains_nil, e]
      · have e' : ¬ (j : Int) = h := by omega
        cases c with
        | none => simp [Vz0, Vz1, Vz2, Vz3, Vz4, Vz5, kx, SZ, beq_self_eq_true, List.contains_cons, List.contains_nil, e, e', d_eLC, i_eLC, n_eLC]
        | some p => simp [Vz0, Vz1, Vz2, Vz3, Vz4, Vz5, kx, SZ, beq_self_eq_true, List.contains_cons, List.contains_nil, e, e', d_eLC, i_eLC, n_eLC, x_eLC1]
    · have ew : (cells.zipIdx.filter (fun p => decide (p.2 ≠ h) && p.1.isSome)).map (fun p => D.int (p.1.getD (0, 0)).2) = (wishedM cells h).map .int := by simp [wishedM, others]
      rw [ew]
      simp [Vz0, Vz1, Vz2, Vz3, Vz4, Vz5, kx, SZ, beq_self_eq_true, List.contains_cons, List.contains_nil, d_eLcs, l_eLcs]
      have ok1 : rngOk (1 : Int) := by have := rngOk_nat (n := 1) (by omega); simpa using this
      have ok2 : rngOk (2 * (cells.length : Int) + 1) := by have := rngOk_nat (n := 2 * cells.length + 1) (by omega); simpa using this
      have et : (2 * (cells.length : Int)).toNat = 2 * cells.length := by omega
      have er : rngD 1 (2 * cells.length) = (List.range (2 * cells.length)).map fun (i : Nat) => D.int (1 + (i : Int)) := rfl
      rw [et, er]
      refine ⟨mulOk_l (by omega) (by omega), ⟨ok1, ok2⟩, by simp; omega, ?_⟩
      refine wp_lc (fun (i : Nat) => D.int (1 + (i : Int))) (fun i => decide ((1 + (i : Int)) ∉ wishedM cells h)) (fun i => D.int (1 + (i : Int))) _ (fun a _ => ?_) ?_
      · simp [Vz0, Vz1, Vz2, Vz3, Vz4, Vz5, kx, SZ, beq_self_eq_true, List.contains_cons, List.contains_nil, shapes_is, hasD_is]
      · have hr := free_rank hc
        have ef : (freeM cells.length (wishedM cells h))[rankM cells own]? = some ((freeM cells.length (wishedM cells h)).getD (rankM cells own) 0) := by simp [List.getD, List.getElem?_eq_getElem hr]
        have ei : (((List.range (2 * cells.length)).filter (fun (i : Nat) => decide ((1 + (i : Int)) ∉ wishedM cells h))).map (fun (i : Nat) => D.int (1 + (i : Int))))[(cells.filter (isLess own)).length]? = some (.int (wishM cells h own)) := by
          rw [List.getElem?_map]
          show ((freeM cells.length (wishedM cells h))[rankM cells own]?).map _ = _
          rw [ef]
          rfl
        rw [ei]
        simp [Vz0, Vz1, Vz2, Vz3, Vz4, Vz5, kx, SZ, beq_self_eq_true, List.contains_cons, List.contains_nil]
end K13

set_option maxRecDepth 100000
set_option maxHeartbeats 400000
namespace K13
open PySem Ev
def ownM (cells : List LC) (h : Nat) : Int := ((cells.getD h none).getD (0, 0)).1
def aftM (rows : List Int) (h : Nat) (cells : List LC) (s : MS) : Option LC × Option MS × Option D :=
  if s.put then (if s.wish ∈ wishedM cells h then (none, some ⟨wishM cells h (ownM cells h), false⟩, none) else (none, none, some (.int s.wish)))
  else (some (some (rows.getD h 0, s.wish)), some ⟨s.wish, true⟩, none)
theorem t_after_names (n h : Nat) (i : D) (rows : List Int) (cells : List LC) (s : MS) (r own v : Int) (hr : rows[h]? = some r) (hc : s.put = true → cells[h]? = some (some (own, v))) (h5 : cells.length ≤ 5) :
    callF prg (n + 2) 23 [ePo s8_names i (eRw rows), .int (h : Int), eLcs cells, eMS s] = pure (.tup [eO eLC (aftM rows h cells s).1, eO eMS (aftM rows h cells s).2.1, eO id (aftM rows h cells s).2.2]) := by
  refine eq_pure fun w => ?_
  rw [c_after_names]
  unfold aftM
  have ds : der (eMS s) = pure (eMS s) := id rfl
  have bs : ∀ ts e, bindTg (.t ts) (eMS s) e = bindTg.go ts [.int s.wish, .bl s.put] e := fun ts e => by rw [eMS, bi_t]
  have hg : rows.getD h 0 = r := by simp [List.getD, hr]
  cases z : s.put with
  | false =>
    have x : idxop (eRw rows) (.int (h : Int)) = pure (.int r) := by simp only [eRw, Vz0, Vz1, Vz2, Vz3, Vz4, Vz5, kx, SZ, beq_self_eq_true, List.contains_cons, List.contains_nil]; rw [List.getElem?_map, hr]; rfl
    simp [f_after_names, Vz0, Vz1, Vz2, Vz3, Vz4, Vz5, kx, SZ, beq_self_eq_true, List.contains_cons, List.contains_nil, ds, bs, z, d_ePo, q_rowsO, x, show der (eRw rows) = pure (eRw rows) from rfl, hg, eO_some, eO_none]
    simp [eLC, eO, eNV, eMS, hr]
  | true =>
    have hc := hc z
    have enl : enumOf [eLcs cells] = pure (cells.zipIdx.map fun p => D.tup [.int p.2, eLC p.1]) := by rw [← enum_LC]; rfl
    have ho : ownM cells h = own := by unfold ownM; simp [List.getD, hc]
    have q := t_wish_by n h cells own v hc h5
    simp [f_after_names, Vz0, Vz1, Vz2, Vz3, Vz4, Vz5, kx, SZ, beq_self_eq_true, List.contains_cons, List.contains_nil, ds, bs, z, d_eLcs, enl]
    refine ⟨by omega, wp_lc (fun (p : LC × Nat) => D.tup [.int p.2, eLC p.1]) (fun p => decide (p.2 ≠ h) && p.1.isSome) (fun p => eLC p.1) _ (fun a _ => ?_) ?_⟩
    · obtain ⟨c, j⟩ := a
      by_cases e : j = h
      · simp [Vz0, Vz1, Vz2, Vz3, Vz4, Vz5, kx, SZ, beq_self_eq_true, List.contains_cons, List.contains_nil, e]
      · have e' : ¬ (j : Int) = h := by omega
        cases c with
        | none => simp [Vz0, Vz1, Vz2, Vz3, Vz4, Vz5, kx, SZ, beq_self_eq_true, List.contains_cons, List.contains_nil, e, e', d_eLC, i_eLC, n_eLC]
        | some p => simp [Vz0, Vz1, Vz2, Vz3, Vz4, Vz5, kx, SZ, beq_self_eq_true, List.contains_cons, List.contains_nil, e, e', d_eLC, i_eLC, n_eLC]
    · have eo : (cells.zipIdx.filter (fun p => decide (p.2 ≠ h) && p.1.isSome)).map (fun p => eLC p.1) = (others cells h).map fun p => eLC p.1 := rfl
      have lo : (others cells h).length ≤ cells.length := by
        unfold others
        exact Nat.le_trans (List.length_filter_le _ _) (by simp)
      rw [eo]
      simp [Vz0, Vz1, Vz2, Vz3, Vz4, Vz5, kx, SZ, beq_self_eq_true, List.contains_cons, List.contains_nil]
      refine ⟨by omega, wp_lc1 (fun (p : LC × Nat) => eLC p.1) (fun p => .int (p.1.getD (0, 0)).2) (others cells h) (fun _ => rfl) (fun a ha => ?_) ?_⟩
      · obtain ⟨c, j⟩ := a
        cases c with
        | none =>
          have := (List.mem_filter.mp ha).2
          simp at this
        | some p => simp [Vz0, Vz1, Vz2, Vz3, Vz4, Vz5, kx, SZ, beq_self_eq_true, List.contains_cons, List.contains_nil, d_eLC, x_eLC1]
      · have ew : ((others cells h).map fun p => D.int (p.1.getD (0, 0)).2) = (wishedM cells h).map .int := by simp [wishedM]
        rw [ew]
        by_cases g : s.wish ∈ wishedM cells h
        · simp [Vz0, Vz1, Vz2, Vz3, Vz4, Vz5, kx, SZ, beq_self_eq_true, List.contains_cons, List.contains_nil, shapes_is, hasD_is, g, q, d_eLcs, ho, eO_none, eO_some]
          simp [eMS]
        · simp [Vz0, Vz1, Vz2, Vz3, Vz4, Vz5, kx, SZ, beq_self_eq_true, List.contains_cons, List.contains_nil, shapes_is, hasD_is, g, q, d_eLcs, ho, eO_none, eO_some]
end K13

set_option maxRecDepth 100000
set_option maxHeartbeats 400000
namespace K13
open PySem Ev
def naInv (rows : List Int) (c : LC) (h : Nat) (s : MS) : Prop := (s.put = true → ∃ own, c = some (own, s.wish)) ∧ ∀ p, c = some p → p.1 = rows.getD h 0
def naOS (rows : List Int) (h1 : 1 ≤ rows.length) (h5 : rows.length ≤ 5) : OS where
  γ := LC
  σ := MS
  eγ := eLC
  eσ := eMS
  pl := ePo s8_names (eRw rows) (eRw rows)
  m := rows.length
  m1 := h1
  m5 := h5
  dp := d_ePo
  hand := fun n i => by
    have := o_is_hand n s8_names (eRw rows) (rows.map .int) i
    simpa [eRw] using this
  c0 := none
  s0 := fun _ => ⟨1, false⟩
  aft := aftM rows
  inv := naInv rows
  okc := fun _ => True
  ns := fun _ => rfl
  ds := fun _ => rfl
  is := fun _ => rfl
  okc0 := trivial
  inv0 := fun h _ => ⟨fun q => (by cases q), fun p q => by cases q⟩
  begun := fun n => by
    have c1 : ∀ h, callF prg (n + 2) 19 [ePo s8_names (eRw rows) (eRw rows), h] = pure .non := fun h => by
      refine eq_pure fun w => ?_
      rw [c_top_cell]
      simp [f_top_cell, Vz0, Vz1, Vz2, Vz3, Vz4, Vz5, kx, SZ, beq_self_eq_true, List.contains_cons, List.contains_nil, d_ePo, q_kindO]
    have c2 : ∀ h, callF prg (n + 2) 20 [ePo s8_names (eRw rows) (eRw rows), h] = pure (eMS ⟨1, false⟩) := fun h => by
      refine eq_pure fun w => ?_
      rw [c_top_state]
      simp [f_top_state, Vz0, Vz1, Vz2, Vz3, Vz4, Vz5, kx, SZ, beq_self_eq_true, List.contains_cons, List.contains_nil, d_ePo, q_kindO, eMS]
    have q := o_begun n s8_names (eRw rows) (rows.map .int) .non (fun _ => eMS ⟨1, false⟩) (by simpa using h1) (by simpa using h5) (fun h => top_cell_of n _ topk_names _ _ _ _ (c1 _)) (fun h _ => top_state_of n _ topk_names _ _ _ _ (c2 _)) (id rfl) fun _ => id rfl
    have e : D.tup (rows.map .int) = eRw rows := rfl
    rw [e] at q
    rw [q]
    simp [eLC, eO]
  after := fun n h cells c s hl hc hh I hok => by
    have hr : rows[h]? = some rows[h] := List.getElem?_eq_getElem hh
    refine top_after_of n _ topk_names _ _ _ _ _ _ (id rfl) (id rfl) (eq_pure fun w => ?_)
    rw [c_top_after]
    have q : callF prg (n + 3) 23 [ePo s8_names (eRw rows) (eRw rows), .int (h : Int), eLcs cells, eMS s] = pure (.tup [eO eLC (aftM rows h cells s).1, eO eMS (aftM rows h cells s).2.1, eO id (aftM rows h cells s).2.2]) := by
      cases z : s.put with
      | false => exact t_after_names (n + 1) h (eRw rows) rows cells s _ 0 0 hr (fun y => by rw [z] at y; cases y) (by omega)
      | true =>
        obtain ⟨own, ho⟩ := I.1 z
        exact t_after_names (n + 1) h (eRw rows) rows cells s _ own s.wish hr (fun _ => by rw [hc, ho]) (by omega)
    have e : D.tup (cells.map eLC) = eLcs cells := rfl
    rw [e]
    simp [f_top_after, Vz0, Vz1, Vz2, Vz3, Vz4, Vz5, kx, SZ, beq_self_eq_true, List.contains_cons, List.contains_nil, d_ePo, q_kindO, q, d_eLcs, show der (eMS s) = pure (eMS s) from rfl]
  next := fun n h cells c s hl hc hh I => by
    refine ⟨_, top_next_of n _ topk_names _ _ _ _ _ (id rfl) (t_top_next (n + 3) _ _ (eMS s) s.put (id rfl) (id rfl)), ?_⟩
    unfold aftM
    cases z : s.put with
    | false => simp [Vz0, Vz1, Vz2, Vz3, Vz4, Vz5, kx, SZ, beq_self_eq_true, List.contains_cons, List.contains_nil, eqv_tup, D.pyAll, D.py, PyData.eqvAll, PyData.eqv, shape2, D.shp, D.shpAll, D.dep, D.depAll]
    | true => by_cases g : s.wish ∈ wishedM cells h <;> simp [g, Vz0, Vz1, Vz2, Vz3, Vz4, Vz5, kx, SZ, beq_self_eq_true, List.contains_cons, List.contains_nil, eqv_tup, D.pyAll, D.py, PyData.eqvAll, PyData.eqv, shape2, D.shp, D.shpAll, D.dep, D.depAll]
  tells := fun h cells s d hd => by
    unfold aftM at hd ⊢
    cases z : s.put with
    | false => rw [z] at hd; cases hd
    | true =>
      rw [z] at hd
      by_cases g : s.wish ∈ wishedM cells h
      · rw [if_pos rfl, if_pos g] at hd; cases hd
      · rw [if_pos rfl, if_neg g] at hd ⊢; cases hd; exact ⟨rfl, rfl, rfl, rfl⟩
  keeps := fun h cells c s hl2 hc I hok => by
    refine ⟨fun _ _ => trivial, fun s' e => ?_⟩
    unfold aftM at e ⊢
    cases z : s.put with
    | false =>
      rw [z] at e
      cases e
      exact ⟨fun _ => ⟨rows.getD h 0, rfl⟩, fun p q => by cases q; rfl⟩
    | true =>
      rw [z] at e
      by_cases g : s.wish ∈ wishedM cells h
      · rw [if_pos rfl, if_pos g] at e ⊢
        cases e
        exact ⟨fun q => (by cases q), fun p q => I.2 p q⟩
      · rw [if_pos rfl, if_neg g] at e; cases e
end K13

set_option maxRecDepth 100000
set_option maxHeartbeats 400000
namespace K13
open PySem Ev
/-! ### who alone wants a name is soon over -/
theorem mv_non : ∀ (S : List D) (k : Nat), ((S.zipIdx k).filter (fun p => !isNon p.1)).map (·.2) = (((S.map isNon).zipIdx k).filter (fun p => !p.1)).map (·.2)
  | [], _ => rfl
  | x :: S, k => by
    have ih := mv_non S (k + 1)
    rw [List.map_cons, List.zipIdx_cons, List.zipIdx_cons]
    cases z : isNon x with
    | true => rw [List.filter_cons_of_neg (by simp [z]), List.filter_cons_of_neg (by simp)]; exact ih
    | false =>
      rw [List.filter_cons_of_pos (by simp [z]), List.filter_cons_of_pos (by simp), List.map_cons, List.map_cons, ih]
theorem mvD_same {S S' : List D} (h : S.map isNon = S'.map isNon) : mvD S = mvD S' := by
  unfold mvD
  rw [mv_non S 0, mv_non S' 0, h]
theorem mv_cnt : ∀ (S : List D) (k : Nat), (((S.zipIdx k).filter (fun p => !isNon p.1)).map (·.2)).length = (S.map fun x => if isNon x then 0 else 1).sum
  | [], _ => rfl
  | x :: S, k => by
    have ih := mv_cnt S (k + 1)
    rw [List.zipIdx_cons, List.map_cons, List.sum_cons]
    cases z : isNon x with
    | true => rw [List.filter_cons_of_neg (by simp [z]), ih]; simp
    | false => rw [List.filter_cons_of_pos (by simp [z]), List.map_cons, List.length_cons, ih]; simp; omega
theorem mvD_cnt (S : List D) : (mvD S).length = (S.map fun x => if isNon x then 0 else 1).sum := mv_cnt S 0
theorem others_set : ∀ (cells : List LC) (k h : Nat) (c : LC), (((cells.set h c).zipIdx k).filter fun p => decide (p.2 ≠ k + h) && p.1.isSome) = (cells.zipIdx k).filter fun p => decide (p.2 ≠ k + h) && p.1.isSome
  | [], _, _, _ => rfl
  | x :: l, k, 0, c => by
    rw [List.set_cons_zero, List.zipIdx_cons, List.zipIdx_cons, List.filter_cons_of_neg (by simp), List.filter_cons_of_neg (by simp)]
  | x :: l, k, h + 1, c => by
    have ih := others_set l (k + 1) h c
    rw [show k + 1 + h = k + (h + 1) from by omega] at ih
    rw [List.set_cons_succ, List.zipIdx_cons, List.zipIdx_cons, List.filter_cons, List.filter_cons, ih]
theorem wished_set (cells : List LC) (h : Nat) (c : LC) : wishedM (cells.set h c) h = wishedM cells h := by
  have q := others_set cells 0 h c
  simp only [Nat.zero_add] at q
  unfold wishedM others
  rw [q]
def nu (cells : List LC) (h : Nat) (s : MS) : Nat := (if s.wish ∈ wishedM cells h then 2 else 0) + if s.put then 1 else 2
def naB (g : OG LC MS) : Nat := match mvD (g.states.map (eO eMS)) with
  | [] => 0
  | h :: t => (match g.states[h]? with | some (some s) => nu g.cells h s | _ => 0) + 4 * t.length
theorem nu_le (cells : List LC) (h : Nat) (s : MS) : nu cells h s ≤ 4 := by unfold nu; split <;> split <;> omega
theorem naB_le (g : OG LC MS) : naB g ≤ 4 * (mvD (g.states.map (eO eMS))).length := by
  unfold naB
  split
  · omega
  · rename_i h t e
    rw [e, List.length_cons]
    split
    · have := nu_le g.cells h; rename_i s _; have := this s; omega
    · omega
end K13

set_option maxRecDepth 100000
set_option maxHeartbeats 400000
namespace K13
open PySem Ev
theorem naB_eq {g : OG LC MS} {h : Nat} {t : List Nat} {s : MS} (e : mvD (g.states.map (eO eMS)) = h :: t) (hs : g.states[h]? = some (some s)) : naB g = nu g.cells h s + 4 * t.length := by
  unfold naB
  rw [e]
  dsimp only
  rw [hs]
theorem isNon_set {S : List (Option MS)} {h : Nat} {s s' : MS} (hs : S[h]? = some (some s)) : ((S.set h (some s')).map (eO eMS)).map isNon = (S.map (eO eMS)).map isNon := by
  rw [List.map_map, List.map_map, List.map_set]
  refine List.ext_getElem (by simp) fun i h1 h2 => ?_
  rw [List.getElem_set]
  split
  · rename_i e
    subst e
    obtain ⟨hl, e2⟩ := List.getElem?_eq_some_iff.mp hs
    simp [e2, eO, isNon, eMS]
  · rfl
theorem na_less (rows : List Int) (h1 : 1 ≤ rows.length) (h5 : rows.length ≤ 5) (g : OG LC MS) (h : Nat) (t : List Nat) (K : (naOS rows h1 h5).Ok g) (e : mvD (g.states.map (eO eMS)) = h :: t) : naB ((naOS rows h1 h5).stp g h) < naB g := by
  obtain ⟨s, hs⟩ := (naOS rows h1 h5).mv.mp (show h ∈ mvD (g.states.map (eO eMS)) by rw [e]; exact List.mem_cons_self ..)
  have hs : g.states[h]? = some (some s) := hs
  have hl := (List.getElem?_eq_some_iff.mp hs).1
  have lc : g.cells.length = rows.length := K.lc
  have ls : g.states.length = rows.length := K.ls
  obtain ⟨c, hc⟩ : ∃ c, g.cells[h]? = some c := ⟨g.cells[h]'(by omega), List.getElem?_eq_getElem _⟩
  have iv : naInv rows c h s := K.iv h c s hc hs
  rw [naB_eq e hs, (naOS rows h1 h5).stp_is hs]
  have ea : (naOS rows h1 h5).aft h g.cells s = aftM rows h g.cells s := rfl
  rw [ea]
  unfold aftM
  cases z : s.put with
  | false =>
    have q := naB_eq (g := ⟨g.cells.set h (some (rows.getD h 0, s.wish)), g.states.set h (some ⟨s.wish, true⟩), g.told⟩) (h := h) (t := t) (s := ⟨s.wish, true⟩) (by rw [← e]; exact mvD_same (isNon_set hs)) (List.getElem?_set_self hl)
    show naB ⟨g.cells.set h (some (rows.getD h 0, s.wish)), g.states.set h (some ⟨s.wish, true⟩), g.told⟩ < _
    rw [q]
    unfold nu
    rw [wished_set, z]
    simp
  | true =>
    obtain ⟨own, ho⟩ := iv.1 z
    by_cases y : s.wish ∈ wishedM g.cells h
    · have q := naB_eq (g := ⟨g.cells, g.states.set h (some ⟨wishM g.cells h (ownM g.cells h), false⟩), g.told⟩) (h := h) (t := t) (s := ⟨wishM g.cells h (ownM g.cells h), false⟩) (by rw [← e]; exact mvD_same (isNon_set hs)) (List.getElem?_set_self hl)
      rw [if_pos rfl, if_pos y]
      show naB ⟨g.cells, g.states.set h (some ⟨wishM g.cells h (ownM g.cells h), false⟩), g.told⟩ < _
      rw [q]
      have hown : ownM g.cells h = own := by unfold ownM; simp [List.getD, hc, ho]
      have nw := wish_new (cells := g.cells) (own := own) (v := s.wish) (h := h) (by rw [hc, ho])
      rw [hown]
      unfold nu
      rw [if_neg nw, if_pos y, z]
      simp
    · rw [if_pos rfl, if_neg y]
      show naB ⟨g.cells, g.states.set h none, g.told.set h (some (.int s.wish))⟩ < _
      have q := naB_le ⟨g.cells, g.states.set h none, g.told.set h (some (.int s.wish))⟩
      have c1 := mvD_cnt ((g.states.set h none).map (eO eMS))
      have c2 := mvD_cnt (g.states.map (eO eMS))
      rw [List.map_map] at c1 c2
      have c3 := sum_set ((fun x => if isNon x then 0 else 1) ∘ eO eMS) g.states h (some s) none hs
      have c4 : ((fun x => if isNon x then 0 else 1) ∘ eO eMS) (some s) = 1 := rfl
      have c5 : ((fun x => if isNon x then 0 else 1) ∘ eO eMS) none = 0 := rfl
      rw [e, List.length_cons] at c2
      have c6 : 1 ≤ nu g.cells h s := by unfold nu; rw [z]; simp
      dsimp only at q
      omega
end K13

set_option maxRecDepth 100000
set_option maxHeartbeats 400000
namespace K13
open PySem Ev
theorem na_run_out (rows : List Int) (h1 : 1 ≤ rows.length) (h5 : rows.length ≤ 5) (n : Nat) (W : List Nat) (V : (naOS rows h1 h5).ki.Wov W) (hl : W.length ≤ 900) (w : Wd) (Q : D → Wd → Prop) (E : EK)
    (hq : ∀ X, (naOS rows h1 h5).ki.Wov (W ++ X) → mvD ((naOS rows h1 h5).ki.S ((naOS rows h1 h5).ki.at (W ++ X) (W ++ X).length)) = [] → (W ++ X).length ≤ W.length + 4 * rows.length → Q (eHands (W ++ X)) w) :
    wp (callF prg (n + 9) 41 [(naOS rows h1 h5).pl, eHands W]) w Q E := by
  have K := (naOS rows h1 h5).ki.at_ok V W.length
  have hb : naB ((naOS rows h1 h5).ki.at W W.length) ≤ 4 * rows.length := by
    refine Nat.le_trans (naB_le _) ?_
    have a := mvD_len (S := (((naOS rows h1 h5).ki.at W W.length).states.map (eO eMS)))
    exact Nat.mul_le_mul_left 4 (Nat.le_trans a (Nat.le_of_eq ((naOS rows h1 h5).ki.ln _ K)))
  exact g_run_out (naOS rows h1 h5).ki naB (fun g h t K e => na_less rows h1 h5 g h t K e) n W V (by omega) w Q E fun X V2 e l => hq X V2 e (by omega)
end K13

set_option maxRecDepth 100000
set_option maxHeartbeats 400000
namespace K13
open PySem Ev
/-! ### draws -/
theorem t_hand (n : Nat) (ns : List Int) (Q : D → Wd → Prop) (E : EK) (hq : ∀ w, HandOk w → Q (.cel 0) w) : wp (callF prg (n + 1) 50 [.scr ns]) [] Q E := by
  rw [c__law_hand]
  simp [f__law_hand, Vz0, Vz1, Vz2, Vz3, Vz4, Vz5, kx, SZ, beq_self_eq_true, List.contains_cons, List.contains_nil]
  have e63 : cut (ns.map D.int) none (some 63) = (ns.take 63).map .int := by
    rw [List.map_take]
    exact cut_to (k := 63)
  rw [e63]
  simp
  rw [← List.map_take]
  refine ⟨by omega, wp_lc1 D.int (fun c => .int (if c < 0 then -c else c)) _ (fun _ => rfl) (fun a _ => ?_) ?_⟩
  · simp [Vz0, Vz1, Vz2, Vz3, Vz4, Vz5, kx, SZ, beq_self_eq_true, List.contains_cons, List.contains_nil]
  · simp [Vz0, Vz1, Vz2, Vz3, Vz4, Vz5, kx, SZ, beq_self_eq_true, List.contains_cons, List.contains_nil]
    exact hq _ ⟨(ns.take 63).map (fun c => if c < 0 then -c else c), 0, 0, _, 0, by rw [List.map_map, List.map_take]; rfl, by omega⟩
theorem t_draw (n : Nat) (many : Int) (w : Wd) (Q : D → Wd → Prop) (E : EK) (H : HandOk w) (h0 : 0 < many) (h1 : many < 1073741824) (hq : ∀ (r : Nat) w', (r : Int) < many → HandOk w' → Q (.int r) w') : wp (callF prg (n + 1) 51 [.cel 0, .int many]) w Q E := by
  rw [c__law_draw, wp_endF]
  unfold f__law_draw
  dsimp only
  have pw : (10 : Int) ^ (18 : Int).toNat = 1000000000000000000 := by decide
  refine wp_seq (fun e w => (∃ j2 j3 j4, e = [.val (.cel 0), .val (.int many), j2, j3, j4]) ∧ HandOk w) ?_ fun e w he => ?_
  · obtain ⟨xs, i, b, s, c, rfl, hi⟩ := H
    by_cases hb : b = 0
    · by_cases hx : i < xs.length
      · obtain ⟨k, rfl⟩ := Int.eq_ofNat_of_zero_le hi
        have hk : k < xs.length := by omega
        have e1 : xs[k]? = some xs[k] := List.getElem?_eq_getElem hk
        have m1 : mulOk s 69621 := mulOk_r (by omega) (by omega)
        by_cases hc : (1000000000000000000 : Int) ≤ xs[k]
        · simp [Vz0, Vz1, Vz2, Vz3, Vz4, Vz5, kx, SZ, beq_self_eq_true, List.contains_cons, List.contains_nil, hb, hk, e1, m1, hc]
          exact ⟨xs, _, _, _, _, rfl, by omega⟩
        · simp [Vz0, Vz1, Vz2, Vz3, Vz4, Vz5, kx, SZ, beq_self_eq_true, List.contains_cons, List.contains_nil, hb, hk, e1, m1, hc]
          exact ⟨xs, _, _, _, _, rfl, by omega⟩
      · simp [Vz0, Vz1, Vz2, Vz3, Vz4, Vz5, kx, SZ, beq_self_eq_true, List.contains_cons, List.contains_nil, hb, hx]
        exact ⟨xs, _, _, _, _, rfl, by omega⟩
    · simp [Vz0, Vz1, Vz2, Vz3, Vz4, Vz5, kx, SZ, beq_self_eq_true, List.contains_cons, List.contains_nil, hb]
      exact ⟨xs, _, _, _, _, rfl, by omega⟩
  · obtain ⟨⟨j2, j3, j4, rfl⟩, xs, i, b, s, c, rfl, hi⟩ := he
    have fin : ∀ (x : Int) w', HandOk w' → Q (.int (x % many)) w' := fun x w' hw => by
      have a1 := Int.emod_nonneg x (show many ≠ 0 by omega)
      have a2 := Int.emod_lt_of_pos x h0
      obtain ⟨r, hr⟩ := Int.eq_ofNat_of_zero_le a1
      rw [hr] at a2 ⊢
      exact hq r w' a2 hw
    by_cases hb : 0 < b
    · simp [Vz0, Vz1, Vz2, Vz3, Vz4, Vz5, kx, SZ, beq_self_eq_true, List.contains_cons, List.contains_nil, hb, h0, h1]
      exact fin _ _ ⟨xs, _, _, _, _, rfl, by omega⟩
    · have m1 : ∀ x : Int, mulOk 7919 x := fun x => mulOk_l (by omega) (by omega)
      have m2 : ∀ x : Int, mulOk x 48271 := fun x => mulOk_r (by omega) (by omega)
      have m3 : ∀ x : Int, mulOk (x % 2147483647) (x % 2147483647 / 1009 + 69621) := fun x => mulOk_l (by omega) (by omega)
      have m4 : ∀ x : Int, mulOk (x % 2147483647) (x % 2147483647 / 2003 + 40692) := fun x => mulOk_l (by omega) (by omega)
      simp [Vz0, Vz1, Vz2, Vz3, Vz4, Vz5, kx, SZ, beq_self_eq_true, List.contains_cons, List.contains_nil, hb, h0, h1, m1, m2, m3, m4]
      exact fin _ _ ⟨xs, _, _, _, _, rfl, by omega⟩
theorem t_some (n : Nat) (xs : List D) (w : Wd) (Q : D → Wd → Prop) (E : EK) (H : HandOk w) (h0 : 0 < xs.length) (h1 : xs.length ≤ 100000) (hq : ∀ x w', x ∈ xs → HandOk w' → Q x w') : wp (callF prg (n + 2) 52 [.cel 0, .lst xs]) w Q E := by
  rw [c__law_some]
  simp [f__law_some, Vz0, Vz1, Vz2, Vz3, Vz4, Vz5, kx, SZ, beq_self_eq_true, List.contains_cons, List.contains_nil]
  refine t_draw n _ _ _ _ H (by omega) (by omega) fun r w2 hr H2 => ?_
  have hr' : r < xs.length := by omega
  simp [Vz0, Vz1, Vz2, Vz3, Vz4, Vz5, kx, SZ, beq_self_eq_true, List.contains_cons, List.contains_nil, List.getElem?_eq_getElem hr']
  exact hq _ w2 (List.getElem_mem hr') H2
/-! ### shuffled -/
theorem wp_apppop_own {C : Cfg} {l i : Nat} {es : Xs} {e : Ev.Env} {w : Wd} {Q : Fl → Wd → Prop} {E : EK} {xs ys : List D} (hl : e[l]? = some (.own (.lst ys))) (hi : e[i]? = some (.own (.lst xs))) (hne : l ≠ i) (hs : ys.length < SZ)
    (h : wp (evs C es e) w (fun ds w' => ∃ (j : Nat) (x : D), ds = [.int (j : Int)] ∧ xs[j]? = some x ∧ Q (.nx ((e.set i (.own (.lst (xs.eraseIdx j)))).set l (.own (.lst (ys ++ [x]))))) w') (kx Q e)) : wp (ex C (.apppop l i es) e) w Q E := by
  rw [ex, wp_cat]
  have q1 : isL e l = pure () := by unfold isL; rw [hl]
  have q2 : isL e i = pure () := by unfold isL; rw [hi]
  rw [q1, q2, pure_bnd, pure_bnd, if_neg hne, wp_bind]
  refine wp_mono h (fun ds w' ⟨j, x, hd, hx, hq⟩ => ?_) fun c x w' h => h
  subst hd
  have hj := (List.getElem?_eq_some_iff.mp hx).1
  have e1 : L2.ixN xs.length (j : Int) = some j := by
    unfold L2.ixN
    rw [if_pos (by omega), if_pos (by omega)]
    simp
  have e2 : (e.set i (.own (.lst (xs.eraseIdx j))))[l]? = some (.own (.lst ys)) := by rw [List.getElem?_set_ne (Ne.symm hne)]; exact hl
  unfold oneI
  dsimp only
  unfold popE
  rw [hi]
  dsimp only
  rw [e1]
  dsimp only
  rw [hx]
  dsimp only
  unfold toL
  rw [e2]
  dsimp only
  rw [if_pos hs]
  exact hq
theorem eraseIdx_perm {α : Type} {x : α} : ∀ {l : List α} {j : Nat}, l[j]? = some x → (x :: l.eraseIdx j).Perm l
  | [], _, h => by simp at h
  | y :: l, 0, h => by simp at h; subst h; simp
  | y :: l, j + 1, h => by
    have := eraseIdx_perm (l := l) (j := j) (by simpa using h)
    rw [List.eraseIdx_cons_succ]
    exact (List.Perm.swap y x _).trans (this.cons y)
def ShI (things : D) (xs : List D) (k : Nat) (e : Ev.Env) (w : Wd) : Prop := HandOk w ∧ ∃ (pool found : List D), e = [.val (.cel 0), .val things, .own (.lst pool), .own (.lst found)] ∧ (found ++ pool).Perm xs ∧ pool.length = k
theorem t_shuffled (n : Nat) (things : D) (xs : List D) (w : Wd) (Q : D → Wd → Prop) (E : EK) (H : HandOk w) (hl : b1op .list things = pure (.lst xs)) (hd : der things = pure things) (h1 : xs.length ≤ 1000) (hq : ∀ ys w', ys.Perm xs → HandOk w' → Q (.lst ys) w') : wp (callF prg (n + 2) 53 [.cel 0, things]) w Q E := by
  rw [c__law_shuffled]
  simp [f__law_shuffled, Vz0, Vz1, Vz2, Vz3, Vz4, Vz5, kx, SZ, beq_self_eq_true, List.contains_cons, List.contains_nil, hl, hd]
  rw [wp_whlE]
  refine wp_whl (ShI things xs) (fun k e w' hi => ?_) _ xs.length _ _ (by show _ < 100000; omega) ⟨H, xs, [], rfl, by simp, rfl⟩
  obtain ⟨H2, pool, found, rfl, pe, hk⟩ := hi
  have le := pe.length_eq
  simp only [List.length_append] at le
  by_cases z : pool = []
  · subst z
    simp [Vz0, Vz1, Vz2, Vz3, Vz4, Vz5, kx, SZ, beq_self_eq_true, List.contains_cons, List.contains_nil]
    exact hq _ _ (by simpa using pe) H2
  · have hp : 0 < pool.length := List.length_pos_iff.mpr z
    simp [Vz0, Vz1, Vz2, Vz3, Vz4, Vz5, kx, SZ, beq_self_eq_true, List.contains_cons, List.contains_nil, hp]
    refine wp_apppop_own (xs := pool) (ys := found) rfl rfl (by decide) (by show _ < 16777216; omega) ?_
    simp [Vz0, Vz1, Vz2, Vz3, Vz4, Vz5, kx, SZ, beq_self_eq_true, List.contains_cons, List.contains_nil]
    refine t_draw n _ _ _ _ H2 (by omega) (by omega) fun r w3 hr H3 => ?_
    have hr' : r < pool.length := by omega
    have hx : pool[r]? = some pool[r] := List.getElem?_eq_getElem hr'
    simp
    refine ⟨r, rfl, _, hx, ?_⟩
    refine ⟨k - 1, by omega, H3, pool.eraseIdx r, found ++ [pool[r]], rfl, ?_, ?_⟩
    · rw [List.append_assoc]
      exact ((eraseIdx_perm hx).append_left found).trans pe
    · rw [List.length_eraseIdx_of_lt hr']
      omega
/-! ### the same -/
def NDF (d : D) : Prop := d = .non ∨ (∃ i, d = .int i) ∨ (∃ b, d = .bl b) ∨ ∃ s, d = .str s ∧ PyData.strOk s = true
/-- numbers, flags, texts, None, tuples and lists of such, so deep -/
def NDS : Nat → D → Prop
  | 0, d => NDF d
  | m + 1, d => NDF d ∨ ∃ xs, (d = .tup xs ∨ d = .lst xs) ∧ xs.length ≤ 100000 ∧ ∀ x ∈ xs, NDS m x
theorem NDS.flat {m : Nat} {d : D} (h : NDF d) : NDS m d := by
  cases m with
  | zero => exact h
  | succ m => exact .inl h
theorem NDS.int {m : Nat} {i : Int} : NDS m (.int i) := .flat (.inr (.inl ⟨i, rfl⟩))
theorem NDS.bl {m : Nat} {i : Bool} : NDS m (.bl i) := .flat (.inr (.inr (.inl ⟨i, rfl⟩)))
theorem NDS.non {m : Nat} : NDS m .non := .flat (.inl rfl)
theorem NDS.str {m : Nat} {s : Str} (h : PyData.strOk s = true) : NDS m (.str s) := .flat (.inr (.inr (.inr ⟨s, rfl, h⟩)))
theorem NDS.tup {m : Nat} {xs : List D} (h : xs.length ≤ 100000) (hx : ∀ x ∈ xs, NDS m x) : NDS (m + 1) (.tup xs) := .inr ⟨xs, .inl rfl, h, hx⟩
theorem NDS.lst {m : Nat} {xs : List D} (h : xs.length ≤ 100000) (hx : ∀ x ∈ xs, NDS m x) : NDS (m + 1) (.lst xs) := .inr ⟨xs, .inr rfl, h, hx⟩
theorem law_is_flat (n : Nat) (d : D) (h : NDF d) : callF prg (n + 1) 54 [d, d] = pure (.bl true) := by
  refine eq_pure fun w => ?_
  rw [c__law_is]
  rcases h with rfl | ⟨i, rfl⟩ | ⟨b, rfl⟩ | ⟨s, rfl, hs⟩
  · have e1 : shape2 .non .non = true := by decide
    have e2 : D.eqv .non .non = true := by decide
    simp [f__law_is, Vz0, Vz1, Vz2, Vz3, Vz4, Vz5, kx, SZ, beq_self_eq_true, List.contains_cons, List.contains_nil, isas_f, e1, e2]
  · simp [f__law_is, Vz0, Vz1, Vz2, Vz3, Vz4, Vz5, kx, SZ, beq_self_eq_true, List.contains_cons, List.contains_nil, isas_f, isas_t]
  · simp [f__law_is, Vz0, Vz1, Vz2, Vz3, Vz4, Vz5, kx, SZ, beq_self_eq_true, List.contains_cons, List.contains_nil, isas_f, isas_t]
  · simp [f__law_is, Vz0, Vz1, Vz2, Vz3, Vz4, Vz5, kx, SZ, beq_self_eq_true, List.contains_cons, List.contains_nil, isas_f, isas_t, hs]
theorem t_law_is : ∀ (m n : Nat) (d : D), NDS m d → callF prg (n + m + 1) 54 [d, d] = pure (.bl true)
  | 0, n, d, h => law_is_flat n d h
  | m + 1, n, d, h => by
    rcases h with h | ⟨xs, hd, hl, hx⟩
    · exact law_is_flat (n + (m + 1)) d h
    · refine eq_pure fun w => ?_
      show wp (callF prg (n + m + 1 + 1) _ _) w _ _
      rw [c__law_is]
      have rg : rngOk (xs.length : Int) := rngOk_nat (by omega)
      have at1 : ((List.range xs.length).all fun _ => true) = true := List.all_eq_true.mpr fun _ _ => rfl
      rcases hd with rfl | rfl
      · simp [f__law_is, Vz0, Vz1, Vz2, Vz3, Vz4, Vz5, kx, SZ, beq_self_eq_true, List.contains_cons, List.contains_nil, isas_t, isas_f, rg, rngD0]
        refine ⟨by omega, wp_lc1 (fun (i : Nat) => D.int (i : Int)) (fun _ => .bl true) _ (fun _ => rfl) (fun a ha => ?_) ?_⟩
        · have ha' := List.mem_range.mp ha
          have q := t_law_is m n xs[a] (hx _ (List.getElem_mem ha'))
          simp [Vz0, Vz1, Vz2, Vz3, Vz4, Vz5, kx, SZ, beq_self_eq_true, List.contains_cons, List.contains_nil, List.getElem?_eq_getElem ha', q]
        · simp [Vz0, Vz1, Vz2, Vz3, Vz4, Vz5, kx, SZ, beq_self_eq_true, List.contains_cons, List.contains_nil, at1]
      · simp [f__law_is, Vz0, Vz1, Vz2, Vz3, Vz4, Vz5, kx, SZ, beq_self_eq_true, List.contains_cons, List.contains_nil, isas_t, isas_f, rg, rngD0]
        refine ⟨by omega, wp_lc1 (fun (i : Nat) => D.int (i : Int)) (fun _ => .bl true) _ (fun _ => rfl) (fun a ha => ?_) ?_⟩
        · have ha' := List.mem_range.mp ha
          have q := t_law_is m n xs[a] (hx _ (List.getElem_mem ha'))
          simp [Vz0, Vz1, Vz2, Vz3, Vz4, Vz5, kx, SZ, beq_self_eq_true, List.contains_cons, List.contains_nil, List.getElem?_eq_getElem ha', q]
        · simp [Vz0, Vz1, Vz2, Vz3, Vz4, Vz5, kx, SZ, beq_self_eq_true, List.contains_cons, List.contains_nil, at1]
end K13

set_option maxRecDepth 100000
set_option maxHeartbeats 400000
namespace K13
open PySem Ev
def tlS : Nat → Ss → Ss
  | 0, s => s
  | n + 1, .cons _ r => tlS n r
  | _, .nil => .nil
def OS.enc (O : OS) (g : OG O.γ O.σ) : D := .tup [.tup (g.cells.map O.eγ), .tup (g.states.map (eO O.eσ)), .tup (g.told.map eT)]
theorem OS.enc_is (O : OS) (g : OG O.γ O.σ) : O.enc g = O.ki.e g := rfl
theorem moved_tail (O : OS) (n : Nat) (kd rows rounds st0 nx : D) (g : OG O.γ O.σ) (h : Nat) (s : O.σ) (K : O.Ok g) (hs : g.states[h]? = some (some s)) (w : Wd)
    (dk : der kd = pure kd) (tn : callF prg (n + 1) 57 [kd, O.eσ s] = pure nx) (n1 : der nx = pure nx) (n2 : isIns nx = false) (n3 : shape2 nx (.tup [.str s10_put]) = true) (n4 : D.eqv nx (.tup [.str s10_put]) = (O.aft h g.cells s).1.isSome) :
    wp (exs (cg (n + 1)) (tlS 2 f__law_moved.body) [.val kd, .val rows, .val rounds, .val st0, .val (.int (h : Int)), .val (.tup (g.cells.map O.eγ)), .val (.tup (g.states.map (eO O.eσ))), .val (.tup (g.told.map eT)),
      .val (eO O.eγ (O.aft h g.cells s).1), .val (eO O.eσ (O.aft h g.cells s).2.1), .val (eO id (O.aft h g.cells s).2.2)]) w (endK (fun r w' => r = O.enc (O.stp g h) ∧ w' = w) NoE) NoE := by
  rw [O.stp_is hs]
  have lc := K.lc
  have ls := K.ls
  have lt := K.lt
  have m5 := O.m5
  have hl := (List.getElem?_eq_some_iff.mp hs).1
  have tl := O.tells h g.cells s
  have ht := K.tl h s hs
  have ds := O.ds
  generalize O.aft h g.cells s = res at n4 tl
  obtain ⟨a, b, d⟩ := res
  dsimp only at n4 tl ⊢
  have td := fun {α : Type} (xs : List α) (x : α) (hk : h < xs.length) => take_drop_set (xs := xs) (k := h) (x := x) hk
  have t1 := fun (x : D) => td (g.cells.map O.eγ) x (by simp; omega)
  have t2 := fun (x : D) => td (g.states.map (eO O.eσ)) x (by simp; omega)
  have t3 := fun (x : D) => td (g.told.map eT) x (by simp; omega)
  have lz : ∀ (xs : List D), xs.length ≤ 5 → (xs.take h).length + 1 + (xs.drop (h + 1)).length ≤ 16777216 := fun xs hx => by simp; omega
  have l1 := (g.cells.map O.eγ).length_map (f := id)
  cases a with
  | some c =>
    cases d with
    | none =>
      simp [f__law_moved, tlS, Vz0, Vz1, Vz2, Vz3, Vz4, Vz5, kx, SZ, beq_self_eq_true, List.contains_cons, List.contains_nil, dk, hs, eO_some, ds, tn, n1, n2, n3, n4, eO_none, t1, t2, OS.enc, List.map_set]
      omega
    | some d =>
      obtain ⟨t1', t2', t3', t4'⟩ := tl d rfl
      simp [f__law_moved, tlS, Vz0, Vz1, Vz2, Vz3, Vz4, Vz5, kx, SZ, beq_self_eq_true, List.contains_cons, List.contains_nil, dk, hs, eO_some, ds, tn, n1, n2, n3, n4, eO_none, t1, t2, t3, OS.enc, List.map_set, t1', t2', t3', ht, eT]
      omega
  | none =>
    cases d with
    | none =>
      simp [f__law_moved, tlS, Vz0, Vz1, Vz2, Vz3, Vz4, Vz5, kx, SZ, beq_self_eq_true, List.contains_cons, List.contains_nil, dk, hs, eO_some, ds, tn, n1, n2, n3, n4, eO_none, t1, t2, OS.enc, List.map_set]
      omega
    | some d =>
      obtain ⟨t1', t2', t3', t4'⟩ := tl d rfl
      simp [f__law_moved, tlS, Vz0, Vz1, Vz2, Vz3, Vz4, Vz5, kx, SZ, beq_self_eq_true, List.contains_cons, List.contains_nil, dk, hs, eO_some, ds, tn, n1, n2, n3, n4, eO_none, t1, t2, t3, OS.enc, List.map_set, t1', t2', t3', ht, eT]
      omega
end K13

set_option maxRecDepth 100000
set_option maxHeartbeats 400000
namespace K13
open PySem Ev
theorem KI.t_left (K : KI) (n : Nat) (g : K.G) (hk : K.ok g) : callF prg (n + 1) 60 [K.e g] = pure (eHands (mvD (K.S g))) := by
  refine eq_pure fun w => ?_
  rw [c__law_left]
  have hl := K.ln g hk
  have h5 := K.m5
  have rg : rngOk ((K.S g).length : Int) := rngOk_nat (by omega)
  simp [f__law_left, Vz0, Vz1, Vz2, Vz3, Vz4, Vz5, kx, SZ, beq_self_eq_true, List.contains_cons, List.contains_nil, KI.d_e, KI.x1, rg, rngD0]
  refine ⟨by omega, wp_lc (fun (i : Nat) => D.int (i : Int)) (fun i => !isNon ((K.S g).getD i .non)) (fun i => D.int (i : Int)) _ (fun a ha => ?_) ?_⟩
  · have ha' := List.mem_range.mp ha
    have e : (K.S g)[a]? = some ((K.S g).getD a .non) := by simp [List.getD, List.getElem?_eq_getElem ha']
    obtain ⟨d1, d2⟩ := K.dS g _ hk (List.mem_of_getElem? e)
    generalize (K.S g).getD a .non = x at *
    simp [Vz0, Vz1, Vz2, Vz3, Vz4, Vz5, kx, SZ, beq_self_eq_true, List.contains_cons, List.contains_nil, KI.d_e, KI.x1, e, d1, d2]
  · have em : mvD (K.S g) = (List.range (K.S g).length).filter fun i => !isNon ((K.S g).getD i .non) := by
      have h : ∀ (S : List D) (k : Nat), ((S.zipIdx k).filter (fun p => !isNon p.1)).map (·.2) = (List.range' k S.length).filter fun i => !isNon (S.getD (i - k) .non) := fun S => by
        induction S with
        | nil => intro k; rfl
        | cons x S ih =>
          intro k
          rw [List.zipIdx_cons, List.length_cons, List.range'_succ]
          have e1 : (x :: S).getD (k - k) .non = x := by simp
          have e2 : (List.range' (k + 1) S.length).filter (fun i => !isNon ((x :: S).getD (i - k) .non)) = (List.range' (k + 1) S.length).filter fun i => !isNon (S.getD (i - (k + 1)) .non) := by
            refine List.filter_congr fun i hi => ?_
            have := List.mem_range'_1.mp hi
            obtain ⟨j, rfl⟩ : ∃ j, i = k + 1 + j := ⟨i - (k + 1), by omega⟩
            have a1 : k + 1 + j - k = j + 1 := by omega
            have a2 : k + 1 + j - (k + 1) = j := by omega
            rw [a1, a2, List.getD_cons_succ]
          cases z : isNon x with
          | true =>
            rw [List.filter_cons_of_neg (by simp [z]), List.filter_cons_of_neg (by rw [e1, z]; simp), e2]
            exact ih (k + 1)
          | false =>
            rw [List.filter_cons_of_pos (by simp [z]), List.filter_cons_of_pos (by rw [e1, z]; simp), e2, List.map_cons]
            exact congrArg (k :: ·) (ih (k + 1))
      have := h (K.S g) 0
      rw [List.range_eq_range']
      simpa [mvD] using this
    rw [em]
    simp [Vz0, Vz1, Vz2, Vz3, Vz4, Vz5, kx, SZ, beq_self_eq_true, List.contains_cons, List.contains_nil, eHands]
/-! ### the law's own chains -/
theorem hasD_isL {i : Int} {l : List Int} : hasD (.int i) (l.map .int) = decide (i ∈ l) := by
  unfold hasD
  rw [List.any_map]
  induction l with
  | nil => simp
  | cons a r ih =>
    rw [List.any_cons, ih]
    by_cases e : a = i
    · simp [e, Vz0, Vz1, Vz2, Vz3, Vz4, Vz5, kx, SZ, beq_self_eq_true, List.contains_cons, List.contains_nil]
    · have e2 : ¬ i = a := fun q => e q.symm
      simp [e, e2, Vz0, Vz1, Vz2, Vz3, Vz4, Vz5, kx, SZ, beq_self_eq_true, List.contains_cons, List.contains_nil]
theorem shapes_isL {i : Int} : ∀ l : List Int, shapes (.int i) (l.map .int) = true := fun l => by
  have a : ∀ l : List Int, D.shpAll (l.map .int) = true := fun l => by
    induction l with
    | nil => rfl
    | cons a r ih => simp [D.shpAll, D.shp, ih]
  have b : ∀ l : List Int, D.depAll (l.map .int) = 0 := fun l => by
    induction l with
    | nil => rfl
    | cons a r ih => simp [D.depAll, D.dep, ih]
  unfold shapes
  rw [a l, b l]
  simp [D.shp, D.dep]
theorem f_sorted_l (ks : List Int) (hl : ks.length < 64) : b1op .sorted (.lst (ks.map .int)) = pure (.lst ((sortI ks).map .int)) := by
  show onInts (ks.map .int) (fun ns => grd (ns.length < 64) (pure (.lst ((sortI ns).map .int)))) = _
  unfold onInts
  rw [intsD_map]
  dsimp only
  rw [grd_if, if_pos hl]
theorem addAll_new : ∀ (l ks : List Int), l.Nodup → addAll ks l = ks ++ l.filter fun x => decide (x ∉ ks)
  | [], ks, _ => by simp [addAll]
  | x :: l, ks, h => by
    have hn := List.nodup_cons.mp h
    rw [addAll, addAll_new l _ hn.2]
    unfold addK
    by_cases hx : x ∈ ks
    · rw [if_pos hx, List.filter_cons_of_neg (by simpa using hx)]
    · rw [if_neg hx, List.filter_cons_of_pos (by simpa using hx), List.append_assoc]
      refine congrArg (ks ++ ·) (congrArg (x :: ·) (List.filter_congr fun y hy => ?_))
      have : y ≠ x := fun e => hn.1 (e ▸ hy)
      simp [this]
theorem few20 {l : List Int} (h : l.Nodup) (h2 : okLot l) : l.length ≤ 20 := few 20 l h fun x hx => by have := h2 x hx; omega
end K13

set_option maxRecDepth 100000
set_option maxHeartbeats 400000
namespace K13
open PySem Ev
def hdS : Nat → Ss → S
  | 0, .cons s _ => s
  | n + 1, .cons _ r => hdS n r
  | _, .nil => .bad
end K13

set_option maxRecDepth 100000
set_option maxHeartbeats 400000
namespace K13
open PySem Ev
/-- a comprehension whose test changes things: before turn i stands I i -/
theorem wp_lcGoC {f : Ev.Env → M D} {c : Ev.Env → M Bool} {tg : Tg} {e : Ev.Env} {E : EK} (I : Nat → List D → Wd → Prop) : ∀ (ds : List D) (k : Nat) (acc : List D) (w : Wd) (Q : List D → Wd → Prop), I k acc w →
    (∀ i acc w d, ds[i]? = some d → I (k + i) acc w → ∃ e', bindTg tg d e = some e' ∧ wp (c e') w (fun b w' => match b with
      | true => wp (f e') w' (fun y w2 => I (k + i + 1) (acc ++ [y]) w2) E
      | false => I (k + i + 1) acc w') E) → (∀ ys w, I (k + ds.length) (acc ++ ys) w → Q ys w) → wp (lcGo f c tg e ds) w Q E
  | [], k, acc, w, Q, h0, _, hQ => by
    rw [lcGo, wp_pure]
    exact hQ [] w (by simpa using h0)
  | d :: r, k, acc, w, Q, h0, hs, hQ => by
    obtain ⟨e', h1, h2⟩ := hs 0 acc w d rfl h0
    rw [lcGo, h1]
    dsimp only
    rw [wp_bind]
    have st : ∀ i acc w d, r[i]? = some d → I (k + 1 + i) acc w → ∃ e', bindTg tg d e = some e' ∧ wp (c e') w (fun b w' => match b with
      | true => wp (f e') w' (fun y w2 => I (k + 1 + i + 1) (acc ++ [y]) w2) E
      | false => I (k + 1 + i + 1) acc w') E := fun i acc w d hd hi => by
      have q := hs (i + 1) acc w d (by simpa using hd) (by rw [show k + (i + 1) = k + 1 + i from by omega]; exact hi)
      rw [show k + (i + 1) = k + 1 + i from by omega] at q
      exact q
    refine wp_mono h2 (fun b w' hb => ?_) fun c x w' h => h
    cases b with
    | true =>
      dsimp only at hb ⊢
      rw [wp_bind]
      refine wp_mono hb (fun y w2 hy => ?_) fun c x w' h => h
      rw [wp_bind]
      refine wp_lcGoC I r (k + 1) (acc ++ [y]) w2 _ hy st fun ys w hi => ?_
      rw [wp_pure]
      refine hQ _ _ ?_
      rw [List.length_cons, show k + (r.length + 1) = k + 1 + r.length from by omega]
      simpa using hi
    | false =>
      dsimp only at hb ⊢
      refine wp_lcGoC I r (k + 1) acc w' _ hb st fun ys w hi => hQ _ _ ?_
      rw [List.length_cons, show k + (r.length + 1) = k + 1 + r.length from by omega]
      exact hi
/-- what the law's own machine does of a kind -/
structure LK (K : KI) where
  kd : D
  rows : D
  rd : D
  dk : der kd = pure kd
  dr : der rows = pure rows
  drd : der rd = pure rd
  lr : b1op .len rows = pure (.int (K.m : Int))
  begin : ∀ n : Nat, callF prg (n + 2) 56 [kd, rows] = pure (K.e K.g0)
  moved : ∀ (n : Nat) W i h, K.Wov W → i ≤ W.length → h ∈ mvD (K.S (K.at W i)) → callF prg (n + 2) 59 [kd, rows, rd, K.e (K.at W i), .int (h : Int)] = pure (K.e (K.st (K.at W i) h))
def nhs (W : List Nat) : List D := W.map fun (h : Nat) => .int (h : Int)
theorem hasD_hs {h : Nat} {W : List Nat} : hasD (.int (h : Int)) (nhs W) = decide (h ∈ W) := hasD_ints
theorem shapes_hs {h : Nat} {W : List Nat} : shapes (.int (h : Int)) (nhs W) = true := by
  have := shapes_isL (i := (h : Int)) (W.map fun (h : Nat) => (h : Int))
  rw [List.map_map] at this
  exact this
def StI (m : Nat) (acc : List D) (w : Wd) : Prop := HandOk w ∧ ∃ ss : List Nat, acc = nhs ss
theorem t_stops_step {P : Prop} (h : P) : P := h
def WnI (K : KI) (L : LK K) (most : Nat) (way : Nat) (ss : List Nat) (i : Nat) (e : Ev.Env) (w' : Wd) : Prop := HandOk w' ∧ ∃ (W : List Nat) (one : Nat) (j5 j11 j12 : Ev.Slot), zwS (some j5) = true ∧
  e = [.val (.cel 0), .val L.kd, .val L.rows, .val L.rd, .val (.int (most : Int)), j5, .own (.lst (nhs W)), .own (.lst (K.stood W (W.length + 1))), .val (.int (way : Int)), .val (.lst (nhs ss)), .val (.int (one : Int)), j11, j12, .un] ∧ W.length ≤ i ∧ K.Wov W
theorem nhs_app (W : List Nat) (h : Nat) : nhs W ++ [.int (h : Int)] = nhs (W ++ [h]) := by simp [nhs]
theorem KI.stood_snoc {K : KI} {W : List Nat} {h : Nat} : K.stood W (W.length + 1) ++ [K.e (K.at (W ++ [h]) (W ++ [h]).length)] = K.stood (W ++ [h]) ((W ++ [h]).length + 1) := by
  have e : K.stood (W ++ [h]) (W ++ [h]).length = K.stood W (W.length + 1) := by
    unfold KI.stood
    rw [List.length_append]
    refine List.map_congr_left fun i hi => ?_
    have := List.mem_range.mp hi
    simp at this
    rw [KI.at_app i (by omega)]
  rw [← KI.stood_app (W := W ++ [h]), e]
theorem t_eHands {W : List Nat} : itemsOf (eHands W) = pure (nhs W) := id rfl
theorem law_woven (K : KI) (L : LK K) (n most : Nat) (hm : most ≤ 900) (w : Wd) (Q : D → Wd → Prop) (E : EK) (H : HandOk w) (hq : ∀ W w', K.Wov W → W.length ≤ most → HandOk w' → Q (.tup [.lst (nhs W), .lst (K.stood W (W.length + 1))]) w') :
    wp (callF prg (n + 3) 61 [.cel 0, L.kd, L.rows, L.rd, .int (most : Int)]) w Q E := by
  rw [c__law_woven]
  have m5 := K.m5
  have m1 := K.m1
  have r1 : rngOk (most : Int) := rngOk_nat (by omega)
  have r2 : rngOk (K.m : Int) := rngOk_nat (by omega)
  have qb := L.begin n
  have dk := L.dk
  have dr := L.dr
  have drd := L.drd
  have lr := L.lr
  simp [f__law_woven, Vz0, Vz1, Vz2, Vz3, Vz4, Vz5, kx, SZ, beq_self_eq_true, List.contains_cons, List.contains_nil, dk, dr, drd, qb]
  refine t_draw (n + 1) _ _ _ _ H (by omega) (by omega) fun way w2 hr2 H2 => ?_
  simp [Vz0, Vz1, Vz2, Vz3, Vz4, Vz5, kx, SZ, beq_self_eq_true, List.contains_cons, List.contains_nil, dk, dr, drd, lr, r2, rngD0, parE, contD]
  refine ⟨by omega, ?_⟩
  refine wp_lcGoC (fun _ acc w => StI K.m acc w) _ 0 [] _ _ ⟨H2, [], rfl⟩ (fun i acc w d hd hi => ?_) fun ys w hi => ?_
  · rw [List.getElem?_map] at hd
    obtain ⟨a, ha, rfl⟩ := Option.map_eq_some_iff.mp hd
    obtain ⟨H3, ss, rfl⟩ := hi
    by_cases hw : 1 < way
    · have hw' : (1 : Int) < (way : Int) := by omega
      simp [Vz0, Vz1, Vz2, Vz3, Vz4, Vz5, kx, SZ, beq_self_eq_true, List.contains_cons, List.contains_nil, hw, hw']
      refine t_draw (n + 1) _ _ _ _ H3 (by omega) (by omega) fun r w4 hr4 H4 => ?_
      by_cases hz : r = 0
      · subst hz
        simp [Vz0, Vz1, Vz2, Vz3, Vz4, Vz5, kx, SZ, beq_self_eq_true, List.contains_cons, List.contains_nil]
        exact ⟨H4, ss ++ [a], nhs_app ss a⟩
      · simp [Vz0, Vz1, Vz2, Vz3, Vz4, Vz5, kx, SZ, beq_self_eq_true, List.contains_cons, List.contains_nil, hz]
        exact ⟨H4, ss, rfl⟩
    · have hw' : ¬ (1 : Int) < (way : Int) := by omega
      simp [Vz0, Vz1, Vz2, Vz3, Vz4, Vz5, kx, SZ, beq_self_eq_true, List.contains_cons, List.contains_nil, hw, hw']
      exact ⟨H3, ss, rfl⟩
  · obtain ⟨H3, ss, e⟩ := hi
    simp at e
    subst e
    simp [Vz0, Vz1, Vz2, Vz3, Vz4, Vz5, kx, SZ, beq_self_eq_true, List.contains_cons, List.contains_nil, r1, rngD0, parE]
    refine wp_forGo0 (WnI K L most way ss) ⟨H3, [], 0, _, _, _, rfl, rfl, by simp, fun i h e => by simp at e⟩ (fun i d e w' hd hi => ?_) fun e w' hi => ?_
    · rw [List.getElem?_map] at hd
      obtain ⟨a, ha, rfl⟩ := Option.map_eq_some_iff.mp hd
      have him : i < most := by
        have := (List.getElem?_eq_some_iff.mp ha).1
        simpa using this
      obtain ⟨H4, W, one, j5, j11, j12, hz5, rfl, hl, V⟩ := hi
      have hk := K.at_ok V W.length
      have tl := K.t_left (n + 1) _ hk
      have hlen : (mvD (K.S (K.at W W.length))).length ≤ 5 := Nat.le_trans mvD_len (by rw [K.ln _ hk]; exact m5)
      have stp : ∀ (o : Nat), o ∈ mvD (K.S (K.at W W.length)) → callF prg (n + 2) 59 [L.kd, L.rows, L.rd, K.e (K.at W W.length), .int (o : Int)] = pure (K.e (K.at (W ++ [o]) (W ++ [o]).length)) := fun o ho => by
        rw [KI.at_snoc]
        exact L.moved n W W.length o V (Nat.le_refl _) ho
      have nxt : ∀ (o : Nat) (j5 j11 j12 : Ev.Slot) w2, zwS (some j5) = true → HandOk w2 → o ∈ mvD (K.S (K.at W W.length)) → WnI K L most way ss (i + 1) [.val (.cel 0), .val L.kd, .val L.rows, .val L.rd, .val (.int (most : Int)), j5, .own (.lst (nhs W ++ [.int (o : Int)])), .own (.lst (K.stood W (W.length + 1) ++ [K.e (K.at (W ++ [o]) (W ++ [o]).length)])), .val (.int (way : Int)), .val (.lst (nhs ss)), .val (.int (o : Int)), j11, j12, .un] w2 := fun o j5 j11 j12 w2 hz hh ho =>
        ⟨hh, W ++ [o], o, j5, j11, j12, hz, by rw [nhs_app, KI.stood_snoc], by simp; omega, KI.wov_app V ho⟩
      have l1 : (nhs W).length = W.length := by simp [nhs]
      have l2 : (K.stood W (W.length + 1)).length = W.length + 1 := KI.stood_len
      have sl : L2.atI (K.stood W (W.length + 1)) (-1) = some (K.e (K.at W W.length)) := KI.stood_last
      generalize mvD (K.S (K.at W W.length)) = ms at *
      simp [Vz0, Vz1, Vz2, Vz3, Vz4, Vz5, kx, SZ, beq_self_eq_true, List.contains_cons, List.contains_nil, dk, dr, drd, sl, tl, t_eHands, hz5]
      refine ⟨by simp [nhs]; omega, wp_lc (fun (h : Nat) => D.int (h : Int)) (fun h => !decide (h ∈ ss) || decide ((a : Int) < 4)) (fun h => D.int (h : Int)) ms (fun h _ => ?_) ?_⟩
      · by_cases b : h ∈ ss
        · simp [Vz0, Vz1, Vz2, Vz3, Vz4, Vz5, kx, SZ, beq_self_eq_true, List.contains_cons, List.contains_nil, shapes_hs, hasD_hs, b]
        · simp [Vz0, Vz1, Vz2, Vz3, Vz4, Vz5, kx, SZ, beq_self_eq_true, List.contains_cons, List.contains_nil, shapes_hs, hasD_hs, b]
      · have sub : ∀ h ∈ (ms.filter fun h => !decide (h ∈ ss) || decide ((a : Int) < 4)), h ∈ ms := fun h hh => (List.mem_filter.mp hh).1
        have ll : (ms.filter fun h => !decide (h ∈ ss) || decide ((a : Int) < 4)).length ≤ ms.length := List.length_filter_le _ _
        generalize (ms.filter fun h => !decide (h ∈ ss) || decide ((a : Int) < 4)) = lh at *
        have lm : lh.map (fun (h : Nat) => D.int (h : Int)) = nhs lh := rfl
        by_cases hz : lh = []
        · subst hz
          simp [Vz0, Vz1, Vz2, Vz3, Vz4, Vz5, kx, SZ, beq_self_eq_true, List.contains_cons, List.contains_nil]
          exact ⟨H4, W, one, _, _, j12, rfl, rfl, by omega, V⟩
        · have hz2 : 0 < lh.length := List.length_pos_iff.mpr hz
          have l3 : (nhs lh).length = lh.length := by simp [nhs]
          rw [lm, l3, show decide (0 < lh.length) = true from by simpa using hz2]
          have it : itemsOf (.lst (nhs lh)) = pure (lh.map fun (h : Nat) => D.int (h : Int)) := id rfl
          simp [Vz0, Vz1, Vz2, Vz3, Vz4, Vz5, kx, SZ, beq_self_eq_true, List.contains_cons, List.contains_nil]
          rw [← lm]
          refine ⟨by simp; omega, wp_lc (fun (h : Nat) => D.int (h : Int)) (fun h => decide (one < h)) (fun h => D.int (h : Int)) lh (fun h _ => ?_) ?_⟩
          · simp [Vz0, Vz1, Vz2, Vz3, Vz4, Vz5, kx, SZ, beq_self_eq_true, List.contains_cons, List.contains_nil]
          · have sub2 : ∀ h ∈ (lh.filter fun h => decide (one < h)), h ∈ ms := fun h hh => sub h (List.mem_filter.mp hh).1
            have ll2 : (lh.filter fun h => decide (one < h)).length ≤ lh.length := List.length_filter_le _ _
            generalize (lh.filter fun h => decide (one < h)) = lb at *
            have ms0 : ∀ {l : List Nat}, l ≠ [] → ∃ o, l[0]? = some o ∧ o ∈ l := fun {l} h => by
              cases l with
              | nil => exact absurd rfl h
              | cons x r => exact ⟨x, rfl, List.mem_cons_self ..⟩
            obtain ⟨o1, e1, m1'⟩ := ms0 hz
            have at0 : ∀ (l : List Nat) (o : Nat), l[0]? = some o → L2.atI (l.map fun (h : Nat) => D.int (h : Int)) 0 = some (.int (o : Int)) := fun l o h => by
              have q := atI_nat (xs := l.map fun (h : Nat) => D.int (h : Int)) (k := 0)
              rw [List.getElem?_map, h] at q
              exact q
            have a1 := at0 lh o1 e1
            have fin : ∀ o, o ∈ lh ∨ o ∈ lb → o ∈ ms := fun o h => h.elim (sub o) (sub2 o)
            by_cases hw : way = 0
            · subst hw
              by_cases hb : lb = []
              · subst hb
                have q := stp o1 (sub o1 m1')
                simp [Vz0, Vz1, Vz2, Vz3, Vz4, Vz5, kx, SZ, beq_self_eq_true, List.contains_cons, List.contains_nil, a1, dk, dr, drd, sl, q]
                refine ⟨_, ⟨by omega, rfl⟩, _, ⟨by omega, rfl⟩, ?_⟩
                have z := nxt o1 (.val (.int (a : Int))) (.val (.lst (nhs lh))) (.val (.lst [])) w' rfl H4 (sub o1 m1')
                simpa [nhs] using z
              · obtain ⟨o2, e2, m2'⟩ := ms0 hb
                have a2 := at0 lb o2 e2
                have q := stp o2 (sub2 o2 m2')
                have hb2 : 0 < lb.length := List.length_pos_iff.mpr hb
                simp [Vz0, Vz1, Vz2, Vz3, Vz4, Vz5, kx, SZ, beq_self_eq_true, List.contains_cons, List.contains_nil, a1, a2, hb2, dk, dr, drd, sl, q]
                refine ⟨_, ⟨by omega, rfl⟩, _, ⟨by omega, rfl⟩, ?_⟩
                have z := nxt o2 (.val (.int (a : Int))) (.val (.lst (nhs lh))) (.val (.lst (nhs lb))) w' rfl H4 (sub2 o2 m2')
                simpa [nhs] using z
            · have new : ∀ (w2 : Wd), HandOk w2 → ∀ (Q2 : D → Wd → Prop) (E2 : EK), (∀ (o : Nat) w3, o ∈ lh → HandOk w3 → Q2 (.int (o : Int)) w3) → wp (callF prg (n + 2) 52 [.cel 0, .lst (nhs lh)]) w2 Q2 E2 := fun w2 H2 Q2 E2 h => by
                refine t_some n _ _ _ _ H2 (by omega) (by omega) fun x w3 hx H3 => ?_
                obtain ⟨o, ho, rfl⟩ := List.mem_map.mp hx
                exact h o w3 ho H3
              have lm2 : (lh.map fun (h : Nat) => D.int (h : Int)) = nhs lh := rfl
              by_cases hw1 : way = 1
              · subst hw1
                simp [Vz0, Vz1, Vz2, Vz3, Vz4, Vz5, kx, SZ, beq_self_eq_true, List.contains_cons, List.contains_nil, dk, dr, drd, lm2]
                refine new _ H4 _ _ fun o w3 ho H5 => ?_
                have q := stp o (sub o ho)
                simp [Vz0, Vz1, Vz2, Vz3, Vz4, Vz5, kx, SZ, beq_self_eq_true, List.contains_cons, List.contains_nil, dk, dr, drd, sl, q]
                refine ⟨_, ⟨by omega, rfl⟩, _, ⟨by omega, rfl⟩, ?_⟩
                have z := nxt o (.val (.int (a : Int))) (.val (.lst (nhs lh))) (.val (.lst (nhs lb))) w3 rfl H5 (sub o ho)
                simpa [nhs] using z
              · have hw' : ¬ (way : Int) = 0 := by omega
                have hw1' : ¬ (way : Int) = 1 := by omega
                by_cases hin : one ∈ lh
                · simp [Vz0, Vz1, Vz2, Vz3, Vz4, Vz5, kx, SZ, beq_self_eq_true, List.contains_cons, List.contains_nil, dk, dr, drd, lm2, hw', hw1', hw, hw1, shapes_hs, hasD_hs, hin]
                  refine t_draw (n + 1) _ _ _ _ H4 (by omega) (by omega) fun r w3 hr3 H5 => ?_
                  by_cases hr0 : r = 0
                  · subst hr0
                    simp [Vz0, Vz1, Vz2, Vz3, Vz4, Vz5, kx, SZ, beq_self_eq_true, List.contains_cons, List.contains_nil, dk, dr, drd, lm2]
                    refine new _ H5 _ _ fun o w4 ho H6 => ?_
                    have q := stp o (sub o ho)
                    simp [Vz0, Vz1, Vz2, Vz3, Vz4, Vz5, kx, SZ, beq_self_eq_true, List.contains_cons, List.contains_nil, dk, dr, drd, sl, q]
                    refine ⟨_, ⟨by omega, rfl⟩, _, ⟨by omega, rfl⟩, ?_⟩
                    have z := nxt o (.val (.int (a : Int))) (.val (.lst (nhs lh))) (.val (.lst (nhs lb))) w4 rfl H6 (sub o ho)
                    simpa [nhs] using z
                  · have q := stp one (sub one hin)
                    simp [Vz0, Vz1, Vz2, Vz3, Vz4, Vz5, kx, SZ, beq_self_eq_true, List.contains_cons, List.contains_nil, hr0, dk, dr, drd, sl, q]
                    refine ⟨_, ⟨by omega, rfl⟩, _, ⟨by omega, rfl⟩, ?_⟩
                    have z := nxt one (.val (.int (a : Int))) (.val (.lst (nhs lh))) (.val (.lst (nhs lb))) w3 rfl H5 (sub one hin)
                    simpa [nhs] using z
                · simp [Vz0, Vz1, Vz2, Vz3, Vz4, Vz5, kx, SZ, beq_self_eq_true, List.contains_cons, List.contains_nil, dk, dr, drd, lm2, hw', hw1', hw, hw1, shapes_hs, hasD_hs, hin]
                  refine new _ H4 _ _ fun o w3 ho H5 => ?_
                  have q := stp o (sub o ho)
                  simp [Vz0, Vz1, Vz2, Vz3, Vz4, Vz5, kx, SZ, beq_self_eq_true, List.contains_cons, List.contains_nil, dk, dr, drd, sl, q]
                  refine ⟨_, ⟨by omega, rfl⟩, _, ⟨by omega, rfl⟩, ?_⟩
                  have z := nxt o (.val (.int (a : Int))) (.val (.lst (nhs lh))) (.val (.lst (nhs lb))) w3 rfl H5 (sub o ho)
                  simpa [nhs] using z
    · obtain ⟨H4, W, one, j5, j11, j12, hz5, rfl, hl, V⟩ := hi
      simp [Vz0, Vz1, Vz2, Vz3, Vz4, Vz5, kx, SZ, beq_self_eq_true, List.contains_cons, List.contains_nil]
      exact hq W w' V (by simpa using hl) H4
end K13

set_option maxRecDepth 100000
set_option maxHeartbeats 400000
namespace K13
open PySem Ev
/-! ### always the least hand -/
inductive Gr (K : KI) (W : List Nat) : List Nat → Prop where
  | refl : Gr K W W
  | step {U : List Nat} {h : Nat} {t : List Nat} (g : Gr K W U) (e : mvD (K.S (K.at U U.length)) = h :: t) : Gr K W (U ++ [h])
theorem Gr.head {K : KI} {V U : List Nat} (g : Gr K V U) : U = V ∨ ∃ h t, mvD (K.S (K.at V V.length)) = h :: t ∧ Gr K (V ++ [h]) U := by
  induction g with
  | refl => exact .inl rfl
  | @step U h t g e ih =>
    rcases ih with rfl | ⟨h2, t2, e2, g2⟩
    · exact .inr ⟨h, t, e, .refl⟩
    · exact .inr ⟨h2, t2, e2, .step g2 e⟩
theorem Gr.total {K : KI} {W U U' : List Nat} (a : Gr K W U) (b : Gr K W U') : Gr K U U' ∨ Gr K U' U := by
  induction b with
  | refl => exact .inr a
  | @step V h t g e ih =>
    rcases ih with q | q
    · exact .inl (.step q e)
    · rcases q.head with rfl | ⟨h2, t2, e2, g2⟩
      · exact .inl (.step .refl e)
      · rw [e] at e2
        cases e2
        exact .inr g2
theorem Gr.stay {K : KI} {U U' : List Nat} (g : Gr K U U') (o : mvD (K.S (K.at U U.length)) = []) : U' = U := by
  rcases g.head with e | ⟨h, t, e, _⟩
  · exact e
  · rw [o] at e; cases e
theorem Gr.one {K : KI} {W U U' : List Nat} (a : Gr K W U) (b : Gr K W U') (oa : mvD (K.S (K.at U U.length)) = []) (ob : mvD (K.S (K.at U' U'.length)) = []) : U = U' := by
  rcases a.total b with q | q
  · exact (q.stay oa).symm
  · exact q.stay ob
theorem li_W {d : D} {W : List Nat} (h : IsW d W) : b1op .list d = pure (.lst (nhs W)) := by rcases h with rfl | rfl <;> rfl
def RpI (K : KI) (B : K.G → Nat) (W : List Nat) (d : D) (w : Wd) (k : Nat) (e : Ev.Env) (w' : Wd) : Prop := w' = w ∧ ∃ U, K.Wov U ∧ Gr K W U ∧ k = B (K.at U U.length) ∧ U.length + k ≤ W.length + B (K.at W W.length) ∧
  e = [.val K.pl, .val d, .val (K.e (K.at U U.length)), .own (.lst (nhs U)), .val (eHands (mvD (K.S (K.at U U.length))))]
theorem p_run_out (K : KI) (B : K.G → Nat) (hB : ∀ g h t, K.ok g → mvD (K.S g) = h :: t → B (K.st g h) < B g) (n : Nat) (W : List Nat) (d : D) (hW : IsW d W) (V : K.Wov W) (hl : W.length + B (K.at W W.length) ≤ 6000) (w : Wd) (Q : D → Wd → Prop) (E : EK)
    (hq : ∀ U, K.Wov U → Gr K W U → mvD (K.S (K.at U U.length)) = [] → U.length ≤ W.length + B (K.at W W.length) → Q (eHands U) w) : wp (callF prg (n + 9) 41 [K.pl, d]) w Q E := by
  rw [c_run_out]
  have q := g_run K n W d V hW (by omega)
  have q2 := g_movers K (n + 7) (K.at W W.length) (K.at_ok V _)
  have dd := hW.der
  have lw := li_W hW
  simp [f_run_out, Vz0, Vz1, Vz2, Vz3, Vz4, Vz5, kx, SZ, beq_self_eq_true, List.contains_cons, List.contains_nil, K.dp, K.d_e, q, q2, dd, lw]
  rw [wp_whlE]
  refine wp_whl (RpI K B W d w) (fun k e w' hi => ?_) _ (B (K.at W W.length)) _ _ (by show _ < 100000; omega) ⟨rfl, W, V, .refl, rfl, by omega, rfl⟩
  obtain ⟨rfl, U, V2, g, rfl, h2, rfl⟩ := hi
  have hX := hq U V2 g
  have hk := K.at_ok V2 U.length
  cases hm : mvD (K.S (K.at U U.length)) with
  | nil =>
    simp [Vz0, Vz1, Vz2, Vz3, Vz4, Vz5, kx, SZ, beq_self_eq_true, List.contains_cons, List.contains_nil, K.dp, K.d_e, d_eHands, l_eHands, hm]
    have := hX hm (by omega)
    simpa [eHands, nhs] using this
  | cons h t =>
    have hin : h ∈ mvD (K.S (K.at U U.length)) := by rw [hm]; exact List.mem_cons_self ..
    have qa := g_after K (n + 2) _ h hk hin
    have hb := hB _ h t hk hm
    have e1 := KI.at_snoc (K := K) (W := U) (h := h)
    have V3 := KI.wov_app V2 hin
    have q3 := g_movers K (n + 7) _ (K.okS _ h hk hin)
    have hp : (0 : Int) < ((h :: t).length : Int) := by simp
    have lU : (nhs U).length = U.length := by simp [nhs]
    simp only [Vz0, Vz1, Vz2, Vz3, Vz4, Vz5, kx, SZ, beq_self_eq_true, List.contains_cons, List.contains_nil, K.dp, K.d_e, d_eHands, l_eHands, hm, hp, decide_true]
    simp [Vz0, Vz1, Vz2, Vz3, Vz4, Vz5, kx, SZ, beq_self_eq_true, List.contains_cons, List.contains_nil, K.dp, K.d_e, d_eHands, l_eHands, hm, x_eHands0, qa, q3]
    refine ⟨_, ⟨by omega, rfl⟩, _, hb, rfl, U ++ [h], V3, .step g hm, ?_⟩
    rw [e1]
    refine ⟨rfl, by simp; omega, ?_⟩
    rw [nhs_app]
def WhI (K : KI) (L : LK K) (B : K.G → Nat) (W : List Nat) (w : Wd) (i : Nat) (e : Ev.Env) (w' : Wd) : Prop := w' = w ∧ ∃ (U : List Nat) (j6 j7 : Ev.Slot), K.Wov U ∧ Gr K W U ∧ (mvD (K.S (K.at U U.length)) = [] ∨ B (K.at U U.length) + i ≤ B (K.at W W.length)) ∧ U.length ≤ W.length + i ∧
  e = [.val L.kd, .val L.rows, .val L.rd, .val (.lst (nhs W)), .val (K.e (K.at U U.length)), .own (.lst (nhs U)), j6, j7]
theorem law_whole (K : KI) (L : LK K) (B : K.G → Nat) (hB : ∀ g h t, K.ok g → mvD (K.S g) = h :: t → B (K.st g h) < B g) (n : Nat) (W : List Nat) (V : K.Wov W) (hl : W.length ≤ 1000) (hl2 : B (K.at W W.length) < 2000) (w : Wd) (Q : D → Wd → Prop) (E : EK)
    (hq : ∀ U, K.Wov U → Gr K W U → mvD (K.S (K.at U U.length)) = [] → Q (.tup [eHands U, K.e (K.at U U.length)]) w) : wp (callF prg (n + 3) 62 [L.kd, L.rows, L.rd, .lst (nhs W), K.e (K.at W W.length)]) w Q E := by
  rw [c__law_whole]
  have dk := L.dk
  have dr := L.dr
  have drd := L.drd
  have rg : rngOk (2000 : Int) := rngOk_nat (n := 2000) (by omega)
  have rr : rngD 0 2000 = (List.range 2000).map fun (i : Nat) => D.int (i : Int) := rngD0
  simp [f__law_whole, Vz0, Vz1, Vz2, Vz3, Vz4, Vz5, kx, SZ, beq_self_eq_true, List.contains_cons, List.contains_nil, rg, rr]
  refine wp_forGo0 (WhI K L B W w) ⟨rfl, W, _, _, V, .refl, .inr (by omega), by omega, rfl⟩ (fun i d e w' hd hi => ?_) fun e w' hi => ?_
  · rw [List.getElem?_map] at hd
    obtain ⟨a, ha, rfl⟩ := Option.map_eq_some_iff.mp hd
    have him : i < 2000 := by
      have := (List.getElem?_eq_some_iff.mp ha).1
      simpa using this
    obtain ⟨rfl, U, j6, j7, V2, g, hb, hlU, rfl⟩ := hi
    have hk := K.at_ok V2 U.length
    have tl := K.t_left (n + 1) _ hk
    have lU : (nhs U).length = U.length := by simp [nhs]
    cases hm : mvD (K.S (K.at U U.length)) with
    | nil =>
      rw [hm] at tl
      simp [Vz0, Vz1, Vz2, Vz3, Vz4, Vz5, kx, SZ, beq_self_eq_true, List.contains_cons, List.contains_nil, K.d_e, tl, d_eHands, l_eHands]
      exact ⟨rfl, U, _, _, V2, g, .inl hm, by omega, rfl⟩
    | cons h t =>
      have hin : h ∈ mvD (K.S (K.at U U.length)) := by rw [hm]; exact List.mem_cons_self ..
      rw [hm] at tl
      have mv := L.moved n U U.length h V2 (Nat.le_refl _) hin
      have hb2 := hB _ h t hk hm
      have e1 := KI.at_snoc (K := K) (W := U) (h := h)
      have hp : (0 : Int) < ((h :: t).length : Int) := by simp
      have hb' : B (K.at U U.length) + i ≤ B (K.at W W.length) := by
        rcases hb with z | z
        · rw [hm] at z; cases z
        · exact z
      simp [Vz0, Vz1, Vz2, Vz3, Vz4, Vz5, kx, SZ, beq_self_eq_true, List.contains_cons, List.contains_nil, K.d_e, tl, d_eHands, l_eHands, x_eHands0, dk, dr, drd, mv]
      refine ⟨_, ⟨by omega, rfl⟩, rfl, U ++ [h], .val (.int (a : Int)), .val (eHands (h :: t)), KI.wov_app V2 hin, .step g hm, .inr ?_, by simp; omega, ?_⟩
      · rw [e1]; omega
      · rw [e1, nhs_app]
  · obtain ⟨rfl, U, j6, j7, V2, g, hb, hlU, rfl⟩ := hi
    have ov : mvD (K.S (K.at U U.length)) = [] := by
      rcases hb with z | z
      · exact z
      · simp at z; omega
    have hm := hq U V2 g ov
    simp [Vz0, Vz1, Vz2, Vz3, Vz4, Vz5, kx, SZ, beq_self_eq_true, List.contains_cons, List.contains_nil, K.d_e]
    exact hm
/-! ### who came -/
theorem srt_lst (ns : List Int) (h : ns.length ≤ 4000) (h2 : (ddup ns).length < 64) : srtOf (.lst (ns.map .int)) = pure (.lst ((sortI (ddup ns)).map .int)) := by
  show onInts (ns.map .int) (fun ns => grd (ns.length ≤ 4000 ∧ (ddup ns).length < 64) (pure (.lst ((sortI (ddup ns)).map .int)))) = _
  unfold onInts
  rw [intsD_map]
  dsimp only
  rw [grd_if, if_pos ⟨h, h2⟩]
theorem srt_tup (ns : List Int) (h : ns.length ≤ 4000) (h2 : (ddup ns).length < 64) : srtOf (.tup (ns.map .int)) = pure (.lst ((sortI (ddup ns)).map .int)) := srt_lst ns h h2
theorem insI_mem (a j : Int) : ∀ l : List Int, j ∈ insI a l ↔ j = a ∨ j ∈ l
  | [] => by simp [insI]
  | b :: r => by
    rw [insI]
    split
    · simp
    · rw [List.mem_cons, insI_mem a j r, List.mem_cons]
      exact ⟨fun h => h.elim (fun e => .inr (.inl e)) fun h => h.elim .inl fun h => .inr (.inr h), fun h => h.elim (fun e => .inr (.inl e)) fun h => h.elim .inl fun h => .inr (.inr h)⟩
theorem sortI_mem (j : Int) : ∀ l : List Int, j ∈ sortI l ↔ j ∈ l
  | [] => Iff.rfl
  | a :: r => by rw [sortI, insI_mem, sortI_mem j r, List.mem_cons]
theorem insI_asc (a : Int) : ∀ l : List Int, l.Pairwise (· < ·) → a ∉ l → (insI a l).Pairwise (· < ·)
  | [], _, _ => by simp [insI]
  | b :: r, h, n => by
    have hb := List.pairwise_cons.mp h
    have nb : a ≠ b := fun e => n (by rw [e]; exact List.mem_cons_self ..)
    rw [insI]
    split
    · rename_i z
      refine List.pairwise_cons.mpr ⟨fun x hx => ?_, h⟩
      rcases List.mem_cons.mp hx with rfl | hx
      · omega
      · have := hb.1 x hx; omega
    · refine List.pairwise_cons.mpr ⟨fun x hx => ?_, insI_asc a r hb.2 fun q => n (List.mem_cons_of_mem _ q)⟩
      rcases (insI_mem a x r).mp hx with rfl | hx
      · omega
      · exact hb.1 x hx
theorem sortI_asc : ∀ l : List Int, l.Nodup → (sortI l).Pairwise (· < ·)
  | [], _ => List.Pairwise.nil
  | a :: r, h => by
    have hn := List.nodup_cons.mp h
    exact insI_asc a _ (sortI_asc r hn.2) fun q => hn.1 ((sortI_mem a r).mp q)
theorem dd_mem (j : Int) : ∀ l : List Int, j ∈ ddup l ↔ j ∈ l
  | [] => Iff.rfl
  | a :: r => by
    have ih := dd_mem j r
    rw [ddup]
    split
    · rename_i h
      rw [ih, List.mem_cons]
      exact ⟨.inr, fun q => q.elim (fun e => e ▸ h) id⟩
    · rw [List.mem_cons, List.mem_cons, ih]
theorem dd_nd : ∀ l : List Int, (ddup l).Nodup
  | [] => List.nodup_nil
  | a :: r => by
    rw [ddup]
    split
    · exact dd_nd r
    · rename_i h
      exact List.nodup_cons.mpr ⟨fun q => h ((dd_mem a r).mp q), dd_nd r⟩
/-- two ascending lists of the same ints are one -/
theorem asc_ext : ∀ {a b : List Int}, a.Pairwise (· < ·) → b.Pairwise (· < ·) → (∀ x, x ∈ a ↔ x ∈ b) → a = b := fun {a b} ha hb h => by
  have pe : a.Perm b := (List.perm_ext_iff_of_nodup (ha.imp fun h => Int.ne_of_lt h) (hb.imp fun h => Int.ne_of_lt h)).mpr h
  exact List.Perm.eq_of_pairwise (fun x y _ _ h1 h2 => absurd h1 (by omega)) ha hb pe
/-- the hands of a weaving -/
def cameM (m : Nat) (W : List Nat) : List Nat := (List.range m).filter fun h => decide (h ∈ W)
theorem came_is {m : Nat} {W : List Nat} (h : ∀ x ∈ W, x < m) : sortI (ddup (W.map fun (h : Nat) => (h : Int))) = (cameM m W).map fun (h : Nat) => (h : Int) := by
  refine asc_ext (sortI_asc _ (dd_nd _)) ?_ fun x => ?_
  · refine List.Pairwise.map _ (fun a b (h : a < b) => ?_) (List.pairwise_lt_range.filter _)
    omega
  · rw [sortI_mem, dd_mem]
    simp only [List.mem_map, cameM, List.mem_filter, List.mem_range, decide_eq_true_eq]
    exact ⟨fun ⟨a, h1, h2⟩ => ⟨a, ⟨h a h1, h1⟩, h2⟩, fun ⟨a, ⟨_, h1⟩, h2⟩ => ⟨a, h1, h2⟩⟩
theorem cameM_len {m : Nat} {W : List Nat} : (cameM m W).length ≤ m := Nat.le_trans (List.length_filter_le _ _) (by simp)
theorem sortI_len : ∀ l : List Int, (sortI l).length = l.length := fun l => by
  have ins : ∀ (a : Int) (l : List Int), (insI a l).length = l.length + 1 := fun a l => by
    induction l with
    | nil => rfl
    | cons b r ih =>
      rw [insI]
      split
      · rfl
      · simp [ih]
  induction l with
  | nil => rfl
  | cons a r ih => rw [sortI, ins, ih, List.length_cons]
theorem t_law_came (n m : Nat) (W : List Nat) (d : D) (hW : IsW d W) (hm : m ≤ 5) (h : ∀ x ∈ W, x < m) (hl : W.length ≤ 4000) : callF prg (n + 1) 63 [d] = pure (eHands (cameM m W)) := by
  refine eq_pure fun w => ?_
  rw [c__law_came]
  have e := came_is h
  have le : (ddup (W.map fun (h : Nat) => (h : Int))).length < 64 := by
    rw [← sortI_len, e, List.length_map]
    have := cameM_len (m := m) (W := W)
    omega
  have s1 := srt_lst (W.map fun (h : Nat) => (h : Int)) (by simpa using hl) le
  have s2 := srt_tup (W.map fun (h : Nat) => (h : Int)) (by simpa using hl) le
  rw [e, List.map_map, List.map_map] at s1 s2
  have eh : D.tup ((cameM m W).map (D.int ∘ fun (h : Nat) => (h : Int))) = eHands (cameM m W) := rfl
  rcases hW with rfl | rfl
  · simp [f__law_came, Vz0, Vz1, Vz2, Vz3, Vz4, Vz5, kx, SZ, beq_self_eq_true, List.contains_cons, List.contains_nil]
    show wp (srtOf (.tup (W.map (D.int ∘ fun (h : Nat) => (h : Int))))) w _ _
    rw [s2]
    simp [Vz0, Vz1, Vz2, Vz3, Vz4, Vz5, kx, SZ, beq_self_eq_true, List.contains_cons, List.contains_nil]
    exact eh
  · simp [f__law_came, Vz0, Vz1, Vz2, Vz3, Vz4, Vz5, kx, SZ, beq_self_eq_true, List.contains_cons, List.contains_nil]
    show wp (srtOf (.lst (W.map (D.int ∘ fun (h : Nat) => (h : Int))))) w _ _
    rw [s1]
    simp [Vz0, Vz1, Vz2, Vz3, Vz4, Vz5, kx, SZ, beq_self_eq_true, List.contains_cons, List.contains_nil]
    exact eh
end K13

set_option maxRecDepth 100000
set_option maxHeartbeats 400000
namespace K13
open PySem Ev
/-! ### lots within lots -/
theorem allT {α : Type} (l : List α) : (l.all fun _ => true) = true := List.all_eq_true.mpr fun _ _ => rfl
theorem anyF {α : Type} (l : List α) : (l.any fun _ => false) = false := List.any_eq_false.mpr fun _ _ => by simp
/-- a tuple or list of ints -/
def IsI (d : D) (l : List Int) : Prop := d = .tup (l.map .int) ∨ d = .lst (l.map .int)
theorem IsI.der {d : D} {l : List Int} (h : IsI d l) : Ev.der d = pure d := by rcases h with rfl | rfl <;> rfl
theorem flat_isL (l : List Int) : (l.map D.int).all flatD = true := by
  rw [List.all_eq_true]
  intro x hx
  obtain ⟨i, _, rfl⟩ := List.mem_map.mp hx
  rfl
theorem IsI.isin {d : D} {l : List Int} (h : IsI d l) (x : Int) : cmpop .isin (.int x) d = pure (.bl (decide (x ∈ l))) := by
  rcases h with rfl | rfl
  · rw [c_int, flat_isL, hasD_isL]; rfl
  · rw [c_inl, shapes_isL, hasD_isL]; rfl
theorem isI_is (l : List Int) : IsI (eIs l) l := .inl rfl
/-! ### all that is told -/
def FlI (d : D) (xss : List (List D)) (w : Wd) (i : Nat) (e : Ev.Env) (w' : Wd) : Prop := w' = w ∧ ∃ j2, e = [.val d, .own (.lst (xss.take i).flatten), j2]
theorem flat_le (xss : List (List D)) (i : Nat) : (xss.take i).flatten.length ≤ xss.flatten.length := by
  have : xss.flatten = (xss.take i).flatten ++ (xss.drop i).flatten := by rw [← List.flatten_append, List.take_append_drop]
  rw [this, List.length_append]
  omega
theorem t_flat (n : Nat) (d : D) (xss : List (List D)) (dd : der d = pure d) (hd : itemsOf d = pure (xss.map .tup)) (hl : xss.flatten.length ≤ 100000) : callF prg (n + 1) 46 [d] = pure (.lst xss.flatten) := by
  refine eq_pure fun w => ?_
  rw [c_flat]
  simp [f_flat, Vz0, Vz1, Vz2, Vz3, Vz4, Vz5, kx, SZ, beq_self_eq_true, List.contains_cons, List.contains_nil, dd, hd]
  refine wp_forGo0 (FlI d xss w) ⟨rfl, _, rfl⟩ (fun i x e w' hx hi => ?_) fun e w' hi => ?_
  · obtain ⟨rfl, j2, rfl⟩ := hi
    rw [List.getElem?_map] at hx
    obtain ⟨xs, hxs, rfl⟩ := Option.map_eq_some_iff.mp hx
    have q := flat_le xss (i + 1)
    rw [List.take_succ, hxs] at q
    simp at q
    have hl3 : (xss.map List.length).sum ≤ 100000 := by simpa using hl
    simp [Vz0, Vz1, Vz2, Vz3, Vz4, Vz5, kx, SZ, beq_self_eq_true, List.contains_cons, List.contains_nil]
    refine ⟨_, ⟨by omega, rfl⟩, rfl, .val (.tup xs), ?_⟩
    rw [List.take_succ, hxs]
    simp
  · obtain ⟨rfl, j2, rfl⟩ := hi
    simp [Vz0, Vz1, Vz2, Vz3, Vz4, Vz5, kx, SZ, beq_self_eq_true, List.contains_cons, List.contains_nil]
theorem t_law_all (n : Nat) (d : D) (xss : List (List D)) (dd : der d = pure d) (hd : itemsOf d = pure (xss.map .tup)) (hl : xss.flatten.length ≤ 100000) : callF prg (n + 1) 64 [d] = pure (.lst xss.flatten) := by
  refine eq_pure fun w => ?_
  rw [c__law_all]
  simp [f__law_all, Vz0, Vz1, Vz2, Vz3, Vz4, Vz5, kx, SZ, beq_self_eq_true, List.contains_cons, List.contains_nil, dd, hd]
  refine wp_forGo0 (FlI d xss w) ⟨rfl, _, rfl⟩ (fun i x e w' hx hi => ?_) fun e w' hi => ?_
  · obtain ⟨rfl, j2, rfl⟩ := hi
    rw [List.getElem?_map] at hx
    obtain ⟨xs, hxs, rfl⟩ := Option.map_eq_some_iff.mp hx
    have q := flat_le xss (i + 1)
    rw [List.take_succ, hxs] at q
    simp at q
    have hl3 : (xss.map List.length).sum ≤ 100000 := by simpa using hl
    simp [Vz0, Vz1, Vz2, Vz3, Vz4, Vz5, kx, SZ, beq_self_eq_true, List.contains_cons, List.contains_nil]
    refine ⟨_, ⟨by omega, rfl⟩, rfl, .val (.tup xs), ?_⟩
    rw [List.take_succ, hxs]
    simp
  · obtain ⟨rfl, j2, rfl⟩ := hi
    simp [Vz0, Vz1, Vz2, Vz3, Vz4, Vz5, kx, SZ, beq_self_eq_true, List.contains_cons, List.contains_nil]
end K13

set_option maxRecDepth 100000
set_option maxHeartbeats 400000
namespace K13
open PySem Ev
/-! ### faults: the forms -/
theorem zipD_two {α β : Type} (f : α → D) (g : β → D) : ∀ (xs : List α) (ys : List β), zipD (xs.map f) (ys.map g) = (xs.zip ys).map fun p => .tup [f p.1, g p.2]
  | [], _ => by simp [zipD]
  | _ :: _, [] => by simp [zipD]
  | x :: xs, y :: ys => by
    have := zipD_two f g xs ys
    unfold zipD at this ⊢
    simp only [List.map_cons, List.zipWith_cons_cons, List.zip_cons_cons, this]
theorem asc_zip {α : Type} (R : α → α → Prop) : ∀ {l : List α}, l.Pairwise R → ∀ p ∈ l.zip (l.drop 1), R p.1 p.2
  | [], _ => fun p hp => by simp at hp
  | [x], _ => fun p hp => by simp at hp
  | x :: y :: l, h => fun p hp => by
    have hc := List.pairwise_cons.mp h
    simp only [List.drop_succ_cons, List.drop_zero, List.zip_cons_cons, List.mem_cons] at hp
    rcases hp with rfl | hp
    · exact hc.1 y (List.mem_cons_self ..)
    · exact asc_zip R hc.2 p (by simpa using hp)
theorem t_is_came (n : Nat) (k : Str) (i : D) (rs : List D) (came : List Nat) (h5 : rs.length ≤ 5) (ha : came.Pairwise (· < ·)) (hl : ∀ h ∈ came, h < rs.length) (hc : came.length ≤ 5) : callF prg (n + 5) 42 [ePo k i (.tup rs), eHands came] = pure (.bl true) := by
  refine eq_pure fun w => ?_
  rw [c_is_came]
  have q : ∀ h ∈ came, callF prg (n + 4) 11 [ePo k i (.tup rs), .int (h : Int)] = pure (.bl true) := fun h hh => by
    have := hl h hh
    rw [o_is_hand n, show decide (0 ≤ (h : Int) ∧ (h : Int) < rs.length) = true from by simp; omega]
  have zl : zipOf [.tup (nhs came), .tup ((nhs came).drop 1)] = pure ((came.zip (came.drop 1)).map fun p => .tup [.int (p.1 : Int), .int (p.2 : Int)]) := by
    unfold nhs
    rw [← List.map_drop]
    exact congrArg pure (zipD_two (fun (h : Nat) => D.int (h : Int)) (fun (h : Nat) => D.int (h : Int)) came (came.drop 1))
  have ll : (came.zip (came.drop 1)).length ≤ 5 := by simp; omega
  have lt := asc_zip (· < ·) ha
  generalize came.zip (came.drop 1) = zs at *
  have eh : eHands came = .tup (nhs came) := rfl
  have ln : (nhs came).length = came.length := by simp [nhs]
  have it : itemsOf (.tup (nhs came)) = pure (came.map fun (h : Nat) => D.int (h : Int)) := id rfl
  rw [eh]
  simp [f_is_came, Vz0, Vz1, Vz2, Vz3, Vz4, Vz5, kx, SZ, beq_self_eq_true, List.contains_cons, List.contains_nil, isas_t, we_isax, d_ePo, ln]
  refine ⟨by omega, ?_⟩
  show wp (lcGo _ _ _ _ (came.map fun (h : Nat) => D.int (h : Int))) w _ _
  refine wp_lc1 (fun (h : Nat) => D.int (h : Int)) (fun _ => .bl true) came (fun _ => rfl) (fun a ha => ?_) ?_
  · simp [Vz0, Vz1, Vz2, Vz3, Vz4, Vz5, kx, SZ, beq_self_eq_true, List.contains_cons, List.contains_nil, q a ha, d_ePo]
  · simp only [List.drop_one] at zl
    simp [Vz0, Vz1, Vz2, Vz3, Vz4, Vz5, kx, SZ, beq_self_eq_true, List.contains_cons, List.contains_nil, zl, allT]
    refine ⟨by omega, wp_lc1 (fun (p : Nat × Nat) => .tup [.int (p.1 : Int), .int (p.2 : Int)]) (fun _ => .bl true) zs (fun _ => rfl) (fun a ha => ?_) ?_⟩
    · have := lt a ha
      simp [Vz0, Vz1, Vz2, Vz3, Vz4, Vz5, kx, SZ, beq_self_eq_true, List.contains_cons, List.contains_nil, this]
    · simp [Vz0, Vz1, Vz2, Vz3, Vz4, Vz5, kx, SZ, beq_self_eq_true, List.contains_cons, List.contains_nil, allT]
/-- a play of no manner -/
def NoMn (k : Str) : Prop := hasD (.str k) [.str s12_sweep, .str s13_twice, .str s14_borrow] = false
theorem t_most_told (n : Nat) (k : Str) (i r h : D) (hk : NoMn k) : callF prg (n + 1) 44 [ePo k i r, h] = pure (.int 1) := by
  refine eq_pure fun w => ?_
  rw [c_most_told]
  unfold NoMn at hk
  simp [f_most_told, Vz0, Vz1, Vz2, Vz3, Vz4, Vz5, kx, SZ, beq_self_eq_true, List.contains_cons, List.contains_nil, d_ePo, q_kindO, hk]
def ItI (p d m : D) (w : Wd) (_ : Nat) (e : Ev.Env) (w' : Wd) : Prop := w' = w ∧ ∃ j3 j4, e = [.val p, .val d, .val m, j3, j4, .un]
theorem t_is_told (n : Nat) (k : Str) (i : D) (rs : List D) (told : List (Option D)) (hk : NoMn k) (h5 : rs.length ≤ 5) (hl : told.length = rs.length) (hd : ∀ d, some d ∈ told → der d = pure d) (hi : ∀ d, some d ∈ told → callF prg (n + 5) 43 [ePo k i (.tup rs), d] = pure (.bl true)) :
    callF prg (n + 6) 45 [ePo k i (.tup rs), .tup (told.map eT)] = pure (.bl true) := by
  refine eq_pure fun w => ?_
  rw [c_is_told]
  have s1 := t_is_sized (n + 4) (told.map eT) rs.length rs.length
  rw [show decide ((rs.length : Int) ≤ ((told.map eT).length : Int) ∧ ((told.map eT).length : Int) ≤ rs.length) = true from by simp [hl]] at s1
  have em : enumOf [.tup (told.map eT)] = pure (enumD (told.map eT)) := id rfl
  simp [f_is_told, Vz0, Vz1, Vz2, Vz3, Vz4, Vz5, kx, SZ, beq_self_eq_true, List.contains_cons, List.contains_nil, d_ePo, q_rowsO, s1, em]
  refine wp_forGo0 (ItI (ePo k i (.tup rs)) (.tup (told.map eT)) (.int rs.length) w) ⟨rfl, _, _, rfl⟩ (fun j x e w' hx hi2 => ?_) fun e w' hi2 => ?_
  · obtain ⟨rfl, j3, j4, rfl⟩ := hi2
    obtain ⟨o, ho, rfl⟩ := enumD_get hx
    have mt := fun h => t_most_told (n + 4) k i (.tup rs) h hk
    cases o with
    | none =>
      have s2 := t_is_sized (n + 4) [] 0 1
      simp at s2
      simp [Vz0, Vz1, Vz2, Vz3, Vz4, Vz5, kx, SZ, beq_self_eq_true, List.contains_cons, List.contains_nil, d_ePo, eT, mt, s2]
      refine ⟨rfl, _, _, rfl⟩
    | some d =>
      have s2 := t_is_sized (n + 4) [d] 0 1
      simp at s2
      have dm := List.mem_of_getElem? ho
      have dd := hd d dm
      have qi := hi d dm
      simp [Vz0, Vz1, Vz2, Vz3, Vz4, Vz5, kx, SZ, beq_self_eq_true, List.contains_cons, List.contains_nil, d_ePo, eT, mt, s2]
      refine wp_lc1 (α := D) id (fun _ => .bl true) [d] (fun _ => rfl) (fun a ha => ?_) ?_
      · rw [List.mem_singleton] at ha
        subst ha
        simp [Vz0, Vz1, Vz2, Vz3, Vz4, Vz5, kx, SZ, beq_self_eq_true, List.contains_cons, List.contains_nil, qi, dd, d_ePo]
      · simp [Vz0, Vz1, Vz2, Vz3, Vz4, Vz5, kx, SZ, beq_self_eq_true, List.contains_cons, List.contains_nil]
        exact ⟨rfl, _, _, rfl⟩
  · obtain ⟨rfl, j3, j4, rfl⟩ := hi2
    simp [Vz0, Vz1, Vz2, Vz3, Vz4, Vz5, kx, SZ, beq_self_eq_true, List.contains_cons, List.contains_nil]
end K13

set_option maxRecDepth 100000
set_option maxHeartbeats 400000
namespace K13
open PySem Ev
/-! ### runs led right -/
theorem KI.at_take {K : KI} {W : List Nat} {a : Nat} : ∀ i, i ≤ a → K.at (W.take a) i = K.at W i
  | 0, _ => rfl
  | i + 1, hi => by
    have e : (W.take a)[i]? = W[i]? := by rw [List.getElem?_take, if_pos (by omega)]
    rw [KI.at, KI.at, KI.at_take i (by omega), e]
theorem KI.wov_take {K : KI} {W : List Nat} (V : K.Wov W) (a : Nat) : K.Wov (W.take a) := fun i h hi => by
  rw [List.getElem?_take] at hi
  split at hi
  · rename_i q
    rw [KI.at_take i (by omega)]
    exact V i h hi
  · cases hi
theorem KI.x2 (K : KI) (g : K.G) : idxop (K.e g) (.int 2) = pure (K.T g) := by simp [KI.e, Vz0, Vz1, Vz2, Vz3, Vz4, Vz5, kx, SZ, beq_self_eq_true, List.contains_cons, List.contains_nil]
/-- the law's own machine of a kind, and what it finds -/
structure LD (K : KI) extends LK K where
  B : K.G → Nat
  hB : ∀ g h t, K.ok g → mvD (K.S g) = h :: t → B (K.st g h) < B g
  b0 : ∀ W, K.Wov W → B (K.at W W.length) < 2000
  dT : ∀ g, der (K.T g) = pure (K.T g)
  nd : ∀ W i, K.Wov W → NDS 5 (K.e (K.at W i))
  nxt : ∀ W i h, K.Wov W → h ∈ mvD (K.S (K.at W i)) → ∃ nx x, (K.S (K.at W i))[h]? = some x ∧ (∀ n : Nat, callF prg (n + 6) 29 [K.pl, .int (h : Int), x] = pure nx) ∧ (∀ n : Nat, callF prg (n + 1) 57 [kd, x] = pure nx) ∧ NDS 1 nx ∧ der nx = pure nx ∧ isIns nx = false
  flt : ∀ (n : Nat) W i, K.Wov W → i ≤ W.length → callF prg (n + 9) 49 [K.pl, eHands (cameM K.m (W.take i)), K.T (K.at W i)] = pure .non
  lflt : ∀ (n : Nat) W i, K.Wov W → i ≤ W.length → callF prg (n + 4) 65 [kd, rows, rd, eHands (cameM K.m (W.take i)), K.T (K.at W i)] = pure .non
theorem g_next_step (K : KI) (L : LD K) (W : List Nat) (i h : Nat) (V : K.Wov W) (hm : h ∈ mvD (K.S (K.at W i))) : ∃ nx x, (∀ n : Nat, callF prg (n + 7) 38 [K.pl, K.e (K.at W i), .int (h : Int)] = pure nx) ∧ (K.S (K.at W i))[h]? = some x ∧ (∀ n : Nat, callF prg (n + 1) 57 [L.kd, x] = pure nx) ∧ NDS 1 nx ∧ der nx = pure nx ∧ isIns nx = false := by
  obtain ⟨nx, x, h1, q1, q2, nd, dn, isn⟩ := L.nxt W i h V hm
  refine ⟨nx, x, fun n => eq_pure fun w => ?_, h1, q2, nd, dn, isn⟩
  rw [c_next_step]
  have hk := K.at_ok V i
  have hl := K.lt hk hm
  obtain ⟨s, h1', h2⟩ := mem_mvD.mp hm
  rw [h1] at h1'
  cases h1'
  obtain ⟨d1, d2⟩ := K.dS _ x hk (List.mem_of_getElem? h1)
  generalize K.at W i = g at *
  have e1 : callF prg (n + 5) 12 [K.pl, .int (h : Int)] = pure .non := by
    refine eq_pure fun w => ?_
    rw [c_check_hand]
    have q := K.hand n h
    rw [show decide (0 ≤ (h : Int) ∧ (h : Int) < K.m) = true from by simp; omega] at q
    simp [f_check_hand, Vz0, Vz1, Vz2, Vz3, Vz4, Vz5, kx, SZ, beq_self_eq_true, List.contains_cons, List.contains_nil, K.dp, q]
  have e2 : callF prg (n + 6) 36 [K.pl, K.e g, .int (h : Int)] = pure .non := by
    refine eq_pure fun w => ?_
    rw [c_check_step]
    simp [f_check_step, Vz0, Vz1, Vz2, Vz3, Vz4, Vz5, kx, SZ, beq_self_eq_true, List.contains_cons, List.contains_nil, K.dp, KI.d_e, KI.x1, e1, h1, d1, d2, h2]
  simp [f_next_step, Vz0, Vz1, Vz2, Vz3, Vz4, Vz5, kx, SZ, beq_self_eq_true, List.contains_cons, List.contains_nil, K.dp, KI.d_e, KI.x1, e2, h1, d1, q1]
theorem nd_hands {W : List Nat} (h : W.length ≤ 100000) : NDS 1 (eHands W) := by
  refine .tup (by simpa using h) fun x hx => ?_
  obtain ⟨i, _, rfl⟩ := List.mem_map.mp hx
  exact .int
theorem KI.stood_x {K : KI} {W : List Nat} {i : Nat} (h : i ≤ W.length) : L2.atI (K.stood W (W.length + 1)) (i : Int) = some (K.e (K.at W i)) := by
  have : (K.stood W (W.length + 1))[i]? = some (K.e (K.at W i)) := by
    unfold KI.stood
    rw [List.getElem?_map, List.getElem?_range (by omega)]
    rfl
  rw [atI_nat]
  exact this
theorem NDS.up : ∀ {m : Nat} {d : D}, NDS m d → NDS (m + 1) d
  | 0, _, h => .inl h
  | m + 1, d, h => by
    rcases h with h | ⟨xs, hd, hl, hx⟩
    · exact .inl h
    · exact .inr ⟨xs, hd, hl, fun x hh => NDS.up (hx x hh)⟩
theorem NDS.le {m k : Nat} {d : D} (h : NDS m d) (hk : m ≤ k) : NDS k d := by
  induction hk with
  | refl => exact h
  | step _ ih => exact ih.up
theorem lt_all {K : KI} {W : List Nat} (V : K.Wov W) : ∀ x ∈ W, x < K.m := fun x hx => by
  obtain ⟨i, hi⟩ := List.mem_iff_getElem?.mp hx
  exact K.lt (K.at_ok V i) (V i x hi)
def forB : S → Ss
  | .for _ _ b => b
  | _ => .nil
def bodyL : Ss := forB (hdS 2 f__law_led_right.body)
def innL : Ss := forB (hdS 4 bodyL)
def envL (K : KI) (L : LD K) (W : List Nat) (most : Nat) (j6 j9 j12 j13 : Ev.Slot) : Ev.Env := [.val (.cel 0), .val L.kd, .val L.rows, .val L.rd, .val K.pl, .val (.int (most : Int)), j6, .val (.lst (nhs W)), .val (.lst (K.stood W (W.length + 1))), j9, .un, .un, j12, j13]
section
variable (K : KI) (L : LD K) (n most : Nat) (W : List Nat)
theorem led_par (a : Nat) (ha : a ≤ W.length) (j9 j12 j13 : Ev.Slot) (z12 : zwS (some j12) = true) (z13 : zwS (some j13) = true) (w : Wd) (H : HandOk w) : wp (ex (cg (n + 9)) (hdS 0 bodyL) (envL K L W most (.val (.int (a : Int))) j9 j12 j13)) w
    (fun fl w' => ∃ e, fl = .nx e ∧ ∃ x, IsW x (W.take a) ∧ e = envL K L W most (.val (.int (a : Int))) j9 (.val (K.e (K.at W a))) (.val x) ∧ HandOk w') NoE := by
  have xa := KI.stood_x (K := K) (W := W) (i := a) ha
  simp [f__law_led_right, hdS, bodyL, forB, envL, Vz0, Vz1, Vz2, Vz3, Vz4, Vz5, kx, SZ, beq_self_eq_true, List.contains_cons, List.contains_nil, xa, parE, contD, cut_to, KI.d_e]
  refine t_some (n + 7) _ _ _ _ H (by simp) (by simp) fun x w2 hx H2 => ?_
  have e : (nhs W).take a = nhs (W.take a) := by simp [nhs]
  refine ⟨x, ?_, rfl, H2⟩
  simp [e] at hx
  rcases hx with rfl | rfl
  · exact .inr rfl
  · exact .inl rfl
theorem led_same (V : K.Wov W) (hl : W.length ≤ 900) (a : Nat) (ha : a ≤ W.length) (x : D) (hx : IsW x (W.take a)) (j9 : Ev.Slot) (w : Wd) : wp (ex (cg (n + 9)) (hdS 1 bodyL) (envL K L W most (.val (.int (a : Int))) j9 (.val (K.e (K.at W a))) (.val x))) w
    (fun fl w' => ∃ e, fl = .nx e ∧ e = envL K L W most (.val (.int (a : Int))) j9 (.val (K.e (K.at W a))) (.val x) ∧ w' = w) NoE := by
  have hk := K.at_ok V a
  have ltk : (W.take a).length = a := by rw [List.length_take]; omega
  have q1 := g_run K (n + 1) (W.take a) x (KI.wov_take V a) hx (by omega)
  rw [ltk, KI.at_take a (Nat.le_refl _)] at q1
  have q2 := g_can_step K (n + 7) K.pl (K.at W a) hk
  have q3 := K.t_left (n + 8) (K.at W a) hk
  have ml : (mvD (K.S (K.at W a))).length ≤ 5 := Nat.le_trans mvD_len (by rw [K.ln _ hk]; exact K.m5)
  have q4 := t_law_is 6 (n + 2) (.lst [K.e (K.at W a), eHands (mvD (K.S (K.at W a)))]) (.lst (by simp) fun y hy => by
    rcases List.mem_cons.mp hy with rfl | hy
    · exact L.nd W a V
    · rw [List.mem_singleton.mp hy]; exact (nd_hands (by omega)).le (by omega))
  have dx := hx.der
  simp [f__law_led_right, hdS, bodyL, forB, envL, Vz0, Vz1, Vz2, Vz3, Vz4, Vz5, kx, SZ, beq_self_eq_true, List.contains_cons, List.contains_nil, K.dp, KI.d_e, q1, q2, q3, q4, dx, d_eHands]
theorem led_flt (V : K.Wov W) (hl : W.length ≤ 900) (a : Nat) (ha : a ≤ W.length) (x : D) (hx : IsW x (W.take a)) (j9 : Ev.Slot) (w : Wd) : wp (ex (cg (n + 9)) (hdS 2 bodyL) (envL K L W most (.val (.int (a : Int))) j9 (.val (K.e (K.at W a))) (.val x))) w
    (fun fl w' => ∃ e, fl = .nx e ∧ e = envL K L W most (.val (.int (a : Int))) j9 (.val (K.e (K.at W a))) (.val x) ∧ w' = w) NoE := by
  have ltk : (W.take a).length = a := by rw [List.length_take]; omega
  have qc := t_law_came (n + 8) K.m (W.take a) x hx K.m5 (lt_all (KI.wov_take V a)) (by omega)
  have qf := L.flt n W a V ha
  have dx := hx.der
  have dT := L.dT (K.at W a)
  simp [f__law_led_right, hdS, bodyL, forB, envL, Vz0, Vz1, Vz2, Vz3, Vz4, Vz5, kx, SZ, beq_self_eq_true, List.contains_cons, List.contains_nil, K.dp, KI.d_e, KI.x2, qc, qf, dx, d_eHands, dT]
theorem led_lflt (V : K.Wov W) (hl : W.length ≤ 900) (a : Nat) (ha : a ≤ W.length) (x : D) (hx : IsW x (W.take a)) (j9 : Ev.Slot) (w : Wd) : wp (ex (cg (n + 9)) (hdS 3 bodyL) (envL K L W most (.val (.int (a : Int))) j9 (.val (K.e (K.at W a))) (.val x))) w
    (fun fl w' => ∃ e, fl = .nx e ∧ e = envL K L W most (.val (.int (a : Int))) j9 (.val (K.e (K.at W a))) (.val x) ∧ w' = w) NoE := by
  have ltk : (W.take a).length = a := by rw [List.length_take]; omega
  have qc := t_law_came (n + 8) K.m (W.take a) x hx K.m5 (lt_all (KI.wov_take V a)) (by omega)
  have qf := L.lflt (n + 5) W a V ha
  have dx := hx.der
  have dk := L.dk
  have dr := L.dr
  have drd := L.drd
  have dT := L.dT (K.at W a)
  simp [f__law_led_right, hdS, bodyL, forB, envL, Vz0, Vz1, Vz2, Vz3, Vz4, Vz5, kx, SZ, beq_self_eq_true, List.contains_cons, List.contains_nil, K.dp, KI.d_e, KI.x2, qc, qf, dx, d_eHands, dT, dk, dr, drd]
theorem led_steps (V : K.Wov W) (hl : W.length ≤ 900) (a : Nat) (ha : a ≤ W.length) (x : D) (hx : IsW x (W.take a)) (j9 : Ev.Slot) (w : Wd) : wp (ex (cg (n + 9)) (hdS 4 bodyL) (envL K L W most (.val (.int (a : Int))) j9 (.val (K.e (K.at W a))) (.val x))) w
    (fun fl w' => ∃ e, fl = .nx e ∧ (∃ j9, e = envL K L W most (.val (.int (a : Int))) j9 (.val (K.e (K.at W a))) (.val x)) ∧ w' = w) NoE := by
  have hk := K.at_ok V a
  have q3 := K.t_left (n + 8) (K.at W a) hk
  have dk := L.dk
  have dr := L.dr
  have drd := L.drd
  have it : itemsOf (eHands (mvD (K.S (K.at W a)))) = pure ((mvD (K.S (K.at W a))).map fun (h : Nat) => D.int (h : Int)) := id rfl
  simp [f__law_led_right, hdS, bodyL, forB, envL, Vz0, Vz1, Vz2, Vz3, Vz4, Vz5, kx, SZ, beq_self_eq_true, List.contains_cons, List.contains_nil, KI.d_e, q3, d_eHands, it]
  refine wp_forGo0 (fun _ e w' => (∃ j9, e = envL K L W most (.val (.int (a : Int))) j9 (.val (K.e (K.at W a))) (.val x)) ∧ w' = w) ⟨⟨_, rfl⟩, rfl⟩ (fun i d e w' hd hi => ?_) fun e w' hi => ?_
  · obtain ⟨⟨j9, rfl⟩, rfl⟩ := hi
    rw [List.getElem?_map] at hd
    obtain ⟨h, hh, rfl⟩ := Option.map_eq_some_iff.mp hd
    have hm := List.mem_of_getElem? hh
    obtain ⟨nx, y, q1, h1, q2, nd, dn, isn⟩ := g_next_step K L W a h V hm
    have q1 := q1 (n + 2)
    have q2 := q2 (n + 8)
    obtain ⟨d1, d2⟩ := K.dS _ y hk (List.mem_of_getElem? h1)
    have q4 := t_law_is 2 (n + 6) (.lst [nx]) (.lst (by simp) fun y hy => by rw [List.mem_singleton.mp hy]; exact nd)
    have q5 := g_step K (n + 2) (K.at W a) h hk hm
    have q6 := L.moved (n + 7) W a h V ha hm
    have nds : NDS 5 (K.e (K.st (K.at W a) h)) := by
      have V2 : K.Wov (W.take a ++ [h]) := KI.wov_app (KI.wov_take V a) (by rw [List.length_take, Nat.min_eq_left ha, KI.at_take a (Nat.le_refl _)]; exact hm)
      have := L.nd _ (W.take a ++ [h]).length V2
      rw [KI.at_snoc, List.length_take, Nat.min_eq_left ha, KI.at_take a (Nat.le_refl _)] at this
      exact this
    have q7 := t_law_is 5 (n + 3) _ nds
    simp [envL, Vz0, Vz1, Vz2, Vz3, Vz4, Vz5, kx, SZ, beq_self_eq_true, List.contains_cons, List.contains_nil, K.dp, KI.d_e, KI.x1, q1, q2, h1, d1, dn, isn, q4, q5, q6, q7, dk, dr, drd]
  · obtain ⟨⟨j9, rfl⟩, rfl⟩ := hi
    exact ⟨_, rfl, ⟨_, rfl⟩, rfl⟩
end
end K13

set_option maxRecDepth 100000
set_option maxHeartbeats 400000
namespace K13
open PySem Ev
/-! ### runs led right: joined -/
section
variable (K : KI) (L : LD K) (n most : Nat) (W : List Nat)
def LrI (e : Ev.Env) (w' : Wd) : Prop := HandOk w' ∧ ∃ j6 j9 j12 j13 : Ev.Slot, zwS (some j12) = true ∧ zwS (some j13) = true ∧ e = envL K L W most j6 j9 j12 j13
theorem wp_one {C : Cfg} {s : S} {e : Ev.Env} {w : Wd} {Q : Fl → Wd → Prop} {E : EK} (h : wp (ex C s e) w (fun f w' => ∃ e', f = .nx e' ∧ Q (.nx e') w') NoE) : wp (exs C (.cons s .nil) e) w Q E :=
  wp_seq (fun e' w' => Q (.nx e') w') h fun e' w' h => by
    show wp (pure (.nx e')) w' Q E
    rw [wp_pure]
    exact h
theorem led_body (V : K.Wov W) (hl : W.length ≤ 900) (a : Nat) (ha : a ≤ W.length) (j9 j12 j13 : Ev.Slot) (z12 : zwS (some j12) = true) (z13 : zwS (some j13) = true) (w : Wd) (H : HandOk w) : wp (exs (cg (n + 9)) bodyL (envL K L W most (.val (.int (a : Int))) j9 j12 j13)) w
    (fun fl w' => ∃ e, fl = .nx e ∧ LrI K L most W e w') NoE := by
  show wp (exs (cg (n + 9)) (.cons (hdS 0 bodyL) (.cons (hdS 1 bodyL) (.cons (hdS 2 bodyL) (.cons (hdS 3 bodyL) (.cons (hdS 4 bodyL) .nil))))) _) w _ _
  refine wp_seq (fun e w' => ∃ x, IsW x (W.take a) ∧ e = envL K L W most (.val (.int (a : Int))) j9 (.val (K.e (K.at W a))) (.val x) ∧ HandOk w') (led_par K L n most W a ha j9 j12 j13 z12 z13 w H) ?_
  rintro e w2 ⟨x, hx, rfl, H2⟩
  refine wp_seq (fun e w' => e = envL K L W most (.val (.int (a : Int))) j9 (.val (K.e (K.at W a))) (.val x) ∧ w' = w2) (led_same K L n most W V hl a ha x hx j9 w2) ?_
  rintro e w3 ⟨rfl, rfl⟩
  refine wp_seq (fun e w' => e = envL K L W most (.val (.int (a : Int))) j9 (.val (K.e (K.at W a))) (.val x) ∧ w' = w3) (led_flt K L n most W V hl a ha x hx j9 w3) ?_
  rintro e w4 ⟨rfl, rfl⟩
  refine wp_seq (fun e w' => e = envL K L W most (.val (.int (a : Int))) j9 (.val (K.e (K.at W a))) (.val x) ∧ w' = w4) (led_lflt K L n most W V hl a ha x hx j9 w4) ?_
  rintro e w5 ⟨rfl, rfl⟩
  refine wp_one (wp_mq (led_steps K L n most W V hl a ha x hx j9 w5) fun fl w' ⟨e, h1, ⟨j, h2⟩, h3⟩ => ⟨e, h1, e, rfl, ?_⟩)
  subst h2 h3
  exact ⟨H2, _, _, _, _, rfl, rfl, rfl⟩
theorem led_loop (V : K.Wov W) (hl : W.length ≤ 900) (w : Wd) (H : HandOk w) : wp (ex (cg (n + 9)) (hdS 2 f__law_led_right.body) (envL K L W most .un .un .un .un)) w (fun fl w' => ∃ e, fl = .nx e ∧ LrI K L most W e w') NoE := by
  have l1 : (nhs W).length = W.length := by simp [nhs]
  have eb : ∀ e, exs (cg (n + 9)) (forB (hdS 2 f__law_led_right.body)) e = exs (cg (n + 9)) bodyL e := fun _ => rfl
  simp only [f__law_led_right, hdS, envL, Vz0, Vz1, Vz2, Vz3, Vz4, Vz5, kx, SZ, beq_self_eq_true, List.contains_cons, List.contains_nil]
  simp [Vz0, Vz1, Vz2, Vz3, Vz4, Vz5, kx, SZ, beq_self_eq_true, List.contains_cons, List.contains_nil]
  refine t_draw (n + 8) _ _ _ _ H (by omega) (by omega) fun r1 w3 hr1 H3 => ?_
  refine t_draw (n + 8) _ _ _ _ H3 (by omega) (by omega) fun r2 w4 hr2 H4 => ?_
  refine wp_forGo0 (fun _ e w' => LrI K L most W e w') ⟨H4, _, _, _, _, rfl, rfl, rfl⟩ (fun i d e w' hd hi => ?_) fun e w' hi => ?_
  · obtain ⟨H5, j6, j9, j12, j13, z12, z13, rfl⟩ := hi
    obtain ⟨a, rfl, ha⟩ : ∃ a : Nat, d = .int (a : Int) ∧ a ≤ W.length := by
      have := List.mem_of_getElem? hd
      simp at this
      rcases this with rfl | rfl | rfl
      · exact ⟨_, rfl, by omega⟩
      · exact ⟨_, rfl, by omega⟩
      · exact ⟨_, rfl, by omega⟩
    refine ⟨envL K L W most (.val (.int (a : Int))) j9 j12 j13, rfl, ?_⟩
    refine wp_mq (led_body K L n most W V hl a ha j9 j12 j13 z12 z13 w' H5) fun fl w2 ⟨e, h1, h2⟩ => ?_
    subst h1
    exact h2
  · exact ⟨e, rfl, hi⟩
theorem led_tail (V : K.Wov W) (hl : W.length ≤ 900) (j6 j9 j12 j13 : Ev.Slot) (w : Wd) (H : HandOk w) (Q : D → Wd → Prop) (hq : ∀ U w', K.Wov U → mvD (K.S (K.at U U.length)) = [] → HandOk w' → Q (K.e (K.at U U.length)) w') :
    wp (exs (cg (n + 9)) (tlS 3 f__law_led_right.body) (envL K L W most j6 j9 j12 j13)) w (endK Q NoE) NoE := by
  have dk := L.dk
  have dr := L.dr
  have drd := L.drd
  have sl : L2.atI (K.stood W (W.length + 1)) (-1) = some (K.e (K.at W W.length)) := KI.stood_last
  have b0 := L.b0 W V
  simp [f__law_led_right, tlS, envL, Vz0, Vz1, Vz2, Vz3, Vz4, Vz5, kx, SZ, beq_self_eq_true, List.contains_cons, List.contains_nil, dk, dr, drd, sl]
  refine law_whole K L.toLK L.B L.hB (n + 6) W V (by omega) b0 w _ _ fun U VU g ov => ?_
  simp [Vz0, Vz1, Vz2, Vz3, Vz4, Vz5, kx, SZ, beq_self_eq_true, List.contains_cons, List.contains_nil, K.dp, dk, dr, drd, KI.d_e, d_eHands]
  refine p_run_out K L.B L.hB n W (.lst (nhs W)) (.inr rfl) V (by omega) w _ _ fun U2 VU2 g2 ov2 l2 => ?_
  have eU := g2.one g ov2 ov
  subst eU
  have q1 := t_law_is 1 (n + 7) (eHands U2) (nd_hands (by omega))
  have q2 := g_run K (n + 1) U2 (eHands U2) VU2 (.inl rfl) (by omega)
  have q3 := t_law_is 5 (n + 3) (K.e (K.at U2 U2.length)) (L.nd U2 _ VU2)
  have q4 := t_law_came (n + 8) K.m U2 (eHands U2) (.inl rfl) K.m5 (lt_all VU2) (by omega)
  have q5 := L.lflt (n + 5) U2 U2.length VU2 (Nat.le_refl _)
  rw [List.take_length] at q5
  have dT := L.dT (K.at U2 U2.length)
  simp [Vz0, Vz1, Vz2, Vz3, Vz4, Vz5, kx, SZ, beq_self_eq_true, List.contains_cons, List.contains_nil, K.dp, dk, dr, drd, KI.d_e, KI.x2, d_eHands, q1, q2, q3, q4, q5, dT]
  exact hq U2 w VU2 ov2 H
end
theorem led_right (K : KI) (L : LD K) (n most : Nat) (hm : most ≤ 900) (w : Wd) (Q : D → Wd → Prop) (E : EK) (H : HandOk w) (hq : ∀ U w', K.Wov U → mvD (K.S (K.at U U.length)) = [] → HandOk w' → Q (K.e (K.at U U.length)) w') :
    wp (callF prg (n + 10) 66 [.cel 0, L.kd, L.rows, L.rd, K.pl, .int (most : Int)]) w Q E := by
  have dk := L.dk
  have dr := L.dr
  have drd := L.drd
  rw [c__law_led_right, wp_endF]
  show wp (exs (cg (n + 9)) (.cons (hdS 0 f__law_led_right.body) (.cons (hdS 1 f__law_led_right.body) (.cons (hdS 2 f__law_led_right.body) (tlS 3 f__law_led_right.body)))) _) w _ _
  refine wp_seq (fun e w' => ∃ W, K.Wov W ∧ W.length ≤ 900 ∧ HandOk w' ∧ e = envL K L W most .un .un .un .un) ?_ ?_
  · simp [f__law_led_right, hdS, Vz0, Vz1, Vz2, Vz3, Vz4, Vz5, kx, SZ, beq_self_eq_true, List.contains_cons, List.contains_nil, dk, dr, drd]
    refine law_woven K L.toLK (n + 6) most hm w _ _ H fun W w2 V hl H2 => ?_
    simp [Vz0, Vz1, Vz2, Vz3, Vz4, Vz5, kx, SZ, beq_self_eq_true, List.contains_cons, List.contains_nil]
    exact ⟨W, V, by omega, H2, rfl⟩
  rintro e w2 ⟨W, V, hl, H2, rfl⟩
  have x0 : L2.atI (K.stood W (W.length + 1)) 0 = some (K.e K.g0) := KI.stood_x (K := K) (W := W) (i := 0) (by omega)
  have q1 := g_first K (n + 4)
  have q2 := t_law_is 5 (n + 3) (K.e K.g0) (L.nd W 0 V)
  refine wp_seq (fun e w' => e = envL K L W most .un .un .un .un ∧ w' = w2) ?_ ?_
  · simp [f__law_led_right, hdS, envL, Vz0, Vz1, Vz2, Vz3, Vz4, Vz5, kx, SZ, beq_self_eq_true, List.contains_cons, List.contains_nil, x0, q1, q2, K.dp, KI.d_e]
  rintro e w3 ⟨rfl, rfl⟩
  refine wp_seq (LrI K L most W) (led_loop K L n most W V hl w3 H2) ?_
  rintro e w4 ⟨H4, j6, j9, j12, j13, z12, z13, rfl⟩
  refine wp_mono (led_tail K L n most W V hl j6 j9 j12 j13 w4 H4 Q hq) (fun fl w' h => ?_) fun c x w' h => h.elim
  cases fl <;> first | exact h | exact h.elim
end K13

set_option maxRecDepth 100000
set_option maxHeartbeats 400000
namespace K13
open PySem Ev
theorem insI_le (a : Int) : ∀ l : List Int, l.Pairwise (· ≤ ·) → (insI a l).Pairwise (· ≤ ·)
  | [], _ => by simp [insI]
  | b :: r, h => by
    have hb := List.pairwise_cons.mp h
    rw [insI]
    split
    · rename_i z
      refine List.pairwise_cons.mpr ⟨fun x hx => ?_, h⟩
      rcases List.mem_cons.mp hx with rfl | hx
      · omega
      · have := hb.1 x hx; omega
    · refine List.pairwise_cons.mpr ⟨fun x hx => ?_, insI_le a r hb.2⟩
      rcases (insI_mem a x r).mp hx with rfl | hx
      · omega
      · exact hb.1 x hx
theorem sortI_le : ∀ l : List Int, (sortI l).Pairwise (· ≤ ·)
  | [] => List.Pairwise.nil
  | a :: r => insI_le a _ (sortI_le r)
/-! ### new names: the law's rank and wish, in plain Lean -/
theorem zip_range (cells : List LC) : cells.zipIdx = (List.range cells.length).map fun j => (cells.getD j none, j) := by
  refine List.ext_getElem (by simp) fun i a b => ?_
  have h : i < cells.length := by simpa using a
  simp [List.getElem?_eq_getElem h]
theorem others_range (cells : List LC) (h : Nat) : ((List.range cells.length).filter fun j => decide (j ≠ h) && (cells.getD j none).isSome).map (fun j => ((cells.getD j none).getD (0, 0)).2) = wishedM cells h := by
  unfold wishedM others
  rw [zip_range, List.filter_map, List.map_map]
  rfl
def stepI (w x : Int) : Int := if x = w then w + 1 else w
theorem skip_none : ∀ (s : List Int) (a : Int), (∀ x ∈ s, a < x) → s.foldl stepI a = a
  | [], _, _ => rfl
  | x :: s, a, h => by
    have h0 := h x (List.mem_cons_self ..)
    have e : stepI a x = a := by unfold stepI; rw [if_neg (by omega)]
    rw [List.foldl_cons, e]
    exact skip_none s a fun y hy => h y (List.mem_cons_of_mem _ hy)
theorem skip_spec : ∀ (s : List Int) (a : Int), s.Pairwise (· ≤ ·) → a ≤ s.foldl stepI a ∧ s.foldl stepI a ∉ s ∧ ∀ y, a ≤ y → y < s.foldl stepI a → y ∈ s
  | [], a, _ => by
    refine ⟨by simp, by simp, fun y h1 h2 => ?_⟩
    simp only [List.foldl_nil] at h2
    omega
  | x :: s, a, h => by
    have hc := List.pairwise_cons.mp h
    rw [List.foldl_cons]
    by_cases e : x = a
    · have e1 : stepI a x = a + 1 := by unfold stepI; rw [if_pos e]
      obtain ⟨q1, q2, q3⟩ := skip_spec s (a + 1) hc.2
      rw [e1]
      generalize s.foldl stepI (a + 1) = r at *
      refine ⟨by omega, fun hm => ?_, fun y h1 h2 => ?_⟩
      · rcases List.mem_cons.mp hm with z | z
        · omega
        · exact q2 z
      · by_cases ey : y = a
        · rw [ey, ← e]; exact List.mem_cons_self ..
        · exact List.mem_cons_of_mem _ (q3 y (by omega) h2)
    · have e1 : stepI a x = a := by unfold stepI; rw [if_neg e]
      rw [e1]
      by_cases lt : x < a
      · obtain ⟨q1, q2, q3⟩ := skip_spec s a hc.2
        generalize s.foldl stepI a = r at *
        refine ⟨q1, fun hm => ?_, fun y h1 h2 => List.mem_cons_of_mem _ (q3 y h1 h2)⟩
        rcases List.mem_cons.mp hm with z | z
        · omega
        · exact q2 z
      · rw [skip_none s a fun y hy => by have := hc.1 y hy; omega]
        refine ⟨Int.le_refl _, fun hm => ?_, fun y h1 h2 => by omega⟩
        rcases List.mem_cons.mp hm with z | z
        · omega
        · have := hc.1 a z; omega
def frB (w : List Int) (i : Nat) : Bool := decide ((1 + (i : Int)) ∉ w)
def nextW (s : List Int) : Nat → Int
  | 0 => 0
  | k + 1 => s.foldl stepI (nextW s k + 1)
theorem range_cnt (p : Nat → Bool) (a : Nat) : ∀ d, (∀ i, a ≤ i → i < a + d → p i = false) → (List.range (a + d)).countP p = (List.range a).countP p
  | 0, _ => rfl
  | d + 1, h => by
    rw [show a + (d + 1) = (a + d) + 1 from by omega, List.range_succ, List.countP_append, range_cnt p a d fun i h1 h2 => h i h1 (by omega)]
    simp [h (a + d) (by omega) (by omega)]
theorem next_cnt (s : List Int) (hs : s.Pairwise (· ≤ ·)) : ∀ k, ∃ r : Nat, nextW s k = (r : Int) ∧ (List.range r).countP (frB s) = k ∧ (k ≠ 0 → ∃ i, r = i + 1 ∧ frB s i = true)
  | 0 => ⟨0, rfl, rfl, fun h => absurd rfl h⟩
  | k + 1 => by
    obtain ⟨r, e, c, _⟩ := next_cnt s hs k
    obtain ⟨q1, q2, q3⟩ := skip_spec s (nextW s k + 1) hs
    have en : nextW s (k + 1) = s.foldl stepI (nextW s k + 1) := rfl
    rw [← en] at q1 q2 q3
    generalize nextW s (k + 1) = R at *
    rw [e] at q1 q3
    obtain ⟨d, hd⟩ : ∃ d : Nat, R = ((r + d + 1 : Nat) : Int) := ⟨(R - r - 1).toNat, by omega⟩
    subst hd
    have fr : frB s (r + d) = true := by
      unfold frB
      rw [decide_eq_true_eq]
      have : (1 : Int) + ((r + d : Nat) : Int) = ((r + d + 1 : Nat) : Int) := by omega
      rw [this]
      exact q2
    refine ⟨r + d + 1, rfl, ?_, fun _ => ⟨r + d, rfl, fr⟩⟩
    rw [List.range_succ, List.countP_append, range_cnt (frB s) r d fun i h1 h2 => ?_, c]
    · simp [fr]
    · unfold frB
      rw [decide_eq_false_iff_not]
      exact fun q => q (q3 _ (by omega) (by omega))
theorem kth (p : Nat → Bool) {N i : Nat} (hi : i < N) (hp : p i = true) : ((List.range N).filter p)[(List.range i).countP p]? = some i := by
  obtain ⟨d, rfl⟩ : ∃ d, N = (i + 1) + d := ⟨N - (i + 1), by omega⟩
  rw [List.range_add, List.range_succ, List.filter_append, List.filter_append, List.filter_cons_of_pos hp, List.countP_eq_length_filter]
  simp
theorem cnt_mono (p : Nat → Bool) {a b : Nat} (h : a ≤ b) : (List.range a).countP p ≤ (List.range b).countP p := by
  obtain ⟨d, rfl⟩ : ∃ d, b = a + d := ⟨b - a, by omega⟩
  rw [List.range_add, List.countP_append]
  omega
theorem next_free {m k : Nat} {w s : List Int} (hs : s.Pairwise (· ≤ ·)) (hm : ∀ x, x ∈ s ↔ x ∈ w) (hk : k < (freeM m w).length) : nextW s (k + 1) = 1 + (((freeM m w).getD k 0 : Nat) : Int) ∧ (List.range ((freeM m w).getD k 0)).countP (frB w) = k := by
  have ef : frB s = frB w := by
    funext i
    unfold frB
    exact decide_eq_decide.mpr (not_congr (hm _))
  obtain ⟨r, e, c, q⟩ := next_cnt s hs (k + 1)
  obtain ⟨i, rfl, fi⟩ := q (by omega)
  rw [ef] at c fi
  have ck : (List.range i).countP (frB w) = k := by
    rw [List.range_succ, List.countP_append] at c
    simp [fi] at c
    exact c
  have il : i < 2 * m := by
    rcases Nat.lt_or_ge i (2 * m) with h | h
    · exact h
    · have q := cnt_mono (frB w) h
      have : (freeM m w).length = (List.range (2 * m)).countP (frB w) := List.countP_eq_length_filter.symm
      omega
  have g : (freeM m w)[k]? = some i := by
    have q := kth (frB w) il fi
    rw [ck] at q
    exact q
  have gd : (freeM m w).getD k 0 = i := by simp [List.getD, g]
  rw [gd, e]
  refine ⟨by omega, ck⟩
theorem plc_sorted (k : Int) : ∀ s : List Int, s.Pairwise (· ≤ ·) → k ∈ s → plcI k s = some (s.countP fun x => decide (x < k))
  | [], _, h => by cases h
  | a :: s, h, hm => by
    have hc := List.pairwise_cons.mp h
    rw [plcI]
    by_cases e : a = k
    · have z : (a :: s).countP (fun x => decide (x < k)) = 0 := by
        rw [List.countP_eq_zero]
        intro x hx
        rcases List.mem_cons.mp hx with q | q
        · simp; omega
        · have := hc.1 x q; simp; omega
      rw [if_pos e, z]
    · have hm2 : k ∈ s := by
        rcases List.mem_cons.mp hm with q | q
        · exact absurd q.symm e
        · exact q
      have lt : a < k := by have := hc.1 k hm2; omega
      rw [if_neg e, plc_sorted k s hc.2 hm2, List.countP_cons]
      simp [lt]
theorem insI_cnt (p : Int → Bool) (a : Int) : ∀ l : List Int, (insI a l).countP p = (a :: l).countP p
  | [] => rfl
  | b :: l => by
    rw [insI]
    split
    · rfl
    · rw [List.countP_cons, insI_cnt p a l]
      simp only [List.countP_cons]
      omega
theorem sortI_cnt (p : Int → Bool) : ∀ l : List Int, (sortI l).countP p = l.countP p
  | [] => rfl
  | a :: l => by rw [sortI, insI_cnt, List.countP_cons, List.countP_cons, sortI_cnt p l]
def oldsM (cells : List LC) : List Int := (cells.filter fun c => c.isSome).map fun c => (c.getD (0, 0)).1
theorem olds_rank (cells : List LC) (own : Int) : (oldsM cells).countP (fun x => decide (x < own)) = rankM cells own := by
  unfold oldsM rankM
  rw [List.countP_map, List.countP_filter, ← List.countP_eq_length_filter]
  refine List.countP_congr fun c _ => ?_
  cases c <;> simp [isLess]
theorem olds_mem {cells : List LC} {h : Nat} {own v : Int} (hc : cells[h]? = some (some (own, v))) : own ∈ oldsM cells :=
  List.mem_map.mpr ⟨_, List.mem_filter.mpr ⟨List.mem_of_getElem? hc, rfl⟩, rfl⟩
theorem plc_olds {cells : List LC} {h : Nat} {own v : Int} (hc : cells[h]? = some (some (own, v))) : plcI own (sortI (oldsM cells)) = some (rankM cells own) := by
  rw [plc_sorted own _ (sortI_le _) ((sortI_mem own _).mpr (olds_mem hc)), sortI_cnt, olds_rank]
theorem next_wish {cells : List LC} {h : Nat} {own v : Int} (hc : cells[h]? = some (some (own, v))) : nextW (sortI (wishedM cells h)) (rankM cells own + 1) = wishM cells h own :=
  (next_free (sortI_le _) (fun x => sortI_mem x _) (free_rank hc)).1
/-! ### new names: how great a wish can be -/
theorem cnt_le {α : Type} {p q : α → Bool} : ∀ {a : List α}, (∀ x ∈ a, p x = true → q x = true) → a.countP p ≤ a.countP q := fun {a} h => List.countP_mono_left h
theorem cnt_lt {α : Type} {p q : α → Bool} : ∀ {a : List α}, (∀ x ∈ a, p x = true → q x = true) → ∀ x ∈ a, p x = false → q x = true → a.countP p < a.countP q
  | [], _, x, hx, _, _ => by cases hx
  | y :: a, h, x, hx, hp, hq => by
    have h0 := h y (List.mem_cons_self ..)
    have h2 : ∀ x ∈ a, p x = true → q x = true := fun x hx => h x (List.mem_cons_of_mem _ hx)
    have le := cnt_le h2
    rw [List.countP_cons, List.countP_cons]
    rcases List.mem_cons.mp hx with rfl | hx
    · rw [hp, hq]
      simp
      omega
    · have ih := cnt_lt h2 x hx hp hq
      cases py : p y with
      | false => simp; split <;> omega
      | true => rw [h0 py]; simp; exact ih
/-- how many cells hold something -/
def cP (cells : List LC) : Nat := cells.countP fun c => c.isSome
theorem rank_cP {cells : List LC} {h : Nat} {own v : Int} (hc : cells[h]? = some (some (own, v))) : rankM cells own + 1 ≤ cP cells := by
  unfold rankM cP
  rw [← List.countP_eq_length_filter]
  exact cnt_lt (fun x _ hx => by cases x with | none => cases hx | some p => rfl) _ (List.mem_of_getElem? hc) (by simp [isLess]) rfl
theorem wished_cP {cells : List LC} {h : Nat} {own v : Int} (hc : cells[h]? = some (some (own, v))) : (wishedM cells h).length + 1 ≤ cP cells := by
  unfold wishedM others cP
  rw [List.length_map, ← List.countP_eq_length_filter]
  have e : cells.countP (fun c => c.isSome) = cells.zipIdx.countP fun p => p.1.isSome := by
    have q := List.countP_map (p := fun c : LC => c.isSome) (f := fun p : LC × Nat => p.1) (l := cells.zipIdx)
    rw [show (cells.zipIdx.map fun p : LC × Nat => p.1) = cells from List.zipIdx_map_fst 0 cells] at q
    exact q
  rw [e]
  exact cnt_lt (fun x _ hx => by simp at hx; exact hx.2) (some (own, v), h) (List.mem_zipIdx_iff_getElem?.mpr hc) (by simp) rfl
theorem wish_le {cells : List LC} {h : Nat} {own v : Int} (hc : cells[h]? = some (some (own, v))) : 1 ≤ wishM cells h own ∧ wishM cells h own + 1 ≤ 2 * (cP cells : Int) := by
  obtain ⟨_, q⟩ := next_free (m := cells.length) (sortI_le _) (fun x => sortI_mem x (wishedM cells h)) (free_rank hc)
  have a := rank_cP hc
  have b := wished_cP hc
  have c := free_len (List.range ((freeM cells.length (wishedM cells h)).getD (rankM cells own) 0)) List.nodup_range (wishedM cells h)
  rw [← List.countP_eq_length_filter, List.length_range] at c
  have q2 : (List.range ((freeM cells.length (wishedM cells h)).getD (rankM cells own) 0)).countP (fun (i : Nat) => decide ((1 + (i : Int)) ∉ wishedM cells h)) = rankM cells own := q
  rw [q2] at c
  unfold wishM
  generalize (freeM cells.length (wishedM cells h)).getD (rankM cells own) 0 = i at *
  omega
end K13

set_option maxRecDepth 100000
set_option maxHeartbeats 400000
namespace K13
open PySem Ev
/-! ### new names: the law's machine is the program's -/
def lnE (a b c d : D) (w : Int) (tk : List Int) (rk : Nat) (j7 j9 : Ev.Slot) : Ev.Env := [.val a, .val b, .val c, .val d, .val (.lst (tk.map .int)), .val (.int (rk : Int)), .val (.int w), j7, .val (.bl true), j9, .un]
def LnO (a b c d : D) (tk : List Int) (rk : Nat) (w : Wd) (i : Nat) (e : Ev.Env) (w' : Wd) : Prop := w' = w ∧ ∃ j7 j9 : Ev.Slot, e = lnE a b c d (nextW (sortI tk) i) tk rk j7 j9
def LnJ (a b c d : D) (tk : List Int) (rk : Nat) (w0 : Int) (j7 : Ev.Slot) (w : Wd) (i : Nat) (e : Ev.Env) (w' : Wd) : Prop := w' = w ∧ ∃ j9 : Ev.Slot, e = lnE a b c d (((sortI tk).take i).foldl stepI w0) tk rk j7 j9
theorem t_law_name (n h : Nat) (rows : List Int) (cells : List LC) (s : MS) (own : Int) (hr : rows[h]? = some own) (hc : s.put = true → ∃ v, cells[h]? = some (some (own, v))) (h5 : cells.length ≤ 5) :
    callF prg (n + 1) 58 [eRw rows, eLcs cells, .int (h : Int), eMS s] = pure (.tup [eO eLC (aftM rows h cells s).1, eO eMS (aftM rows h cells s).2.1, eO id (aftM rows h cells s).2.2]) := by
  refine eq_pure fun w => ?_
  rw [c__law_name]
  unfold aftM
  have dv : der (eRw rows) = pure (eRw rows) := id rfl
  have ds : der (eMS s) = pure (eMS s) := id rfl
  have bs : ∀ ts e, bindTg (.t ts) (eMS s) e = bindTg.go ts [.int s.wish, .bl s.put] e := fun ts e => by rw [eMS, bi_t]
  have hg : rows.getD h 0 = own := by simp [List.getD, hr]
  have xr : idxop (eRw rows) (.int (h : Int)) = pure (.int own) := by simp only [eRw, Vz0, Vz1, Vz2, Vz3, Vz4, Vz5, kx, SZ, beq_self_eq_true, List.contains_cons, List.contains_nil]; rw [List.getElem?_map, hr]; rfl
  cases z : s.put with
  | false =>
    simp [f__law_name, Vz0, Vz1, Vz2, Vz3, Vz4, Vz5, kx, SZ, beq_self_eq_true, List.contains_cons, List.contains_nil, ds, bs, z, dv, xr, hg, eO_some, eO_none]
    simp [eLC, eO, eNV, eMS, hr]
  | true =>
    obtain ⟨v, hc⟩ := hc z
    have ho : ownM cells h = own := by unfold ownM; simp [List.getD, hc]
    have itl : itemsOf (eLcs cells) = pure (cells.map eLC) := id rfl
    have wl := wished_len (cells := cells) (h := h)
    have rg : rngOk (cells.length : Int) := rngOk_nat (by omega)
    have so := f_sorted_l (wishedM cells h) (by omega)
    have ol : (oldsM cells).length ≤ 5 := by
      unfold oldsM
      rw [List.length_map]
      exact Nat.le_trans (List.length_filter_le _ _) h5
    have so2 := f_sorted_l (oldsM cells) (by omega)
    have lt := rank_lt hc
    have il : ∀ xs : List D, isLs (.lst xs) = pure () := fun xs => id rfl
    have ix : idxOf (.lst ((sortI (oldsM cells)).map .int)) (.int own) = pure (.int (rankM cells own : Int)) := by
      show onInts ((sortI (oldsM cells)).map .int) (fun ns => ofO ((plcI own ns).map fun j => .int (j : Int))) = _
      unfold onInts
      rw [intsD_map]
      dsimp only
      rw [plc_olds hc]
      rfl
    simp [f__law_name, Vz0, Vz1, Vz2, Vz3, Vz4, Vz5, kx, SZ, beq_self_eq_true, List.contains_cons, List.contains_nil, ds, bs, z, dv, d_eLcs, l_eLcs, rg, rngD0]
    refine ⟨by omega, wp_lc (fun (i : Nat) => D.int (i : Int)) (fun j => decide (j ≠ h) && (cells.getD j none).isSome) (fun j => .int ((cells.getD j none).getD (0, 0)).2) (List.range cells.length) (fun a ha => ?_) ?_⟩
    · have ha' := List.mem_range.mp ha
      have e : cells[a]? = some (cells.getD a none) := by simp [List.getD, List.getElem?_eq_getElem ha']
      generalize cells.getD a none = c2 at *
      by_cases eh : a = h
      · simp [Vz0, Vz1, Vz2, Vz3, Vz4, Vz5, kx, SZ, beq_self_eq_true, List.contains_cons, List.contains_nil, eh]
      · have eh' : ¬ (a : Int) = h := by omega
        cases c2 with
        | none => simp [Vz0, Vz1, Vz2, Vz3, Vz4, Vz5, kx, SZ, beq_self_eq_true, List.contains_cons, List.contains_nil, eh, eh', d_eLcs, x_eLcs, e, d_eLC, i_eLC, n_eLC]
        | some p => simp [Vz0, Vz1, Vz2, Vz3, Vz4, Vz5, kx, SZ, beq_self_eq_true, List.contains_cons, List.contains_nil, eh, eh', d_eLcs, x_eLcs, e, d_eLC, i_eLC, n_eLC, x_eLC1]
    · have ew : ((List.range cells.length).filter fun j => decide (j ≠ h) && (cells.getD j none).isSome).map (fun j => D.int ((cells.getD j none).getD (0, 0)).2) = (wishedM cells h).map .int := by
        rw [← others_range, List.map_map]
        rfl
      rw [ew]
      by_cases g : s.wish ∈ wishedM cells h
      · simp [Vz0, Vz1, Vz2, Vz3, Vz4, Vz5, kx, SZ, beq_self_eq_true, List.contains_cons, List.contains_nil, shapes_is, hasD_is, g, d_eLcs, itl]
        refine ⟨by omega, wp_lc eLC (fun c => c.isSome) (fun c => .int (c.getD (0, 0)).1) cells (fun a _ => ?_) ?_⟩
        · cases a with
          | none => simp [Vz0, Vz1, Vz2, Vz3, Vz4, Vz5, kx, SZ, beq_self_eq_true, List.contains_cons, List.contains_nil, d_eLC, i_eLC, n_eLC]
          | some p => simp [Vz0, Vz1, Vz2, Vz3, Vz4, Vz5, kx, SZ, beq_self_eq_true, List.contains_cons, List.contains_nil, d_eLC, i_eLC, n_eLC, x_eLC0]
        · have eo : (cells.filter fun c => c.isSome).map (fun c => D.int (c.getD (0, 0)).1) = (oldsM cells).map .int := by unfold oldsM; rw [List.map_map]; rfl
          have rg2 : rngOk ((rankM cells own : Int) + 1) := rngOk_nat (n := rankM cells own + 1) (by omega)
          have rr : rngD 0 (rankM cells own + 1) = (List.range (rankM cells own + 1)).map fun (i : Nat) => D.int (i : Int) := rngD0
          rw [eo]
          simp [Vz0, Vz1, Vz2, Vz3, Vz4, Vz5, kx, SZ, beq_self_eq_true, List.contains_cons, List.contains_nil, so2, il, dv, xr, ix, rg2, rr]
          generalize hrk : rankM cells own = rk at *
          generalize htk : wishedM cells h = tk at *
          refine wp_forGo0 (LnO (eRw rows) (eLcs cells) (.int (h : Int)) (eMS s) tk rk w) ⟨rfl, _, _, rfl⟩ (fun i d e w' hd hi => ?_) fun e w' hi => ?_
          · obtain ⟨rfl, j7, j9, rfl⟩ := hi
            rw [List.getElem?_map] at hd
            obtain ⟨a, ha, rfl⟩ := Option.map_eq_some_iff.mp hd
            simp [lnE, Vz0, Vz1, Vz2, Vz3, Vz4, Vz5, kx, SZ, beq_self_eq_true, List.contains_cons, List.contains_nil, so]
            refine wp_forGo0 (LnJ (eRw rows) (eLcs cells) (.int (h : Int)) (eMS s) tk rk (nextW (sortI tk) i + 1) (.val (.int (a : Int))) w') ⟨rfl, _, rfl⟩ (fun j d e w2 hd hj => ?_) fun e w2 hj => ?_
            · obtain ⟨rfl, j9, rfl⟩ := hj
              rw [List.getElem?_map] at hd
              obtain ⟨x, hx, rfl⟩ := Option.map_eq_some_iff.mp hd
              have et : ((sortI tk).take (j + 1)).foldl stepI (nextW (sortI tk) i + 1) = stepI (((sortI tk).take j).foldl stepI (nextW (sortI tk) i + 1)) x := by
                rw [List.take_succ, hx, List.foldl_append]
                rfl
              generalize ((sortI tk).take j).foldl stepI (nextW (sortI tk) i + 1) = u at *
              by_cases q : x = u
              · simp [lnE, Vz0, Vz1, Vz2, Vz3, Vz4, Vz5, kx, SZ, beq_self_eq_true, List.contains_cons, List.contains_nil, q]
                refine ⟨rfl, .val (.int x), ?_⟩
                rw [et]
                unfold stepI
                rw [if_pos q, q]
                rfl
              · simp [lnE, Vz0, Vz1, Vz2, Vz3, Vz4, Vz5, kx, SZ, beq_self_eq_true, List.contains_cons, List.contains_nil, q]
                refine ⟨rfl, .val (.int x), ?_⟩
                rw [et]
                unfold stepI
                rw [if_neg q]
                rfl
            · obtain ⟨rfl, j9, rfl⟩ := hj
              rw [List.length_map, List.take_length]
              exact ⟨rfl, .val (.int (a : Int)), j9, rfl⟩
          · obtain ⟨rfl, j7, j9, rfl⟩ := hi
            have nw := next_wish hc
            rw [hrk, htk] at nw
            simp [lnE, Vz0, Vz1, Vz2, Vz3, Vz4, Vz5, kx, SZ, beq_self_eq_true, List.contains_cons, List.contains_nil, nw, ho, eO_none, eO_some, eMS]
      · simp [Vz0, Vz1, Vz2, Vz3, Vz4, Vz5, kx, SZ, beq_self_eq_true, List.contains_cons, List.contains_nil, shapes_is, hasD_is, g, d_eLcs, itl, eO_none, eO_some]
abbrev naN : D := .str s8_names
theorem na_next (n : Nat) (s : MS) : callF prg (n + 1) 57 [naN, eMS s] = pure (if s.put then .tup [.str s9_see] else .tup [.str s10_put]) := by
  refine eq_pure fun w => ?_
  rw [c__law_next]
  have x1 : idxop (eMS s) (.int (-1)) = pure (.bl s.put) := id rfl
  have db : der (eMS s) = pure (eMS s) := id rfl
  cases z : s.put <;> simp [f__law_next, Vz0, Vz1, Vz2, Vz3, Vz4, Vz5, kx, SZ, beq_self_eq_true, List.contains_cons, List.contains_nil, x1, db, z]
section
variable (rows : List Int) (h1 : 1 ≤ rows.length) (h5 : rows.length ≤ 5)
theorem na_moved (n : Nat) (g : OG LC MS) (h : Nat) (s : MS) (K : (naOS rows h1 h5).Ok g) (hs : g.states[h]? = some (some s)) :
    callF prg (n + 2) 59 [naN, eRw rows, .int 0, (naOS rows h1 h5).enc g, .int (h : Int)] = pure ((naOS rows h1 h5).enc ((naOS rows h1 h5).stp g h)) := by
  refine eq_pure fun w => ?_
  rw [c__law_moved]
  have lc : g.cells.length = rows.length := K.lc
  have ls : g.states.length = rows.length := K.ls
  have hh := (List.getElem?_eq_some_iff.mp hs).1
  obtain ⟨c, hc⟩ : ∃ c, g.cells[h]? = some c := ⟨g.cells[h]'(by omega), List.getElem?_eq_getElem _⟩
  obtain ⟨i1, i2⟩ : naInv rows c h s := K.iv h c s hc hs
  have dv : der (eRw rows) = pure (eRw rows) := id rfl
  have hr : rows[h]? = some (rows[h]'(by omega)) := List.getElem?_eq_getElem _
  have hg : rows.getD h 0 = rows[h]'(by omega) := by simp [List.getD, hr]
  have ql := t_law_name n h rows g.cells s _ hr (fun z => by
    obtain ⟨own, ho⟩ := i1 z
    have e := i2 _ ho
    rw [hg] at e
    exact ⟨s.wish, by rw [hc, ho, ← e]⟩) (by omega)
  have qn := na_next n s
  have F := moved_tail (naOS rows h1 h5) n naN (eRw rows) (.int 0) ((naOS rows h1 h5).enc g) _ g h s K hs w rfl qn (by cases s.put <;> rfl) (by cases s.put <;> rfl) (by cases s.put <;> simp [Vz0, Vz1, Vz2, Vz3, Vz4, Vz5, kx, SZ, beq_self_eq_true, List.contains_cons, List.contains_nil, shape2, D.shp, D.shpAll, D.dep, D.depAll])
    (by
      show _ = (aftM rows h g.cells s).1.isSome
      unfold aftM
      cases z : s.put with
      | false => simp [eqv_tup, D.pyAll, D.py, PyData.eqvAll, PyData.eqv, Vz0, Vz1, Vz2, Vz3, Vz4, Vz5, kx, SZ, beq_self_eq_true, List.contains_cons, List.contains_nil]
      | true => by_cases q : s.wish ∈ wishedM g.cells h <;> simp [q, eqv_tup, D.pyAll, D.py, PyData.eqvAll, PyData.eqv, Vz0, Vz1, Vz2, Vz3, Vz4, Vz5, kx, SZ, beq_self_eq_true, List.contains_cons, List.contains_nil])
  have e1 : (naOS rows h1 h5).aft h g.cells s = aftM rows h g.cells s := rfl
  have e2 : (naOS rows h1 h5).eγ = eLC := rfl
  have e3 : (naOS rows h1 h5).eσ = eMS := rfl
  rw [e1, e2, e3] at F
  have db : ∀ c, der (eMS c) = pure (eMS c) := fun _ => id rfl
  have de : der ((naOS rows h1 h5).enc g) = pure ((naOS rows h1 h5).enc g) := id rfl
  have be : ∀ ts e, bindTg (.t ts) ((naOS rows h1 h5).enc g) e = bindTg.go ts [.tup (g.cells.map eLC), .tup (g.states.map (eO eMS)), .tup (g.told.map eT)] e := fun ts e => by unfold OS.enc; rw [bi_t]; rfl
  have ec : D.tup (g.cells.map eLC) = eLcs g.cells := rfl
  rw [wp_endF]
  show wp (exs (cg (n + 1)) (.cons (hdS 0 f__law_moved.body) (.cons (hdS 1 f__law_moved.body) (tlS 2 f__law_moved.body))) _) w _ _
  refine wp_seq (fun e w' => e = [.val naN, .val (eRw rows), .val (.int 0), .val ((naOS rows h1 h5).enc g), .val (.int (h : Int)), .val (.tup (g.cells.map eLC)), .val (.tup (g.states.map (eO eMS))), .val (.tup (g.told.map eT)), .un, .un, .un] ∧ w' = w) ?_ ?_
  · simp [f__law_moved, hdS, Vz0, Vz1, Vz2, Vz3, Vz4, Vz5, kx, SZ, beq_self_eq_true, List.contains_cons, List.contains_nil, de, be]
  rintro e w' ⟨rfl, rfl⟩
  refine wp_seq (fun e w2 => e = [.val naN, .val (eRw rows), .val (.int 0), .val ((naOS rows h1 h5).enc g), .val (.int (h : Int)), .val (.tup (g.cells.map eLC)), .val (.tup (g.states.map (eO eMS))), .val (.tup (g.told.map eT)),
      .val (eO eLC (aftM rows h g.cells s).1), .val (eO eMS (aftM rows h g.cells s).2.1), .val (eO id (aftM rows h g.cells s).2.2)] ∧ w2 = w') ?_ ?_
  · rw [ec]
    simp [f__law_moved, hdS, Vz0, Vz1, Vz2, Vz3, Vz4, Vz5, kx, SZ, beq_self_eq_true, List.contains_cons, List.contains_nil, hs, eO_some, ql, db, dv, d_eLcs]
  rintro e w2 ⟨rfl, rfl⟩
  exact F
theorem na_begin (n : Nat) : callF prg (n + 1) 56 [naN, eRw rows] = pure ((naOS rows h1 h5).enc (naOS rows h1 h5).ki.g0) := by
  refine eq_pure fun w => ?_
  rw [c__law_begin]
  have dl : der (eRw rows) = pure (eRw rows) := id rfl
  have ll : b1op .len (eRw rows) = pure (.int rows.length) := by simp [eRw, Vz0, Vz1, Vz2, Vz3, Vz4, Vz5, kx, SZ, beq_self_eq_true, List.contains_cons, List.contains_nil]
  simp [f__law_begin, Vz0, Vz1, Vz2, Vz3, Vz4, Vz5, kx, SZ, beq_self_eq_true, List.contains_cons, List.contains_nil, dl, ll, parE, contD]
  refine ⟨⟨by omega, by omega⟩, ⟨by omega, by omega⟩, ?_⟩
  unfold OS.enc OS.ki naOS
  simp [eT, eO, eLC]
  refine List.ext_getElem (by simp) fun i h1 h2 => by simp [eO, eMS]
end
end K13

set_option maxRecDepth 100000
set_option maxHeartbeats 400000
namespace K13
open PySem Ev
/-! ### new names: what always holds -/
theorem set_cases {α : Type} {l : List α} {i j : Nat} {a x : α} (h : (l.set i a)[j]? = some x) : (j = i ∧ x = a) ∨ (j ≠ i ∧ l[j]? = some x) := by
  rw [List.getElem?_set] at h
  by_cases e : i = j
  · rw [if_pos e] at h
    split at h
    · cases h; exact .inl ⟨e.symm, rfl⟩
    · cases h
  · rw [if_neg e] at h
    exact .inr ⟨fun q => e q.symm, h⟩
theorem set_here {α : Type} {l : List α} {i : Nat} {a : α} (h : i < l.length) : (l.set i a)[i]? = some a := by
  rw [List.getElem?_set, if_pos rfl, if_pos h]
theorem set_there {α : Type} {l : List α} {i j : Nat} {a : α} (h : j ≠ i) : (l.set i a)[j]? = l[j]? := by
  rw [List.getElem?_set, if_neg fun q => h q.symm]
theorem take_mem {W : List Nat} {i x : Nat} (hx : x ∈ W.take i) : x ∈ W.take (i + 1) := by
  rw [List.take_succ]
  exact List.mem_append_left _ hx
theorem take_me {W : List Nat} {i h : Nat} (z : W[i]? = some h) : h ∈ W.take (i + 1) := by
  rw [List.take_succ, z]
  simp
theorem cP_pos {cells : List LC} {h : Nat} {p : Int × Int} (hc : cells[h]? = some (some p)) : 1 ≤ cP cells := List.countP_pos_iff.mpr ⟨_, List.mem_of_getElem? hc, rfl⟩
theorem cP_set : ∀ (cells : List LC) (h : Nat) (p : Int × Int), cP cells ≤ cP (cells.set h (some p))
  | [], _, _ => Nat.le_refl _
  | x :: l, 0, p => by
    unfold cP
    rw [List.set_cons_zero, List.countP_cons, List.countP_cons]
    simp
    split <;> omega
  | x :: l, h + 1, p => by
    have ih := cP_set l h p
    unfold cP at ih ⊢
    rw [List.set_cons_succ, List.countP_cons, List.countP_cons]
    omega
theorem wished_mem {cells : List LC} {h h' : Nat} {o v : Int} (hc : cells[h']? = some (some (o, v))) (ne : h' ≠ h) : v ∈ wishedM cells h := by
  unfold wishedM others
  exact List.mem_map.mpr ⟨(some (o, v), h'), List.mem_filter.mpr ⟨List.mem_zipIdx_iff_getElem?.mpr hc, by simp [ne]⟩, rfl⟩
structure MInv (rows : List Int) (W : List Nat) (i : Nat) (cells : List LC) (states : List (Option MS)) (told : List (Option D)) : Prop where
  c : ∀ (h : Nat) (o v : Int), cells[h]? = some (some (o, v)) → o = rows.getD h 0 ∧ h ∈ W.take i
  s : ∀ (h : Nat) (s : MS), states[h]? = some (some s) → 1 ≤ s.wish ∧ (s.wish = 1 ∨ s.wish + 1 ≤ 2 * (cP cells : Int)) ∧ (s.put = true → ∃ o, cells[h]? = some (some (o, s.wish)))
  t : ∀ (h : Nat) (d : D), told[h]? = some (some d) → ∃ v, d = .int v ∧ 1 ≤ v ∧ v + 1 ≤ 2 * (cP cells : Int) ∧ states[h]? = some none ∧ ∃ o, cells[h]? = some (some (o, v))
  d : ∀ (h h' : Nat) (v : Int), told[h]? = some (some (.int v)) → told[h']? = some (some (.int v)) → h = h'
  o : ∀ h : Nat, states[h]? = some none → ∃ d, told[h]? = some (some d)
section
variable {rows : List Int} {W : List Nat} {i h : Nat} {cells : List LC} {states : List (Option MS)} {told : List (Option D)}
theorem MInv.stay (I : MInv rows W i cells states told) : MInv rows W (i + 1) cells states told :=
  ⟨fun h o v e => by obtain ⟨a, b⟩ := I.c h o v e; exact ⟨a, take_mem b⟩, I.s, I.t, I.d, I.o⟩
theorem MInv.put (I : MInv rows W i cells states told) (z : W[i]? = some h) {w : Int} (hs : states[h]? = some (some ⟨w, false⟩)) (hl : h < cells.length) :
    MInv rows W (i + 1) (cells.set h (some (rows.getD h 0, w))) (states.set h (some ⟨w, true⟩)) told := by
  have hsl := (List.getElem?_eq_some_iff.mp hs).1
  have le := cP_set cells h (rows.getD h 0, w)
  refine ⟨fun h' o v e => ?_, fun h' s e => ?_, fun h' d e => ?_, I.d, fun h' e => ?_⟩
  · rcases set_cases e with ⟨rfl, q⟩ | ⟨ne, e⟩
    · cases q; exact ⟨rfl, take_me z⟩
    · obtain ⟨a, b⟩ := I.c h' o v e; exact ⟨a, take_mem b⟩
  · rcases set_cases e with ⟨rfl, q⟩ | ⟨ne, e⟩
    · cases q
      obtain ⟨a, b, _⟩ := I.s _ _ hs
      dsimp only at a b ⊢
      exact ⟨a, b.imp id fun b => by omega, fun _ => ⟨_, set_here hl⟩⟩
    · obtain ⟨a, b, c⟩ := I.s h' s e
      exact ⟨a, b.imp id fun b => by omega, fun p => by rw [set_there ne]; exact c p⟩
  · obtain ⟨v, a, b, c, st, o, ce⟩ := I.t h' d e
    have ne : h' ≠ h := fun q => by subst q; rw [hs] at st; cases st
    exact ⟨v, a, b, by omega, by rw [set_there ne]; exact st, o, by rw [set_there ne]; exact ce⟩
  · rcases set_cases e with ⟨rfl, q⟩ | ⟨ne, e⟩
    · cases q
    · exact I.o h' e
theorem MInv.read (I : MInv rows W i cells states told) {s : MS} {own v : Int} (hs : states[h]? = some (some s)) (hc : cells[h]? = some (some (own, v))) :
    MInv rows W (i + 1) cells (states.set h (some ⟨wishM cells h own, false⟩)) told := by
  have hsl := (List.getElem?_eq_some_iff.mp hs).1
  obtain ⟨w1, w2⟩ := wish_le hc
  refine ⟨fun h' o v e => ?_, fun h' s e => ?_, fun h' d e => ?_, I.d, fun h' e => ?_⟩
  · obtain ⟨a, b⟩ := I.c h' o v e; exact ⟨a, take_mem b⟩
  · rcases set_cases e with ⟨rfl, q⟩ | ⟨ne, e⟩
    · cases q
      exact ⟨w1, .inr w2, fun q => by cases q⟩
    · exact I.s h' s e
  · obtain ⟨v, a, b, c, st, o, ce⟩ := I.t h' d e
    have ne : h' ≠ h := fun q => by subst q; rw [hs] at st; cases st
    exact ⟨v, a, b, c, by rw [set_there ne]; exact st, o, ce⟩
  · rcases set_cases e with ⟨rfl, q⟩ | ⟨ne, e⟩
    · cases q
    · exact I.o h' e
theorem MInv.tell (I : MInv rows W i cells states told) {s : MS} (hs : states[h]? = some (some s)) (hp : s.put = true) (hw : s.wish ∉ wishedM cells h) (lt : told.length = states.length) :
    MInv rows W (i + 1) cells (states.set h none) (told.set h (some (.int s.wish))) := by
  have hsl := (List.getElem?_eq_some_iff.mp hs).1
  obtain ⟨a1, a2, a3⟩ := I.s h s hs
  obtain ⟨own, hc⟩ := a3 hp
  have cp := cP_pos hc
  have un : ∀ h' : Nat, h' ≠ h → told[h']? ≠ some (some (.int s.wish)) := fun h' ne e => by
    obtain ⟨v, a, b, c, st, o, ce⟩ := I.t h' _ e
    cases a
    exact hw (wished_mem ce ne)
  refine ⟨fun h' o v e => ?_, fun h' s e => ?_, fun h' d e => ?_, fun h1 h2 v e1 e2 => ?_, fun h' e => ?_⟩
  · obtain ⟨a, b⟩ := I.c h' o v e; exact ⟨a, take_mem b⟩
  · rcases set_cases e with ⟨rfl, q⟩ | ⟨ne, e⟩
    · cases q
    · exact I.s h' s e
  · rcases set_cases e with ⟨rfl, q⟩ | ⟨ne, e⟩
    · cases q
      exact ⟨s.wish, rfl, a1, by omega, set_here hsl, own, hc⟩
    · obtain ⟨v, a, b, c, st, o, ce⟩ := I.t h' d e
      exact ⟨v, a, b, c, by rw [set_there ne]; exact st, o, ce⟩
  · rcases set_cases e1 with ⟨z1, q1⟩ | ⟨ne1, k1⟩
    · rcases set_cases e2 with ⟨z2, q2⟩ | ⟨ne2, k2⟩
      · rw [z1, z2]
      · cases q1
        exact absurd k2 (un h2 ne2)
    · rcases set_cases e2 with ⟨z2, q2⟩ | ⟨ne2, k2⟩
      · cases q2
        exact absurd k1 (un h1 ne1)
      · exact I.d h1 h2 v k1 k2
  · rcases set_cases e with ⟨rfl, q⟩ | ⟨ne, e⟩
    · exact ⟨_, set_here (by omega)⟩
    · obtain ⟨d, hd⟩ := I.o h' e
      exact ⟨d, by rw [set_there ne]; exact hd⟩
theorem MInv.came (I : MInv rows W i cells states told) {m : Nat} (hl : cells.length = m) : cP cells ≤ (cameM m (W.take i)).length := by
  unfold cP cameM
  rw [← List.countP_eq_length_filter]
  have e : cells = (List.range m).map fun j => cells.getD j none := List.ext_getElem (by simp [hl]) fun i a b => by simp [List.getElem?_eq_getElem a]
  have q : cells.countP (fun c => c.isSome) = (List.range m).countP fun j => (cells.getD j none).isSome := (congrArg (List.countP fun c : LC => c.isSome) e).trans List.countP_map
  rw [q]
  refine List.countP_mono_left fun j _ hj => ?_
  cases z : cells[j]? with
  | none => simp [List.getD, z] at hj
  | some c =>
    cases c with
    | none => simp [List.getD, z] at hj
    | some p => simpa using (I.c j p.1 p.2 z).2
end
section
variable (rows : List Int) (h1 : 1 ≤ rows.length) (h5 : rows.length ≤ 5)
def naAt (W : List Nat) (i : Nat) : OG LC MS := (naOS rows h1 h5).ki.at W i
theorem naAt_ok {W : List Nat} (V : (naOS rows h1 h5).ki.Wov W) (i : Nat) : (naOS rows h1 h5).Ok (naAt rows h1 h5 W i) := KI.at_ok V i
theorem na_mv {g : OG LC MS} {h : Nat} (hm : h ∈ mvD ((naOS rows h1 h5).ki.S g)) : ∃ s : MS, g.states[h]? = some (some s) := (naOS rows h1 h5).mv.mp hm
theorem minv {W : List Nat} (V : (naOS rows h1 h5).ki.Wov W) : ∀ i, MInv rows W i (naAt rows h1 h5 W i).cells (naAt rows h1 h5 W i).states (naAt rows h1 h5 W i).told
  | 0 => by
    have c0 : (naAt rows h1 h5 W 0).cells = List.replicate rows.length none := rfl
    have t0 : (naAt rows h1 h5 W 0).told = List.replicate rows.length none := rfl
    have s0 : (naAt rows h1 h5 W 0).states = (List.range rows.length).map fun _ => some ⟨1, false⟩ := rfl
    have ce : ∀ (h : Nat) (c : LC), (naAt rows h1 h5 W 0).cells[h]? = some c → c = none := fun h c a => by
      rw [c0, List.getElem?_replicate] at a
      split at a
      · cases a; rfl
      · cases a
    have se : ∀ (h : Nat) (o : Option MS), (naAt rows h1 h5 W 0).states[h]? = some o → o = some ⟨1, false⟩ := fun h o a => by
      rw [s0, List.getElem?_map] at a
      obtain ⟨x, hx, rfl⟩ := Option.map_eq_some_iff.mp a
      rfl
    have te : ∀ (h : Nat) (d : D), (naAt rows h1 h5 W 0).told[h]? = some (some d) → False := fun h d a => by
      rw [t0, List.getElem?_replicate] at a
      split at a <;> simp at a
    refine ⟨fun h o v a => ?_, fun h s a => ?_, fun h d a => (te h d a).elim, fun h h' v a _ => (te h _ a).elim, fun h a => ?_⟩
    · have := ce h _ a; cases this
    · have := se h _ a
      cases this
      exact ⟨by decide, .inl rfl, fun q => by cases q⟩
    · have := se h _ a; cases this
  | i + 1 => by
    have ih := minv V i
    have K := naAt_ok rows h1 h5 V i
    have lc : (naAt rows h1 h5 W i).cells.length = rows.length := K.lc
    have ls : (naAt rows h1 h5 W i).states.length = rows.length := K.ls
    have lt : (naAt rows h1 h5 W i).told.length = rows.length := K.lt
    cases z : W[i]? with
    | none =>
      have e : naAt rows h1 h5 W (i + 1) = naAt rows h1 h5 W i := by
        unfold naAt
        rw [KI.at, z]
      rw [e]
      exact ih.stay
    | some h0 =>
      have e : naAt rows h1 h5 W (i + 1) = (naOS rows h1 h5).stp (naAt rows h1 h5 W i) h0 := KI.at_step z
      obtain ⟨s, hs⟩ := na_mv rows h1 h5 (V i h0 z)
      have hs : (naAt rows h1 h5 W i).states[h0]? = some (some s) := hs
      have hin := (List.getElem?_eq_some_iff.mp hs).1
      obtain ⟨c, hc⟩ : ∃ c, (naAt rows h1 h5 W i).cells[h0]? = some c := ⟨(naAt rows h1 h5 W i).cells[h0]'(by omega), List.getElem?_eq_getElem _⟩
      obtain ⟨i1, i2⟩ : naInv rows c h0 s := K.iv h0 c s hc hs
      rw [(naOS rows h1 h5).stp_is hs] at e
      have ea : (naOS rows h1 h5).aft h0 (naAt rows h1 h5 W i).cells s = aftM rows h0 (naAt rows h1 h5 W i).cells s := rfl
      cases p : s.put with
      | false =>
        have es : s = ⟨s.wish, false⟩ := by rw [← p]
        have ea2 : aftM rows h0 (naAt rows h1 h5 W i).cells s = (some (some (rows.getD h0 0, s.wish)), some ⟨s.wish, true⟩, none) := by unfold aftM; rw [p]; rfl
        rw [ea, ea2] at e
        rw [e]
        exact ih.put z (by rw [← es]; exact hs) (by omega)
      | true =>
        obtain ⟨own, ho⟩ := i1 p
        subst ho
        by_cases g : s.wish ∈ wishedM (naAt rows h1 h5 W i).cells h0
        · have ow : ownM (naAt rows h1 h5 W i).cells h0 = own := by unfold ownM; simp [List.getD, hc]
          have ea2 : aftM rows h0 (naAt rows h1 h5 W i).cells s = (none, some ⟨wishM (naAt rows h1 h5 W i).cells h0 own, false⟩, none) := by unfold aftM; rw [p, if_pos rfl, if_pos g, ow]
          rw [ea, ea2] at e
          rw [e]
          exact ih.read hs hc
        · have ea2 : aftM rows h0 (naAt rows h1 h5 W i).cells s = (none, none, some (.int s.wish)) := by unfold aftM; rw [p, if_pos rfl, if_neg g]
          rw [ea, ea2] at e
          rw [e]
          exact ih.tell hs p g (by omega)
end
end K13

set_option maxRecDepth 100000
set_option maxHeartbeats 400000
namespace K13
open PySem Ev
/-! ### what is told, of any kind -/
def eTs {α : Type} (f : α → D) (tL : List (Option α)) : List D := tL.map fun o => eT (o.map f)
theorem eTs_xss {α : Type} (f : α → D) (tL : List (Option α)) : eTs f tL = (tL.map fun o => o.toList.map f).map .tup := by
  unfold eTs
  rw [List.map_map]
  refine List.map_congr_left fun o _ => ?_
  cases o <;> rfl
theorem all_is {α : Type} (f : α → D) (tL : List (Option α)) : (tL.map fun o => o.toList.map f).flatten = (tL.flatMap Option.toList).map f := by
  induction tL with
  | nil => rfl
  | cons o r ih =>
    rw [List.map_cons, List.flatten_cons, ih, List.flatMap_cons, List.map_append]
theorem all_len {α : Type} (tL : List (Option α)) : (tL.flatMap Option.toList).length ≤ tL.length := by
  induction tL with
  | nil => simp
  | cons o r ih =>
    rw [List.flatMap_cons, List.length_append, List.length_cons]
    have : o.toList.length ≤ 1 := by cases o <;> simp
    omega
theorem all_mem {α : Type} {tL : List (Option α)} {L : α} (h : L ∈ tL.flatMap Option.toList) : some L ∈ tL := by
  obtain ⟨o, ho, h2⟩ := List.mem_flatMap.mp h
  cases o with
  | none => simp at h2
  | some x => simp at h2; rw [h2]; exact ho
theorem flat_toldG {α : Type} (f : α → D) (n : Nat) (tL : List (Option α)) (h : tL.length ≤ 1000) : callF prg (n + 1) 46 [.tup (eTs f tL)] = pure (.lst ((tL.flatMap Option.toList).map f)) := by
  have q := t_flat n (.tup (eTs f tL)) (tL.map fun o => o.toList.map f) (id rfl) (by rw [← eTs_xss]; rfl) (by rw [all_is]; have := all_len tL; simp at this ⊢; omega)
  rw [all_is] at q
  exact q
theorem law_all_toldG {α : Type} (f : α → D) (n : Nat) (tL : List (Option α)) (h : tL.length ≤ 1000) : callF prg (n + 1) 64 [.tup (eTs f tL)] = pure (.lst ((tL.flatMap Option.toList).map f)) := by
  have q := t_law_all n (.tup (eTs f tL)) (tL.map fun o => o.toList.map f) (id rfl) (by rw [← eTs_xss]; rfl) (by rw [all_is]; have := all_len tL; simp at this ⊢; omega)
  rw [all_is] at q
  exact q
theorem flat_nhs {W : List Nat} : ∀ x ∈ nhs W, flatD x = true := fun x hx => by
  obtain ⟨i, _, rfl⟩ := List.mem_map.mp hx
  rfl
theorem eTs_get {α : Type} {f : α → D} {tL : List (Option α)} {a : Nat} (h : a < tL.length) : ∃ o, tL[a]? = some o ∧ idxop (.tup (eTs f tL)) (.int (a : Int)) = pure (eT (o.map f)) := by
  refine ⟨tL[a], List.getElem?_eq_getElem h, ?_⟩
  have : (eTs f tL)[a]? = some (eT (tL[a].map f)) := by simp [eTs, List.getElem?_eq_getElem h]
  simp [Vz0, Vz1, Vz2, Vz3, Vz4, Vz5, kx, SZ, beq_self_eq_true, List.contains_cons, List.contains_nil, this]
/-! ### new names: the faults -/
structure NaF (m : Nat) (came : List Nat) (tL : List (Option Int)) : Prop where
  len : tL.length = m
  cm : ∀ (h : Nat) (v : Int), tL[h]? = some (some v) → h ∈ came
  bnd : ∀ v, some v ∈ tL → 1 ≤ v ∧ v + 1 ≤ 2 * (came.length : Int)
  nd : (tL.flatMap Option.toList).Nodup
  asc : came.Pairwise (· < ·)
  hands : ∀ h ∈ came, h < m
  few : came.length ≤ 5
theorem came_get {m h : Nat} {W : List Nat} : h ∈ cameM m W ↔ h < m ∧ h ∈ W := by simp [cameM]
theorem tell_nd : ∀ (tL : List (Option Int)), (∀ (h h' : Nat) (v : Int), tL[h]? = some (some v) → tL[h']? = some (some v) → h = h') → (tL.flatMap Option.toList).Nodup
  | [], _ => by simp
  | none :: r, h => by
    rw [List.flatMap_cons]
    exact tell_nd r fun a b v e1 e2 => by
      have := h (a + 1) (b + 1) v (by simpa using e1) (by simpa using e2)
      omega
  | some x :: r, h => by
    rw [List.flatMap_cons]
    show (x :: r.flatMap Option.toList).Nodup
    refine List.nodup_cons.mpr ⟨fun hm => ?_, tell_nd r fun a b v e1 e2 => ?_⟩
    · obtain ⟨k, hk⟩ := List.mem_iff_getElem?.mp (all_mem hm)
      have := h 0 (k + 1) x rfl (by simpa using hk)
      omega
    · have := h (a + 1) (b + 1) v (by simpa using e1) (by simpa using e2)
      omega
def unM : D → Int
  | .int v => v
  | _ => 0
section
variable (rows : List Int) (h1 : 1 ≤ rows.length) (h5 : rows.length ≤ 5)
theorem naF_at {W : List Nat} (V : (naOS rows h1 h5).ki.Wov W) (i : Nat) : ∃ tL, (naAt rows h1 h5 W i).told.map eT = eTs D.int tL ∧ NaF rows.length (cameM rows.length (W.take i)) tL ∧
    (mvD ((naOS rows h1 h5).ki.S (naAt rows h1 h5 W i)) = [] → ∀ o ∈ tL, o ≠ none) := by
  have I := minv rows h1 h5 V i
  have K := naAt_ok rows h1 h5 V
  have lt : (naAt rows h1 h5 W i).told.length = rows.length := (K i).lt
  have ls : (naAt rows h1 h5 W i).states.length = rows.length := (K i).ls
  have lc : (naAt rows h1 h5 W i).cells.length = rows.length := (K i).lc
  have cc := I.came lc
  have tg : ∀ (h : Nat) (v : Int), ((naAt rows h1 h5 W i).told.map fun o => o.map unM)[h]? = some (some v) → (naAt rows h1 h5 W i).told[h]? = some (some (.int v)) := fun h v e => by
    rw [List.getElem?_map] at e
    obtain ⟨o, ho, e⟩ := Option.map_eq_some_iff.mp e
    obtain ⟨d, rfl, rfl⟩ := Option.map_eq_some_iff.mp e
    obtain ⟨v, rfl, _⟩ := I.t h d ho
    exact ho
  refine ⟨(naAt rows h1 h5 W i).told.map fun o => o.map unM, ?_, ?_, ?_⟩
  · unfold eTs
    rw [List.map_map]
    refine List.map_congr_left fun o ho => ?_
    cases o with
    | none => rfl
    | some d =>
      obtain ⟨h, hh⟩ := List.mem_iff_getElem?.mp ho
      obtain ⟨v, rfl, _⟩ := I.t h d hh
      rfl
  · refine ⟨by simpa using lt, fun h v e => ?_, fun v e => ?_, tell_nd _ fun h h' v e1 e2 => I.d h h' v (tg h v e1) (tg h' v e2), List.pairwise_lt_range.filter _, fun h hh => (came_get.mp hh).1, Nat.le_trans cameM_len h5⟩
    · obtain ⟨v', _, _, _, _, o, ce⟩ := I.t h _ (tg h v e)
      refine came_get.mpr ⟨?_, (I.c h o v' ce).2⟩
      have := (List.getElem?_eq_some_iff.mp e).1
      simp at this
      omega
    · obtain ⟨h, hh⟩ := List.mem_iff_getElem?.mp e
      obtain ⟨v', a, b, c, _⟩ := I.t h _ (tg h v hh)
      cases a
      exact ⟨b, by omega⟩
  · intro em o ho e
    subst e
    obtain ⟨h, hh⟩ := List.mem_iff_getElem?.mp ho
    rw [List.getElem?_map] at hh
    obtain ⟨o, ho, e⟩ := Option.map_eq_some_iff.mp hh
    cases o with
    | some d => cases e
    | none =>
      have hlt := (List.getElem?_eq_some_iff.mp ho).1
      have hs : (naAt rows h1 h5 W i).states[h]? = some ((naAt rows h1 h5 W i).states[h]'(by omega)) := List.getElem?_eq_getElem _
      generalize (naAt rows h1 h5 W i).states[h]'(by omega) = s at hs
      cases s with
      | none =>
        obtain ⟨d, hd⟩ := I.o h hs
        rw [ho] at hd
        cases hd
      | some s =>
        have : h ∈ mvD ((naOS rows h1 h5).ki.S (naAt rows h1 h5 W i)) := (naOS rows h1 h5).mv.mpr ⟨s, hs⟩
        rw [em] at this
        cases this
end
noncomputable def lensOf : D → M D
  | .tup xs => onInts xs fun ns => grd (ns.length ≤ 1000) (pure (.int (ddup ns).length))
  | .lst xs => onInts xs fun ns => grd (ns.length ≤ 1000) (pure (.int (ddup ns).length))
  | _ => stk
theorem we_lenset_g {n : Nat} {e : Ev.Env} {w : Wd} {a : X} {Q : D → Wd → Prop} {E : EK} : wp (ev (cg n) (.lenset a) e) w Q E = wp (ev (cg n) a e) w (fun x w => wp (lensOf x) w Q E) E := by
  rw [ev, calm_cg, wp_bind]
  refine congrArg (fun q => wp (ev (cg n) a e) w q E) (funext fun x => funext fun w => ?_)
  cases x <;> rfl
theorem lens_eRw (l : List Int) (h : l.length ≤ 1000) : lensOf (eRw l) = pure (.int (ddup l).length) := by
  show onInts (l.map .int) (fun ns => grd (ns.length ≤ 1000) (pure (.int (ddup ns).length))) = _
  unfold onInts
  rw [intsD_map]
  dsimp only
  rw [grd_if, if_pos h]
theorem ddup_len : ∀ l : List Int, l.Nodup → (ddup l).length = l.length
  | [], _ => rfl
  | a :: r, h => by
    have hn := List.nodup_cons.mp h
    rw [ddup, if_neg hn.1, List.length_cons, List.length_cons, ddup_len r hn.2]
theorem lens_l (l : List Int) (h : l.length ≤ 1000) : lensOf (.lst (l.map .int)) = pure (.int (ddup l).length) := lens_eRw l h
theorem t_name_fault (n m : Nat) (i r : D) (came : List Nat) (tL : List (Option Int)) (F : NaF m came tL) (h5 : m ≤ 5) : callF prg (n + 2) 47 [ePo s8_names i r, eHands came, .tup (eTs D.int tL)] = pure .non := by
  refine eq_pure fun w => ?_
  rw [c_name_fault]
  have len := F.len
  have few := F.few
  have ft := flat_toldG D.int n tL (by omega)
  have la := all_len tL
  have nd := F.nd
  have am := fun (x : Int) (h : x ∈ tL.flatMap Option.toList) => F.bnd x (all_mem h)
  have mk : mulOk 2 (came.length : Int) := mulOk_l (by omega) (by omega)
  generalize tL.flatMap Option.toList = ts at *
  simp [f_name_fault, Vz0, Vz1, Vz2, Vz3, Vz4, Vz5, kx, SZ, beq_self_eq_true, List.contains_cons, List.contains_nil, ft, we_lenset_g, lens_l ts (by omega), ddup_len ts nd]
  refine ⟨by omega, wp_lc1 D.int (fun _ => .bl false) ts (fun _ => rfl) (fun a ha => ?_) ?_⟩
  · have := am a ha
    have l : ¬ 2 * (came.length : Int) ≤ a := by omega
    simp [Vz0, Vz1, Vz2, Vz3, Vz4, Vz5, kx, SZ, beq_self_eq_true, List.contains_cons, List.contains_nil, d_eHands, l_eHands, mk, l]
  · simp [Vz0, Vz1, Vz2, Vz3, Vz4, Vz5, kx, SZ, beq_self_eq_true, List.contains_cons, List.contains_nil, anyF]
theorem t_law_faultM (n : Nat) (rows : List Int) (came : List Nat) (tL : List (Option Int)) (F : NaF rows.length came tL) (h5 : rows.length ≤ 5) : callF prg (n + 4) 65 [naN, eRw rows, .int 0, eHands came, .tup (eTs D.int tL)] = pure .non := by
  refine eq_pure fun w => ?_
  rw [c__law_fault]
  have dl : der (eRw rows) = pure (eRw rows) := id rfl
  have ln : b1op .len (eRw rows) = pure (.int (rows.length : Int)) := by simp [eRw, Vz0, Vz1, Vz2, Vz3, Vz4, Vz5, kx, SZ, beq_self_eq_true, List.contains_cons, List.contains_nil]
  have len := F.len
  have few := F.few
  have rg : rngOk (rows.length : Int) := rngOk_nat (by omega)
  have ft := law_all_toldG D.int (n + 2) tL (by omega)
  have eh : eHands came = .tup (nhs came) := rfl
  have la := all_len tL
  have nd := F.nd
  have am := fun (x : Int) (h : x ∈ tL.flatMap Option.toList) => F.bnd x (all_mem h)
  have mk : mulOk 2 (came.length : Int) := mulOk_l (by omega) (by omega)
  generalize tL.flatMap Option.toList = ts at *
  simp [f__law_fault, Vz0, Vz1, Vz2, Vz3, Vz4, Vz5, kx, SZ, beq_self_eq_true, List.contains_cons, List.contains_nil, d_eHands, ft, dl, ln, rg, rngD0]
  refine ⟨by omega, wp_lc1 (fun (h : Nat) => D.int (h : Int)) (fun _ => .bl false) (List.range rows.length) (fun _ => rfl) (fun a ha => ?_) ?_⟩
  · have ha' := List.mem_range.mp ha
    obtain ⟨o, ho, xo⟩ := eTs_get (f := D.int) (tL := tL) (a := a) (by omega)
    cases o with
    | none => simp [Vz0, Vz1, Vz2, Vz3, Vz4, Vz5, kx, SZ, beq_self_eq_true, List.contains_cons, List.contains_nil, xo, eT]
    | some L =>
      have := F.cm a L ho
      rw [eh]
      simp [Vz0, Vz1, Vz2, Vz3, Vz4, Vz5, kx, SZ, beq_self_eq_true, List.contains_cons, List.contains_nil, xo, eT, shapes_hs, hasD_hs, this]
      exact flat_nhs
  · simp [Vz0, Vz1, Vz2, Vz3, Vz4, Vz5, kx, SZ, beq_self_eq_true, List.contains_cons, List.contains_nil, anyF, we_lenset_g, lens_l ts (by omega), ddup_len ts nd]
    refine ⟨by omega, wp_lc1 D.int (fun _ => .bl false) ts (fun _ => rfl) (fun a ha => ?_) ?_⟩
    · have := am a ha
      have l : ¬ 2 * (came.length : Int) - 1 < a := by omega
      simp [Vz0, Vz1, Vz2, Vz3, Vz4, Vz5, kx, SZ, beq_self_eq_true, List.contains_cons, List.contains_nil, d_eHands, l_eHands, mk, l]
    · simp [Vz0, Vz1, Vz2, Vz3, Vz4, Vz5, kx, SZ, beq_self_eq_true, List.contains_cons, List.contains_nil, anyF]
theorem t_raw_faultM (n : Nat) (rows : List Int) (came : List Nat) (tL : List (Option Int)) (F : NaF rows.length came tL) (h5 : rows.length ≤ 5) : callF prg (n + 4) 48 [ePo s8_names (eRw rows) (eRw rows), eHands came, .tup (eTs D.int tL)] = pure .non := by
  refine eq_pure fun w => ?_
  rw [c_raw_fault]
  have em : enumOf [.tup (eTs D.int tL)] = pure (tL.zipIdx.map fun p => .tup [.int p.2, eT (p.1.map D.int)]) := by
    unfold eTs
    show pure (enumD _) = _
    rw [enumD_map]
  have lf := t_name_fault (n + 1) rows.length (eRw rows) (eRw rows) came tL F h5
  have eh : eHands came = .tup (nhs came) := rfl
  have len := F.len
  simp [f_raw_fault, Vz0, Vz1, Vz2, Vz3, Vz4, Vz5, kx, SZ, beq_self_eq_true, List.contains_cons, List.contains_nil, em, d_ePo, q_kindO, lf]
  refine ⟨by omega, wp_lc1 (fun (p : Option Int × Nat) => .tup [.int (p.2 : Int), eT (p.1.map D.int)]) (fun _ => .bl false) tL.zipIdx (fun _ => rfl) (fun p hp => ?_) ?_⟩
  · obtain ⟨o, a⟩ := p
    have ho : tL[a]? = some o := List.mem_zipIdx_iff_getElem?.mp hp
    cases o with
    | none => simp [Vz0, Vz1, Vz2, Vz3, Vz4, Vz5, kx, SZ, beq_self_eq_true, List.contains_cons, List.contains_nil, eT]
    | some L =>
      have := F.cm a L ho
      rw [eh]
      simp [Vz0, Vz1, Vz2, Vz3, Vz4, Vz5, kx, SZ, beq_self_eq_true, List.contains_cons, List.contains_nil, eT, shapes_hs, hasD_hs, this]
      exact flat_nhs
  · simp [Vz0, Vz1, Vz2, Vz3, Vz4, Vz5, kx, SZ, beq_self_eq_true, List.contains_cons, List.contains_nil, anyF, lf, topk_names.1, d_ePo, q_kindO, d_eHands]
theorem t_is_itemM (n : Nat) (i r : D) (v : Int) (h : 1 ≤ v) (h2 : v ≤ 10) : callF prg (n + 5) 43 [ePo s8_names i r, .int v] = pure (.bl true) := by
  refine eq_pure fun w => ?_
  rw [c_is_item]
  have q2 := t_is_below (n + 1) v 100000000000000000000
  rw [show decide (0 ≤ v ∧ v < 100000000000000000000) = true from by simp; omega] at q2
  have l : (0 : Int) < v := by omega
  simp [f_is_item, Vz0, Vz1, Vz2, Vz3, Vz4, Vz5, kx, SZ, beq_self_eq_true, List.contains_cons, List.contains_nil, d_ePo, q_kindO, topk_names.1, q2, l]
theorem t_faultM (n : Nat) (rows : List Int) (came : List Nat) (tL : List (Option Int)) (F : NaF rows.length came tL) (h5 : rows.length ≤ 5) : callF prg (n + 9) 49 [ePo s8_names (eRw rows) (eRw rows), eHands came, .tup (eTs D.int tL)] = pure .non := by
  refine eq_pure fun w => ?_
  rw [c_fault]
  have len := F.len
  have few := F.few
  have lf := t_raw_faultM (n + 4) rows came tL F h5
  have q1 := t_is_came (n + 3) s8_names (eRw rows) (rows.map .int) came (by simpa using h5) F.asc (fun h hh => by have := F.hands h hh; simpa using this) F.few
  have q2 := t_is_told (n + 2) s8_names (eRw rows) (rows.map .int) (tL.map fun o => o.map D.int) rfl (by simpa using h5) (by simpa using len) (fun d hd => ?_) (fun d hd => ?_)
  · have e1 : D.tup (rows.map .int) = eRw rows := rfl
    have e2 : (tL.map fun o => o.map D.int).map eT = eTs D.int tL := by unfold eTs; rw [List.map_map]; rfl
    rw [e1] at q1 q2
    rw [e2] at q2
    simp [f_fault, Vz0, Vz1, Vz2, Vz3, Vz4, Vz5, kx, SZ, beq_self_eq_true, List.contains_cons, List.contains_nil, d_ePo, d_eHands, q1, q2, lf]
  · obtain ⟨o, ho, h⟩ := List.mem_map.mp hd
    obtain ⟨L, rfl, rfl⟩ := Option.map_eq_some_iff.mp h
    rfl
  · obtain ⟨o, ho, h⟩ := List.mem_map.mp hd
    obtain ⟨v, rfl, rfl⟩ := Option.map_eq_some_iff.mp h
    have := F.bnd v ho
    exact t_is_itemM (n + 2) _ _ v this.1 (by omega)
end K13

set_option maxRecDepth 100000
set_option maxHeartbeats 400000
namespace K13
open PySem Ev
/-! ### drawn plays of names -/
theorem many_of {x : D} (hx : x ∈ [D.int 1, .int 2, .int 2, .int 3, .int 3, .int 3, .int 4, .int 5]) : ∃ many : Nat, x = .int (many : Int) ∧ 1 ≤ many ∧ many ≤ 5 := by
  simp at hx
  rcases hx with rfl | rfl | rfl | rfl | rfl
  · exact ⟨1, rfl, by omega, by omega⟩
  · exact ⟨2, rfl, by omega, by omega⟩
  · exact ⟨3, rfl, by omega, by omega⟩
  · exact ⟨4, rfl, by omega, by omega⟩
  · exact ⟨5, rfl, by omega, by omega⟩
def pool7 : List Int := [0, 999, 30, 10, 500, 1, 2]
theorem pool_perm {many : Nat} {ys : List D} (h : ys.Perm (pool7.map .int)) (h1 : 1 ≤ many) (h5 : many ≤ 5) : ∃ rows : List Int, ys.take many = rows.map .int ∧ 1 ≤ rows.length ∧ rows.length ≤ 5 ∧ (∀ v ∈ rows, 0 ≤ v ∧ v < 1000) ∧ rows.Nodup := by
  have inj : ∀ a b : Int, D.int a = D.int b → a = b := fun a b e => by cases e; rfl
  have nd : (pool7.map D.int).Nodup := List.Pairwise.map D.int (fun a b (h : a ≠ b) e => h (inj a b e)) (show pool7.Nodup by decide)
  have ndy : ys.Nodup := h.nodup_iff.mpr nd
  have ly : ys.length = 7 := by rw [h.length_eq]; rfl
  obtain ⟨xs, hx⟩ : ∃ xs : List Int, ys = xs.map .int := by
    have all : ∀ d ∈ ys, ∃ v, d = D.int v := fun d hd => by
      obtain ⟨v, _, rfl⟩ := List.mem_map.mp (h.mem_iff.mp hd)
      exact ⟨v, rfl⟩
    clear h ndy ly
    induction ys with
    | nil => exact ⟨[], rfl⟩
    | cons d r ih =>
      obtain ⟨v, rfl⟩ := all d (List.mem_cons_self ..)
      obtain ⟨xs, rfl⟩ := ih fun d hd => all d (List.mem_cons_of_mem _ hd)
      exact ⟨v :: xs, rfl⟩
  subst hx
  have lx : xs.length = 7 := by simpa using ly
  have ndx : xs.Nodup := (List.pairwise_map.mp ndy).imp fun {a b} h e => h (by rw [e])
  refine ⟨xs.take many, by rw [List.map_take], by rw [List.length_take]; omega, by rw [List.length_take]; omega, fun v hv => ?_, ndx.sublist (List.take_sublist ..)⟩
  have hm : D.int v ∈ pool7.map D.int := h.mem_iff.mp (List.mem_map.mpr ⟨v, List.mem_of_mem_take hv, rfl⟩)
  obtain ⟨u, hu, e⟩ := List.mem_map.mp hm
  cases e
  simp [pool7] at hu
  omega
theorem law_inputsM (n : Nat) (w : Wd) (Q : D → Wd → Prop) (E : EK) (H : HandOk w) (hq : ∀ rows w', 1 ≤ rows.length → rows.length ≤ 5 → (∀ v ∈ rows, 0 ≤ v ∧ v < 1000) → rows.Nodup → HandOk w' → Q (.tup [eRw rows, eRw rows, .int 0]) w') :
    wp (callF prg (n + 3) 55 [.cel 0, naN]) w Q E := by
  rw [c__law_inputs]
  simp [f__law_inputs, Vz0, Vz1, Vz2, Vz3, Vz4, Vz5, kx, SZ, beq_self_eq_true, List.contains_cons, List.contains_nil]
  refine t_some n _ _ _ _ H (by simp) (by simp) fun x w2 hx H2 => ?_
  obtain ⟨many, rfl, hm1, hm5⟩ := many_of hx
  simp [Vz0, Vz1, Vz2, Vz3, Vz4, Vz5, kx, SZ, beq_self_eq_true, List.contains_cons, List.contains_nil]
  refine t_shuffled n _ (pool7.map .int) _ _ _ H2 rfl rfl (by simp [pool7]) fun ys w3 pe H3 => ?_
  obtain ⟨rows, e, h1, h5, hv, hn⟩ := pool_perm pe hm1 hm5
  have q := hq rows w3 h1 h5 hv hn H3
  simp [Vz0, Vz1, Vz2, Vz3, Vz4, Vz5, kx, SZ, beq_self_eq_true, List.contains_cons, List.contains_nil, cut_to, e]
  simpa [eRw] using q
theorem row_of {α : Type} (enc : α → D) (n f : Nat) (xs : List α) (h1 : 1 ≤ xs.length) (h5 : xs.length ≤ 5) (q : ∀ x ∈ xs, callF prg (n + 5) f [enc x] = pure (.bl true)) (hd : ∀ x, der (enc x) = pure (enc x)) (hf : f < 60) : callF prg (n + 6) 7 [.fn f, .tup (xs.map enc)] = pure (.bl true) := by
  refine eq_pure fun w => ?_
  rw [c_is_row_of]
  have q0 := t_is_sized (n + 4) (xs.map enc) 1 5
  rw [show decide ((1 : Int) ≤ ((xs.map enc).length : Int) ∧ ((xs.map enc).length : Int) ≤ 5) = true from by simp; omega] at q0
  simp [f_is_row_of, Vz0, Vz1, Vz2, Vz3, Vz4, Vz5, kx, SZ, beq_self_eq_true, List.contains_cons, List.contains_nil, q0]
  refine ⟨by omega, wp_lc1 enc (fun _ => .bl true) xs (fun _ => rfl) (fun a ha => ?_) ?_⟩
  · simp [Vz0, Vz1, Vz2, Vz3, Vz4, Vz5, kx, SZ, beq_self_eq_true, List.contains_cons, List.contains_nil, q a ha, hd]
    omega
  · simp [Vz0, Vz1, Vz2, Vz3, Vz4, Vz5, kx, SZ, beq_self_eq_true, List.contains_cons, List.contains_nil]
theorem in_kindsO {k : Str} (h : k = s7_levels ∨ k = s8_names ∨ k = s6_near ∨ k = s15_chain) : hasD (.str k) [.str s12_sweep, .str s13_twice, .str s14_borrow, .str s7_levels, .str s8_names, .str s6_near, .str s15_chain] = true := by
  rcases h with rfl | rfl | rfl | rfl <;> simp [hasD, Vz0, Vz1, Vz2, Vz3, Vz4, Vz5, kx, SZ, beq_self_eq_true, List.contains_cons, List.contains_nil]
theorem row_ints (n f : Nat) (xs : List Int) (h1 : 1 ≤ xs.length) (h5 : xs.length ≤ 5) (q : ∀ x ∈ xs, callF prg (n + 5) f [.int x] = pure (.bl true)) (hf : f < 60) : callF prg (n + 6) 7 [.fn f, eRw xs] = pure (.bl true) := row_of D.int n f xs h1 h5 q (fun _ => rfl) hf
theorem dg_eRw (l : List Int) : der (eRw l) = pure (eRw l) := id rfl
theorem t_is_value (n : Nat) (v : Int) (h : 0 ≤ v ∧ v < 1000) : callF prg (n + 4) 6 [.int v] = pure (.bl true) := by
  refine eq_pure fun w => ?_
  rw [c_is_value]
  have q := t_is_below n v 1000
  rw [show decide (0 ≤ v ∧ v < 1000) = true from by simpa using h] at q
  simp [f_is_value, Vz0, Vz1, Vz2, Vz3, Vz4, Vz5, kx, SZ, beq_self_eq_true, List.contains_cons, List.contains_nil, q]
theorem Play_names (n : Nat) (rows : List Int) (h1 : 1 ≤ rows.length) (h5 : rows.length ≤ 5) (hv : ∀ v ∈ rows, 0 ≤ v ∧ v < 1000) (hn : rows.Nodup) : iniF (n + 9) 0 [.str s8_names, eRw rows] = pure (ePo s8_names (eRw rows) (eRw rows)) := by
  refine eq_pure fun w => ?_
  rw [i_Play]
  have q := row_ints n 6 rows h1 h5 (fun x hx => t_is_value (n + 1) x (hv x hx)) (by decide)
  have ll : b1op .len (eRw rows) = pure (.int rows.length) := by simp [eRw, Vz0, Vz1, Vz2, Vz3, Vz4, Vz5, kx, SZ, beq_self_eq_true, List.contains_cons, List.contains_nil]
  have q2 : callF prg (n + 7) 8 [.str s8_names, eRw rows] = pure (.bl true) := by
    refine eq_pure fun w => ?_
    rw [c_are_inputs]
    simp [f_are_inputs, Vz0, Vz1, Vz2, Vz3, Vz4, Vz5, kx, SZ, beq_self_eq_true, List.contains_cons, List.contains_nil, topk_names.1, q, dg_eRw, we_lenset_g, lens_eRw rows (by omega), ddup_len rows hn, ll]
  simp [f_Play_init, Vz0, Vz1, Vz2, Vz3, Vz4, Vz5, kx, SZ, beq_self_eq_true, List.contains_cons, List.contains_nil, isas_t, we_isax, q2, in_kindsO, ePo, dg_eRw]
/-! ### names: all that the law asks -/
section
variable (rows : List Int) (h1 : 1 ≤ rows.length) (h5 : rows.length ≤ 5)
theorem nd_LC {m : Nat} (c : LC) : NDS (m + 1) (eLC c) := by
  cases c with
  | none => exact .non
  | some p =>
    refine .tup (by simp) fun y hy => ?_
    simp only [List.mem_cons, List.not_mem_nil, or_false] at hy
    rcases hy with rfl | rfl <;> exact .int
theorem na_nd {W : List Nat} (V : (naOS rows h1 h5).ki.Wov W) (i : Nat) : NDS 5 ((naOS rows h1 h5).ki.e (naAt rows h1 h5 W i)) := by
  obtain ⟨tL, e, F, _⟩ := naF_at rows h1 h5 V i
  have K := naAt_ok rows h1 h5 V i
  have lc : (naAt rows h1 h5 W i).cells.length = rows.length := K.lc
  have ls : (naAt rows h1 h5 W i).states.length = rows.length := K.ls
  have lt := F.len
  show NDS 5 (.tup [.tup ((naAt rows h1 h5 W i).cells.map eLC), .tup ((naAt rows h1 h5 W i).states.map (eO eMS)), .tup ((naAt rows h1 h5 W i).told.map eT)])
  rw [e]
  refine .tup (by simp) fun x hx => ?_
  simp only [List.mem_cons, List.not_mem_nil, or_false] at hx
  rcases hx with rfl | rfl | rfl
  · refine .tup (by simp; omega) fun x hx => ?_
    obtain ⟨c, hc, rfl⟩ := List.mem_map.mp hx
    exact nd_LC c
  · refine .tup (by simp; omega) fun x hx => ?_
    obtain ⟨c, hc, rfl⟩ := List.mem_map.mp hx
    cases c with
    | none => exact .non
    | some s =>
      refine .tup (by simp) fun y hy => ?_
      simp only [List.mem_cons, List.not_mem_nil, or_false] at hy
      rcases hy with rfl | rfl
      · exact .int
      · exact .bl
  · refine .tup (by simp [eTs]; omega) fun x hx => ?_
    obtain ⟨o, ho, rfl⟩ := List.mem_map.mp hx
    cases o with
    | none => exact .tup (by simp) fun y hy => by simp at hy
    | some L =>
      refine .tup (by simp) fun y hy => ?_
      rw [List.mem_singleton.mp hy]
      exact .int
def naLK : LK (naOS rows h1 h5).ki where
  kd := naN
  rows := eRw rows
  rd := .int 0
  dk := id rfl
  dr := id rfl
  drd := id rfl
  lr := by
    show b1op .len (eRw rows) = pure (.int (rows.length : Int))
    simp [eRw, Vz0, Vz1, Vz2, Vz3, Vz4, Vz5, kx, SZ, beq_self_eq_true, List.contains_cons, List.contains_nil]
  begin := fun n => na_begin rows h1 h5 (n + 1)
  moved := fun n W i h V hi hm => by
    obtain ⟨s, hs⟩ := na_mv rows h1 h5 hm
    exact na_moved rows h1 h5 n (naAt rows h1 h5 W i) h s (naAt_ok rows h1 h5 V i) hs
theorem na_b0 {W : List Nat} (V : (naOS rows h1 h5).ki.Wov W) (i : Nat) : naB (naAt rows h1 h5 W i) ≤ 20 := by
  have q := naB_le (naAt rows h1 h5 W i)
  have a := mvD_len (S := ((naAt rows h1 h5 W i).states.map (eO eMS)))
  have ls : (naAt rows h1 h5 W i).states.length = rows.length := (naAt_ok rows h1 h5 V i).ls
  rw [List.length_map] at a
  omega
def naLD : LD (naOS rows h1 h5).ki where
  toLK := naLK rows h1 h5
  B := naB
  hB := fun g h t K e => na_less rows h1 h5 g h t K e
  b0 := fun W V => by
    have q := na_b0 rows h1 h5 V W.length
    show naB (naAt rows h1 h5 W W.length) < 2000
    omega
  dT := fun g => id rfl
  nd := fun W i V => na_nd rows h1 h5 V i
  nxt := fun W i h V hm => by
    obtain ⟨s, hs⟩ := na_mv rows h1 h5 hm
    refine ⟨_, eMS s, ?_, fun n => top_next_of (n + 1) _ topk_names _ _ _ _ _ (id rfl) (t_top_next (n + 4) _ _ (eMS s) s.put (id rfl) (id rfl)), fun n => na_next n s, ?_, ?_, ?_⟩
    · exact List.getElem?_map.trans (congrArg (Option.map (eO eMS)) hs)
    · cases s.put
      · exact .tup (by simp) fun y hy => by rw [List.mem_singleton.mp hy]; exact .str (by simp)
      · exact .tup (by simp) fun y hy => by rw [List.mem_singleton.mp hy]; exact .str (by simp)
    · cases s.put <;> rfl
    · cases s.put <;> rfl
  flt := fun n W i V hi => by
    obtain ⟨tL, e, F, _⟩ := naF_at rows h1 h5 V i
    show callF prg (n + 9) 49 [ePo s8_names (eRw rows) (eRw rows), _, .tup ((naAt rows h1 h5 W i).told.map eT)] = _
    rw [e]
    exact t_faultM n rows _ tL F h5
  lflt := fun n W i V hi => by
    obtain ⟨tL, e, F, _⟩ := naF_at rows h1 h5 V i
    show callF prg (n + 4) 65 [naN, eRw rows, .int 0, _, .tup ((naAt rows h1 h5 W i).told.map eT)] = _
    rw [e]
    exact t_law_faultM n rows _ tL F h5
/-! ### who goes on alone -/
theorem na_solo (g : OG LC MS) (h : Nat) (s : MS) (K : (naOS rows h1 h5).Ok g) (hs : g.states[h]? = some (some s)) :
    ((naOS rows h1 h5).stp g h).states[h]? = some none ∨ ∃ s' : MS, ((naOS rows h1 h5).stp g h).states[h]? = some (some s') ∧ nu ((naOS rows h1 h5).stp g h).cells h s' + 1 ≤ nu g.cells h s := by
  have hl := (List.getElem?_eq_some_iff.mp hs).1
  have lc : g.cells.length = rows.length := K.lc
  have ls : g.states.length = rows.length := K.ls
  obtain ⟨c, hc⟩ : ∃ c, g.cells[h]? = some c := ⟨g.cells[h]'(by omega), List.getElem?_eq_getElem _⟩
  have iv : naInv rows c h s := K.iv h c s hc hs
  rw [(naOS rows h1 h5).stp_is hs]
  have ea : (naOS rows h1 h5).aft h g.cells s = aftM rows h g.cells s := rfl
  rw [ea]
  unfold aftM
  cases z : s.put with
  | false =>
    refine .inr ⟨⟨s.wish, true⟩, List.getElem?_set_self hl, ?_⟩
    show nu (g.cells.set h (some (rows.getD h 0, s.wish))) h ⟨s.wish, true⟩ + 1 ≤ _
    unfold nu
    rw [wished_set, z]
    simp
  | true =>
    obtain ⟨own, ho⟩ := iv.1 z
    by_cases y : s.wish ∈ wishedM g.cells h
    · rw [if_pos rfl, if_pos y]
      have hown : ownM g.cells h = own := by unfold ownM; simp [List.getD, hc, ho]
      refine .inr ⟨⟨wishM g.cells h (ownM g.cells h), false⟩, List.getElem?_set_self hl, ?_⟩
      show nu g.cells h ⟨wishM g.cells h (ownM g.cells h), false⟩ + 1 ≤ _
      have nw := wish_new (cells := g.cells) (own := own) (v := s.wish) (h := h) (by rw [hc, ho])
      rw [hown]
      unfold nu
      rw [if_neg nw, if_pos y, z]
      simp
    · rw [if_pos rfl, if_neg y]
      exact .inl (List.getElem?_set_self hl)
theorem nu_pos (cells : List LC) (h : Nat) (s : MS) : 1 ≤ nu cells h s := by unfold nu; split <;> split <;> omega
end
end K13

set_option maxRecDepth 100000
set_option maxHeartbeats 400000
namespace K13
open PySem Ev
/-! ### names: the law -/
section
variable (rows : List Int) (h1 : 1 ≤ rows.length) (h5 : rows.length ≤ 5)
def LaI (d0 d2 d3 d4 d5 d6 d10 : D) (W : List Nat) (o : Nat) (w : Wd) (i : Nat) (e : Ev.Env) (w' : Wd) : Prop := w' = w ∧ ∃ (k : Nat) (j11 : Ev.Slot), k ≤ i ∧ (naOS rows h1 h5).ki.Wov (W ++ List.replicate k o) ∧
  ((naAt rows h1 h5 (W ++ List.replicate k o) (W ++ List.replicate k o).length).states[o]? = some none ∨ ∃ s : MS, (naAt rows h1 h5 (W ++ List.replicate k o) (W ++ List.replicate k o).length).states[o]? = some (some s) ∧ nu (naAt rows h1 h5 (W ++ List.replicate k o) (W ++ List.replicate k o).length).cells o s + i ≤ 4) ∧
  e = [.val d0, .val (.cel 0), .val d2, .val d3, .val d4, .val d5, .val d6, .val (eRw rows), .val (.int 0), .val (.lst (nhs W)), .val d10, j11, .val (.int (o : Int)), .val ((naOS rows h1 h5).ki.e (naAt rows h1 h5 (W ++ List.replicate k o) (W ++ List.replicate k o).length)), .val (.int (k : Int)), .un]
theorem na_S {g : OG LC MS} {o : Nat} {st : Option MS} (h : g.states[o]? = some st) : ((naOS rows h1 h5).ki.S g)[o]? = some (eO eMS st) := List.getElem?_map.trans (congrArg (Option.map (eO eMS)) h)
end
def LwI (ns : List Int) (_ : Nat) (e : Ev.Env) (w' : Wd) : Prop := HandOk w' ∧ ∃ j2 j3 j4 j5 j6 j7 j8 j9 j10 j11 j12 j13 j14 : Ev.Slot, zwS (some j12) = true ∧ zwS (some j13) = true ∧ zwS (some j14) = true ∧ e = [.val (.scr ns), .val (.cel 0), j2, j3, j4, j5, j6, j7, j8, j9, j10, j11, j12, j13, j14, .un]
theorem law_wp (n : Nat) (ns : List Int) : wp (callF prg (n + 20) 67 [.scr ns]) [] (fun d _ => d = .bl true) NoE := by
  rw [c_law]
  simp [f_law, Vz0, Vz1, Vz2, Vz3, Vz4, Vz5, kx, SZ, beq_self_eq_true, List.contains_cons, List.contains_nil]
  refine t_hand (n + 18) ns _ _ fun w1 H1 => ?_
  have r5 : rngOk (3 : Int) := rngOk_nat (n := 3) (by omega)
  have rr : rngD 0 3 = (List.range 3).map fun (i : Nat) => D.int (i : Int) := rngD0
  have r4 : rngOk (4 : Int) := rngOk_nat (n := 4) (by omega)
  have rr4 : rngD 0 4 = (List.range 4).map fun (i : Nat) => D.int (i : Int) := rngD0
  simp [Vz0, Vz1, Vz2, Vz3, Vz4, Vz5, kx, SZ, beq_self_eq_true, List.contains_cons, List.contains_nil, r5, rr]
  refine wp_forGo0 (LwI ns) ⟨H1, _, _, _, _, _, _, _, _, _, _, _, _, _, rfl, rfl, rfl, rfl⟩ (fun i d e w' hd hi => ?_) fun e w' hi => ?_
  · obtain ⟨H2, j2, j3, j4, j5, j6, j7, j8, j9, j10, j11, j12, j13, j14, z12, z13, z14, rfl⟩ := hi
    rw [List.getElem?_map] at hd
    obtain ⟨a, ha, rfl⟩ := Option.map_eq_some_iff.mp hd
    simp [Vz0, Vz1, Vz2, Vz3, Vz4, Vz5, kx, SZ, beq_self_eq_true, List.contains_cons, List.contains_nil]
    refine law_inputsM (n + 16) _ _ _ H2 fun rows w3 h1 h5 hv hn H3 => ?_
    have dl : der (eRw rows) = pure (eRw rows) := id rfl
    have qp := Play_names (n + 10) rows h1 h5 hv hn
    simp [Vz0, Vz1, Vz2, Vz3, Vz4, Vz5, kx, SZ, beq_self_eq_true, List.contains_cons, List.contains_nil, dl, qp, d_ePo]
    refine t_draw (n + 18) _ _ _ _ H3 (by omega) (by omega) fun most w4 hmost H4 => ?_
    refine led_right (naOS rows h1 h5).ki (naLD rows h1 h5) (n + 9) most (by omega) w4 _ _ H4 fun U w5 V ov H5 => ?_
    obtain ⟨tL, et, F, nn⟩ := naF_at rows h1 h5 V U.length
    have nn := nn ov
    have es : (naOS rows h1 h5).ki.e ((naOS rows h1 h5).ki.at U U.length) = .tup [(naOS rows h1 h5).ki.C (naAt rows h1 h5 U U.length), .tup ((naOS rows h1 h5).ki.S (naAt rows h1 h5 U U.length)), .tup (eTs D.int tL)] := by rw [← et]; rfl
    have it : itemsOf (.tup (eTs D.int tL)) = pure (tL.map fun o => eT (o.map D.int)) := id rfl
    have lt := F.len
    rw [es]
    simp [Vz0, Vz1, Vz2, Vz3, Vz4, Vz5, kx, SZ, beq_self_eq_true, List.contains_cons, List.contains_nil, it]
    refine ⟨by omega, wp_lc1 (fun o => eT (o.map D.int)) (fun _ => .bl true) tL (fun _ => rfl) (fun o ho => ?_) ?_⟩
    · cases o with
      | none => exact absurd rfl (nn none ho)
      | some L => simp [Vz0, Vz1, Vz2, Vz3, Vz4, Vz5, kx, SZ, beq_self_eq_true, List.contains_cons, List.contains_nil, eT]
    · simp [Vz0, Vz1, Vz2, Vz3, Vz4, Vz5, kx, SZ, beq_self_eq_true, List.contains_cons, List.contains_nil, allT, d_ePo, dl]
      refine t_draw (n + 18) _ _ _ _ H5 (by omega) (by omega) fun mst w6 hmst H6 => ?_
      refine law_woven (naOS rows h1 h5).ki (naLK rows h1 h5) (n + 16) mst (by omega) w6 _ _ H6 fun W w7 VW hlW H7 => ?_
      have sl : L2.atI ((naOS rows h1 h5).ki.stood W (W.length + 1)) (-1) = some ((naOS rows h1 h5).ki.e ((naOS rows h1 h5).ki.at W W.length)) := KI.stood_last
      have ql := (naOS rows h1 h5).ki.t_left (n + 18) ((naOS rows h1 h5).ki.at W W.length) (KI.at_ok VW W.length)
      have de := fun g => KI.d_e (K := (naOS rows h1 h5).ki) (g := g)
      have ml : (mvD ((naOS rows h1 h5).ki.S ((naOS rows h1 h5).ki.at W W.length))).length ≤ 5 := Nat.le_trans mvD_len (by rw [(naOS rows h1 h5).ki.ln _ (KI.at_ok VW W.length)]; exact h5)
      have mm : ∀ o ∈ mvD ((naOS rows h1 h5).ki.S ((naOS rows h1 h5).ki.at W W.length)), ∃ s : MS, (naAt rows h1 h5 W W.length).states[o]? = some (some s) := fun o ho => na_mv rows h1 h5 ho
      generalize mvD ((naOS rows h1 h5).ki.S ((naOS rows h1 h5).ki.at W W.length)) = ms at *
      have li : b1op .list (eHands ms) = pure (.lst (nhs ms)) := id rfl
      simp [Vz0, Vz1, Vz2, Vz3, Vz4, Vz5, kx, SZ, beq_self_eq_true, List.contains_cons, List.contains_nil, de, sl, ql, d_eHands, l_eHands]
      by_cases hz : ms = []
      · subst hz
        simp [Vz0, Vz1, Vz2, Vz3, Vz4, Vz5, kx, SZ, beq_self_eq_true, List.contains_cons, List.contains_nil]
        exact ⟨H7, _, _, _, _, _, _, _, _, _, _, _, _, _, z12, z13, z14, rfl⟩
      · have hz2 : 0 < ms.length := List.length_pos_iff.mpr hz
        have hz3 : (0 : Int) < (ms.length : Int) := by omega
        simp [Vz0, Vz1, Vz2, Vz3, Vz4, Vz5, kx, SZ, beq_self_eq_true, List.contains_cons, List.contains_nil, hz2, hz3, li, parE, contD, d_eHands, z12, z13, z14, de]
        refine t_some (n + 17) _ _ _ _ H7 (by simp [nhs]; omega) (by simp [nhs]; omega) fun x w8 hx H8 => ?_
        obtain ⟨o, ho, rfl⟩ := List.mem_map.mp hx
        obtain ⟨s0, hs0⟩ := mm o ho
        simp [Vz0, Vz1, Vz2, Vz3, Vz4, Vz5, kx, SZ, beq_self_eq_true, List.contains_cons, List.contains_nil, r4, rr4, sl]
        have x1 := fun g => KI.x1 (naOS rows h1 h5).ki g
        have nil : W ++ List.replicate 0 o = W := List.append_nil W
        refine wp_forGo0 (LaI rows h1 h5 (.scr ns) (.int (a : Int)) (ePo s8_names (eRw rows) (eRw rows)) (D.tup [(naOS rows h1 h5).ki.C (naAt rows h1 h5 U U.length), .tup ((naOS rows h1 h5).ki.S (naAt rows h1 h5 U U.length)), .tup (eTs D.int tL)]) (eHands ms) (eRw rows) (.lst ((naOS rows h1 h5).ki.stood W (W.length + 1))) W o w8) ⟨rfl, 0, j11, Nat.le_refl _, nil.symm ▸ VW, .inr ⟨s0, nil.symm ▸ hs0, by have := nu_le (naAt rows h1 h5 W W.length).cells o s0; rw [nil]; simpa using this⟩, nil.symm ▸ rfl⟩ (fun k d e w' hd hi => ?_) fun e w' hi => ?_
        · obtain ⟨rfl, q, j11, le, VU, st, rfl⟩ := hi
          rw [List.getElem?_map] at hd
          obtain ⟨b, hb, rfl⟩ := Option.map_eq_some_iff.mp hd
          have snoc : W ++ List.replicate (q + 1) o = (W ++ List.replicate q o) ++ [o] := by rw [List.replicate_succ', List.append_assoc]
          generalize hU : W ++ List.replicate q o = U2 at *
          have dg : der ((naOS rows h1 h5).ki.e (naAt rows h1 h5 U2 U2.length)) = pure ((naOS rows h1 h5).ki.e (naAt rows h1 h5 U2 U2.length)) := id rfl
          have xg : idxop ((naOS rows h1 h5).ki.e (naAt rows h1 h5 U2 U2.length)) (.int 1) = pure (.tup ((naOS rows h1 h5).ki.S (naAt rows h1 h5 U2 U2.length))) := KI.x1 _ _
          rcases st with st | ⟨s, st, nb⟩
          · have xo := na_S rows h1 h5 st
            simp [Vz0, Vz1, Vz2, Vz3, Vz4, Vz5, kx, SZ, beq_self_eq_true, List.contains_cons, List.contains_nil, dg, xg, xo, eO_none]
            exact ⟨rfl, q, _, by omega, by rw [hU]; exact VU, .inl (by rw [hU]; exact st), by rw [hU]⟩
          · have xo := na_S rows h1 h5 st
            have hm : o ∈ mvD ((naOS rows h1 h5).ki.S (naAt rows h1 h5 U2 U2.length)) := (naOS rows h1 h5).mv.mpr ⟨s, st⟩
            have mv := (naLK rows h1 h5).moved (n + 17) U2 U2.length o VU (Nat.le_refl _) hm
            have mv : callF prg (n + 19) 59 [naN, eRw rows, .int 0, (naOS rows h1 h5).ki.e (naAt rows h1 h5 U2 U2.length), .int (o : Int)] = pure ((naOS rows h1 h5).ki.e (naAt rows h1 h5 (U2 ++ [o]) (U2 ++ [o]).length)) := by
              unfold naAt
              rw [KI.at_snoc]
              exact mv
            have dx : der (eMS s) = pure (eMS s) := id rfl
            have sol := na_solo rows h1 h5 _ o s (naAt_ok rows h1 h5 VU U2.length) st
            have e2 : (naOS rows h1 h5).stp (naAt rows h1 h5 U2 U2.length) o = naAt rows h1 h5 (U2 ++ [o]) (U2 ++ [o]).length := by
              unfold naAt
              rw [KI.at_snoc]
              rfl
            rw [e2] at sol
            simp [Vz0, Vz1, Vz2, Vz3, Vz4, Vz5, kx, SZ, beq_self_eq_true, List.contains_cons, List.contains_nil, dg, xg, xo, eO_some, dx, mv, parE, contD, dl, show isNon (eMS s) = false from rfl, show isIns (eMS s) = false from rfl]
            refine ⟨rfl, q + 1, _, by omega, by rw [snoc]; exact KI.wov_app VU hm, ?_, by rw [snoc, show (U2 ++ [o]).length = U2.length + 1 from by simp]; rfl⟩
            rw [snoc]
            rcases sol with z | ⟨s', z, lt⟩
            · exact .inl z
            · exact .inr ⟨s', z, by omega⟩
        · obtain ⟨rfl, q, j11, le, VU, st, rfl⟩ := hi
          have l4 : ((List.range 4).map fun (i : Nat) => D.int (i : Int)).length = 4 := by simp
          rw [l4] at le st
          have ap : nhs W ++ List.replicate q (D.int (o : Int)) = nhs (W ++ List.replicate q o) := by simp [nhs]
          have l1 : (nhs W).length = W.length := by simp [nhs]
          generalize hU : W ++ List.replicate q o = U2 at *
          have lU : U2.length ≤ 6000 := by rw [← hU]; simp; omega
          have st : (naAt rows h1 h5 U2 U2.length).states[o]? = some none := by
            rcases st with st | ⟨s, st, nb⟩
            · exact st
            · have := nu_pos (naAt rows h1 h5 U2 U2.length).cells o s
              omega
          have xo := na_S rows h1 h5 st
          have dg : der ((naOS rows h1 h5).ki.e (naAt rows h1 h5 U2 U2.length)) = pure ((naOS rows h1 h5).ki.e (naAt rows h1 h5 U2 U2.length)) := id rfl
          have xg : idxop ((naOS rows h1 h5).ki.e (naAt rows h1 h5 U2 U2.length)) (.int 1) = pure (.tup ((naOS rows h1 h5).ki.S (naAt rows h1 h5 U2 U2.length))) := KI.x1 _ _
          have mu : binop .mul (.lst [.int (o : Int)]) (.int (q : Int)) = pure (.lst (List.replicate q (.int (o : Int)))) := by
            rw [mull_nat (by simp) (by omega)]
            simp
          have rn : callF prg (n + 19) 40 [ePo s8_names (eRw rows) (eRw rows), .lst (nhs W ++ List.replicate q (.int (o : Int)))] = pure ((naOS rows h1 h5).ki.e (naAt rows h1 h5 U2 U2.length)) := by
            rw [ap]
            exact g_run (naOS rows h1 h5).ki (n + 11) U2 (.lst (nhs U2)) VU (.inr rfl) lU
          have ei : callF prg (n + 19) 54 [(naOS rows h1 h5).ki.e (naAt rows h1 h5 U2 U2.length), (naOS rows h1 h5).ki.e (naAt rows h1 h5 U2 U2.length)] = pure (.bl true) := t_law_is 5 (n + 13) _ (na_nd rows h1 h5 VU U2.length)
          simp [Vz0, Vz1, Vz2, Vz3, Vz4, Vz5, kx, SZ, beq_self_eq_true, List.contains_cons, List.contains_nil, dg, xg, xo, eO_none, rn, ei, d_ePo]
          exact ⟨by omega, by omega, H8, _, _, _, _, _, _, _, _, _, _, _, _, _, rfl, rfl, rfl, rfl⟩
  · obtain ⟨H2, j2, j3, j4, j5, j6, j7, j8, j9, j10, j11, j12, j13, j14, z12, z13, z14, rfl⟩ := hi
    simp [Vz0, Vz1, Vz2, Vz3, Vz4, Vz5, kx, SZ, beq_self_eq_true, List.contains_cons, List.contains_nil]
theorem law_ok (ns : List Int) : ∃ w, callF prg 20 67 [.scr ns] [] = .ok (.bl true) w := by
  have q := law_wp 0 ns
  unfold wp at q
  cases z : callF prg (0 + 20) 67 [.scr ns] [] with
  | ok d w => rw [z] at q; dsimp only at q; subst q; exact ⟨w, rfl⟩
  | exc c x w => rw [z] at q; exact q.elim
  | stk => rw [z] at q; exact q.elim
end K13

set_option maxRecDepth 100000
set_option maxHeartbeats 0
namespace K13
open PySem PySem.Spec PyProof.Rows L2 Ev
theorem fd_one {K : PySem.W.Frag} {x qual : Str} {ps : Arguments} {body : List Stmt} {scope : Scope} {f : Addr} {fd fd' : FuncData} (A : FunD K x qual ps body scope [] [] f fd) (B : FunD K x qual ps body scope [] [] f fd') : fd' = fd := by
  obtain ⟨_, _, _, _, _, _, _, _, _, _, _, h1, _⟩ := A.ex
  obtain ⟨_, _, _, _, _, _, _, _, _, _, _, h2, _⟩ := B.ex
  rw [h1] at h2
  injection h2 with h2
  injection h2 with _ _ h3
  injection h3 with h3
  exact h3.symm
theorem facts {P : Program} {w : World} {K : PySem.W.Frag} {h : Heap} {mg : Str → Option Value} {f : Addr} (X : K.In h) (G : h.Ns mainGlobals mg) (hfa : mg (Str.ofString "law") = some (.ref f)) (c : obsM dt prg fn K = valM fn) :
    ∃ (fd : FuncData) (sp : Sp), (∀ (s : Shared) (v : Value), BindsTo s fd ⟨[v], []⟩ [(Str.ofString "_law_script", v)]) ∧
      (∀ (H : Hp) (a : Addr) (ns : List Int), ns.length ≤ 63 → Only H → SqL K H a (ns.map V.int) → sp [.ref a] H (fun v _ => v = .bl true) fun _ _ _ => False) ∧
      ∀ base : Heap, K.In base → base.Ns mainGlobals mg → FnOk P w K mg base (L2.CX P w) 21 f fd [Str.ofString "_law_script"] sp := by
  have F : PF prg (dt.G K) P w mg ((fn.zip names).map fun p => afOf p.1 p.2) dt.T := says_pf X G c (by kernel_rfl) (by kernel_rfl) (by kernel_rfl)
    (fun c k hk => by
      match c, hk with
      | 0, _ => exact Nat.lt_succ_self 0
      | n + 1, hk =>
        have e : prg.cls (n + 1) = none := rfl
        rw [e] at hk
        cases hk) chk
  have e1 : mg (Str.ofString "law") = some (.ref ((dt.G K).fa 67)) := (F.fnT _ _ (by kernel_rfl)).1
  rw [hfa] at e1
  have e2 : f = (dt.G K).fa 67 := by
    have := Option.some.inj e1
    injection this
  subst e2
  have ok := fun (base : Heap) => ok_call (base := base) (xf := fun _ => none) F 20 67 (by decide)
  obtain ⟨a, f0, fd, ha, hf, D, hb, _⟩ := ok h
  obtain ⟨_, h1, h2, h3, h4, _⟩ := fnScope_of (F.chk _ a f0 ha hf)
  have eN : a.N.take f0.np = [Str.ofString "_law_script"] := by
    have q : ((((fn.zip names).map fun p => afOf p.1 p.2)[67]?).map fun a => a.N.take 1) = some [Str.ofString "_law_script"] := by kernel_rfl
    rw [ha] at q
    have q2 : (prg.fns[67]?).map (fun f => f.np) = some 1 := by kernel_rfl
    rw [hf] at q2
    have q3 : f0.np = 1 := Option.some.inj q2
    rw [q3]
    exact Option.some.inj q
  rw [eN] at h1
  refine ⟨fd, spOf (dt.G K) (fun _ => none) (callF prg 20 67), fun s v => ?_, fun H b ns hl hO hS => law_sp (Nat.le_trans hl (by decide)) hO hS (law_ok ns), fun base hK hN => ?_⟩
  · exact FunD.bindsA (ps := [Str.ofString "_law_script"]) D (fun kV doc pm an cdv ct us hl => plain_binds h1 (by simp) hl) s [v] rfl
  · obtain ⟨a', f', fd', ha', hf', D', _, ok'⟩ := ok base
    rw [ha] at ha'
    cases ha'
    rw [hf] at hf'
    cases hf'
    have e3 : fd' = fd := fd_one D D'
    rw [e3, eN] at ok'
    exact ok'
/-- the law's call, over a head by facts; what is let out may lean on the world -/
theorem walk_w {l : PySem.W.OpenLaw} {n k : Nat} {q : Program} {loose : List Str} {XP : (Str → Option Value) → Heap → Prop} {YP : World → Heap → Prop} {d : DefRec} {Cx : World → CXT} {x : Str}
    (hn : l.most = some n) (h2 : n ≤ sizeLine) (h3 : d.params.defaults = []) (hr : Room k callerA)
    (F : ∀ (w : World) (mg : Str → Option Value) (fa : Addr) (h : Heap), YP w h → h.Ns mainGlobals mg → mg d.name = some (.ref fa) → ∃ (K : PySem.W.Frag) (fd : FuncData) (sp : Sp),
      K.In h ∧ (∀ (s : Shared) (u : Value), BindsTo s fd ⟨[u], []⟩ [(x, u)]) ∧ (∀ (H : Hp) (a : Addr) (ns : List Int), ns.length ≤ n → Only H → SqL K H a (ns.map V.int) → sp [.ref a] H (fun v _ => v = .bl true) fun _ _ _ => False) ∧ ∀ base : Heap, K.In base → base.Ns mainGlobals mg → FnOk l.prog w K mg base (Cx w) k fa fd [x] sp)
    (hC : ∀ (w : World) (H : Hp) (s : Shared) (e : Value) (s' : Shared), Cx w [] H s (fun _ _ _ => False) e s' → False) : PySem.W.WalkO q loose XP YP l.row.toRowW d [] fun f vs => PySem.call f vs :=
  Att.attach_call hn h3 fun w _ s1 mg _ fa _ _ _ _ a _ ns G Y _ _ _ m1 m2 m3 m4 m5 => by
    obtain ⟨K, fd, sp, KX, hb, hsp, hF⟩ := F w mg fa _ Y G.T.g m1
    have hs := fun (H : Hp) (o : Only H) (q : SqL K H a (ns.map V.int)) => hsp H a ns m4 o q
    exact law_call KX G.T.g G.T.b G.T.builtins G.T.nolimit m5 m2 m3 (Nat.le_trans m4 h2) hr hF hb hs fun H e s' => hC w H s1 e s'
theorem hCX {P : Program} {w : World} (H : Hp) (s : Shared) (e : Value) (s' : Shared) (h : L2.CX P w [] H s (fun _ _ _ => False) e s') : False := by
  obtain ⟨_, _, _, _, _, _, _, _, _, _, _, _, z⟩ := h
  exact z
end K13
open PySem PySem.W PySem.Calls PyProof.Rows
theorem PySem.Challenge.cw_onepicture_k13_whole_new_names_holds : PySem.Challenge.rw_onepicture_k13_whole_new_names.Holds := by
  w_on; o_law
  refine HandSHeadRun.head_any (r := OpenLaw.row PySem.Challenge.rw_onepicture_k13_whole_new_names) (q := view (OpenLaw.row PySem.Challenge.rw_onepicture_k13_whole_new_names).prog [137]) (H := K13.hk) (ob := K13.ob) (M := 6000) (loose := K13.loose) (d := HandSHeadRun.topDef (OpenLaw.row PySem.Challenge.rw_onepicture_k13_whole_new_names).prog 137) (kwd := []) K13.ob_eq
    (by kernel_rfl) (fun s => by kernel_rfl) K13.run (by kernel_rfl) (by kernel_rfl) (by kernel_rfl) (by rfl) (by first | assumption | decide +kernel) (by decide +kernel) ⟨rfl, rfl, rfl, rfl, rfl, by decide +kernel⟩ ?hw ?hc
  case hw => w_witness2
  case hc =>
    refine K13.walk_w (l := PySem.Challenge.rw_onepicture_k13_whole_new_names) (n := 63) (k := 21) (x := PySem.Str.ofString "_law_script") (Cx := fun w => L2.CX (PySem.Challenge.rw_onepicture_k13_whole_new_names).prog w) rfl (by decide) (by kernel_rfl) ⟨rfl, by decide, by decide⟩ ?F fun _ => K13.hCX
    intro w mg fa h Y G m0
    obtain ⟨K, KX, c⟩ := Y
    have m1 : mg (PySem.Str.ofString "law") = some (.ref fa) := by
      have e : (HandSHeadRun.topDef (OpenLaw.row PySem.Challenge.rw_onepicture_k13_whole_new_names).prog 137).name = PySem.Str.ofString "law" := by kernel_rfl
      rw [← e]
      exact m0
    obtain ⟨fd, sp, hb, hs, hF⟩ := K13.facts (P := (PySem.Challenge.rw_onepicture_k13_whole_new_names).prog) (w := w) KX G m1 c
    exact ⟨K, fd, sp, KX, hb, hs, hF⟩
