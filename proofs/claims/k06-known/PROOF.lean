import PyProof.Rows.All
import Wide.All
import OpenK.AllK
import Wide.FinOn
import KE.KStateDown
import KE.KNestM
import HandS.Base
import HandS.Call
import HandS.List
import HandS.Words
import HandS.Slots
import HandS.SlotsOwn
import HandS.HeadWalk
import HandS.Head0
import HandS.Head1
import HandS.Head2
import HandS.HeadEnd
import HandS.HeadHook1
import HandS.HeadHook2
import KE.KeyNested
import HandS.Comp
import HandS.Exc
import HandS.Lambda
import HandS.Dict
import KE.KDictCopyH
import KE.KDictWalk
import KE.KDictPairs
import HandS.TupLen
import HandS.Iter
import HandS.Zip
import KE.GoesEnum
import HandS.More
import HandS.IsInst
import HandS.IterNext
import HandS.Wide
import HandS.TupAny
import HandS.TupLe
import HandS.Deep
import HandS.Star
import HandS.CallSlots
import HandS.ExcOwn
import HandS.Conv
import HandS.Style
import HandS.TupSets
import PyProof.AutoSeq1
import HandS.DictComp
import KE.SortKeyHeap
import HandS.AnyAll
import KE.KDictIter
import HandS.IterVal
import HandS.Defaults
import KE.KTupSum
import PySem.Challenge.RW_coolway_k06_known
section
set_option Elab.async false
set_option linter.all false
set_option maxRecDepth 100000
/-! Ev: what is looked at behind the top of the text: the tables, the Hook. -/
namespace Ev
open PySem PySem.Spec PyProof.Rows L2

/-- an attribute: for each class that has it, a slot or a property -/
inductive At where
  | slot (i : Nat)
  | prop (f : Nat)
inductive Bt where | max | min | abs | len | int | bool | str | tuple | list | dict | set | isinstance | all | any | sum | sorted | range | enumerate | zip | next | iter
inductive Rl where
  | fn (f : Nat)
  | cl (c : Nat)
  | ci (i : Int)
  | bt (b : Bt)
structure GS where
  roles : List (Str × Rl)
  atts : List (Str × List (Nat × At))
  meths : List (Str × List (Nat × Nat))
  inits : List (Nat × Nat × Nat)
  /-- for each class: what isinstance says of instances of each class -/
  iss : List (Nat × List (Nat × Bool))
  /-- classes with an own __iter__: the slot, the def, the attribute -/
  its : List (Nat × Nat × Nat × Str)
  /-- classes whose own == is asked -/
  eqs : List Nat
  /-- classes whose instances are listed: list(o) -/
  lss : List Nat
/-- where the classes stand; the tables of code objects, with the name that their code objects bear -/
structure Tb where
  at_ : Addr
  q : Str
  /-- where its lambdas stand: lines, columns -/
  ls : List (Nat × Nat)
structure CT where
  c : Nat → Addr
  tb : List Tb
instance : CoeFun CT fun _ => Nat → Addr := ⟨CT.c⟩
/-- where the classes, the functions, the exceptions' classes stand; an exception's field -/
structure Pl where
  C : CT
  F : Nat → Addr
  X : Nat → Value
  xf : Nat → Str
/-- where a def stands -/
inductive Pth where
  | glo (x : Str)
  | meth (x m : Str)
  | prop (x m : Str)
def Pth.ad (K : PySem.W.Frag) : Pth → Addr
  | .glo x => He.ga K x
  | .meth x m => He.ma K (He.ga K x) m
  | .prop x m => match PySem.W.recIn K (He.ma K (He.ga K x) m) "property" with
    | some (.ref g :: _) => g
    | _ => 0
structure Df where
  at_ : Pth
  name : Str
  qual : Str
  params : Arguments
  body : List Stmt
  scope : Scope
  /-- the names by slot -/
  N : List Str
  /-- where its lambdas stand, if it makes code objects -/
  lam : Option (List (Nat × Nat))
  /-- the memory is told anew ahead of each of its statements -/
  re : Bool
def fnAtK (K : PySem.W.Frag) (a : Addr) : He.FnW := match K.lookup a with
  | some ⟨_, _, .func fd, _⟩ => some (fd.name, fd.qualname, fd.params, fd.body, fd.scope, fd.globals, fd.closure, fd.builtins)
  | _ => none
def Df.val (d : Df) : He.FnW := some (d.name, d.qual, d.params, .stmts d.body, d.scope, mainGlobals, [], builtinsNs)
def Df.ok (K : PySem.W.Frag) (d : Df) : Bool := PySem.W.keepIn K (.ref (d.at_.ad K)) && (match K.lookup (d.at_.ad K) with
  | some ⟨_, _, .func fd, _⟩ => PySem.W.codeIn K fd.code d.qual && He.dflB K fd.defaults []
  | _ => false)
/-! ### the facts -/
def dfAd (K : PySem.W.Frag) (ds : List Df) (f : Nat) : Addr := match ds[f]? with
  | some d => d.at_.ad K
  | none => 0
def clAd (K : PySem.W.Frag) (cn : List Str) (c : Nat) : Addr := match cn[c]? with
  | some x => He.ga K x
  | none => 0
/-- a def's code object, its table -/
def codeV (v : Value) : Addr := match v with
  | .ref c => c
  | _ => 0
def codeAd (K : PySem.W.Frag) (a : Addr) : Addr := match K.lookup a with
  | some ⟨_, _, .func fd, _⟩ => codeV fd.code
  | _ => 0
def tabAd (K : PySem.W.Frag) (c : Addr) : Addr := match K.lookup c with
  | some ⟨_, _, .fields vs, _⟩ => (match (vs[11]? : Option Value) with
    | some (.ref P) => P
    | _ => 0)
  | _ => 0
def dfTb (K : PySem.W.Frag) (d : Df) (ls : List (Nat × Nat)) : Tb := ⟨tabAd K (codeAd K (d.at_.ad K)), d.qual ++ ".<locals>." ++ "<lambda>", ls⟩
def tbOf (K : PySem.W.Frag) (ds : List Df) : List Tb := ds.filterMap fun d => d.lam.map (dfTb K d)
def csOf (K : PySem.W.Frag) (ds : List Df) : List (Addr × Addr) := ds.filterMap fun d => d.lam.map fun _ => (codeAd K (d.at_.ad K), tabAd K (codeAd K (d.at_.ad K)))
def plOf (K : PySem.W.Frag) (cn : List Str) (ds : List Df) : Pl := ⟨⟨clAd K cn, tbOf K ds⟩, dfAd K ds, fun _ => .none, fun _ => Str.empty⟩
def nodA : List Addr → Bool
  | [] => true
  | a :: r => !(r.any fun b => Nat.beq a b) && nodA r
def refB (v : Value) : Bool := match v with
  | .ref _ => true
  | _ => false
def codeB (K : PySem.W.Frag) (a : Addr) : Bool := match K.lookup a with
  | some ⟨_, _, .func fd, _⟩ => refB fd.code
  | _ => false
/-- the defs with tables -/
def lamB (K : PySem.W.Frag) (ds : List Df) : Bool := nodA ((tbOf K ds).map (·.at_)) && ds.all fun d => match d.lam with
  | none => true
  | some _ => codeB K (d.at_.ad K) && (PySem.W.codeHdIn K (codeAd K (d.at_.ad K)) (tabAd K (codeAd K (d.at_.ad K))) && (K.lookup (tabAd K (codeAd K (d.at_.ad K)))).isNone)
def sclsB (K : PySem.W.Frag) (C : Addr) : Bool := PySem.W.plainGet K C Str.empty && (PySem.W.isClsIn K C && (PySem.W.plainOver K C && He.eqO (PySem.W.findIn K (.ref C) "__setattr__") (some (some (.builtin "object.__setattr__")))))
def isiB (K : PySem.W.Frag) (C : Addr) : Bool := He.eqO (PySem.W.findIn K (.ref C) "__class__") (some (some (.builtin "object.__class__"))) && (decide (PySem.W.specialIn K (.builtin "object.__class__") "__get__" = some (some (.builtin "getset_descriptor.__get__"))) &&
  (decide (PySem.W.takesIn K (.builtin "object.__class__") = some true) && decide (PySem.W.mroIn K C (.type "object") = some true)))
def kitTB (K : PySem.W.Frag) (C : Addr) : Bool := (["int", "bool", "str", "tuple", "list"].all fun T => decide (PySem.W.kitOne K (.ref C) (.type T) = some false)) &&
  ["NoneType", "bool", "int", "str", "tuple", "list", "dict"].all fun T => decide (PySem.W.kitOne K (.type T) (.ref C) = some false)
def slot1B (K : PySem.W.Frag) (C : Addr) (f : Str) (i : Nat) : Bool := match PySem.W.findIn K (.ref C) f with
  | some (some (.ref p)) => decide (PySem.W.specialIn K (.ref p) "__get__" = some (some (.builtin "member_descriptor.__get__"))) && (decide (PySem.W.takesIn K (.ref p) = some true) && (decide (PySem.W.typeIn K (.ref p) = some (.type "member_descriptor")) &&
      (decide (PySem.W.slotIn K p C = some i) && decide (i < 1000))))
  | _ => false
def propB (K : PySem.W.Frag) (C : Addr) (f : Str) (g : Addr) : Bool := match PySem.W.findIn K (.ref C) f with
  | some (some (.ref q)) => decide (PySem.W.specialIn K (.ref q) "__get__" = some (some (.builtin "property.__get__"))) && (decide (PySem.W.takesIn K (.ref q) = some true) && (match PySem.W.recIn K q "property" with
    | some (.ref k :: _) => decide (k = g)
    | _ => false))
  | _ => false
def methB (K : PySem.W.Frag) (C : Addr) (m : Str) (f : Addr) : Bool := He.eqO (PySem.W.findIn K (.ref C) m) (some (some (.ref f))) && (PySem.W.isFn K (.ref f) && PySem.W.keepIn K (.ref f))
def mkB (K : PySem.W.Frag) (C f : Addr) : Bool := PySem.W.makesIn K C && (He.eqO (PySem.W.findIn K (.ref C) "__init__") (some (some (.ref f))) && (PySem.W.isFn K (.ref f) && PySem.W.keepIn K (.ref C)))
def roleB (K : PySem.W.Frag) (cn : List Str) (ds : List Df) (q : Str × Rl) : Bool := match q.2 with
  | .fn f => (He.Fa.glo q.1).ok K && decide (He.ga K q.1 = dfAd K ds f)
  | .cl c => ((He.Fa.glo q.1).ok K && decide (He.ga K q.1 = clAd K cn c)) && (sclsB K (clAd K cn c) && (isiB K (clAd K cn c) && kitTB K (clAd K cn c)))
  | .ci i => (He.Fa.int q.1 i).ok K
  | .bt _ => (He.Fa.free q.1).ok K
def attB (K : PySem.W.Frag) (cn : List Str) (ds : List Df) (f : Str) (q : Nat × At) : Bool := sclsB K (clAd K cn q.1) && match q.2 with
  | .slot i => slot1B K (clAd K cn q.1) f i
  | .prop g => propB K (clAd K cn q.1) f (dfAd K ds g)
def injB (K : PySem.W.Frag) (cn : List Str) (r1 r2 : Str × Rl) : Bool := match r1.2 with
  | .cl b => match r2.2 with
    | .cl c => Nat.beq b c || !(decide (clAd K cn b = clAd K cn c))
    | _ => true
  | _ => true
def hasCl (gs : GS) (c : Nat) : Bool := gs.roles.any fun r => match r.2 with
  | .cl b => Nat.beq b c
  | _ => false
def nfB (K : PySem.W.Frag) (cn : List Str) (b : Nat) (r : Str × Rl) : Bool := match r.2 with
  | .cl c => PySem.W.notFirst K (clAd K cn b) (.ref (clAd K cn c))
  | _ => true
def lsB (K : PySem.W.Frag) (C : Addr) : Bool := He.eqO (PySem.W.findIn K (.ref C) "__len__") (some none) && He.eqO (PySem.W.findIn K (.ref C) "__length_hint__") (some none)
def exB (cn : List Str) (ds : List Df) (gs : GS) (K : PySem.W.Frag) : Bool :=
  lamB K ds && (gs.roles.all (roleB K cn ds) && ((gs.atts.all fun a => a.2.all (attB K cn ds a.1)) && ((gs.meths.all fun a => a.2.all fun q => sclsB K (clAd K cn q.1) && methB K (clAd K cn q.1) a.1 (dfAd K ds q.2)) && ((gs.inits.all fun a => mkB K (clAd K cn a.1) (dfAd K ds a.2.1)) &&
    ((gs.iss.all fun a => a.2.all fun q => hasCl gs q.1 && decide (PySem.W.kitOne K (.ref (clAd K cn q.1)) (.ref (clAd K cn a.1)) = some q.2)) && (gs.roles.all fun r1 => gs.roles.all fun r2 => injB K cn r1 r2) && ((gs.eqs.all fun b => gs.roles.all (nfB K cn b)) && gs.lss.all fun c => lsB K (clAd K cn c)))))))
/-! ### the Hook -/
def notList (o : Obj) : Bool := match o.cls with
  | .type c => !(decide (c = "list"))
  | _ => true
def notTab (o : Obj) : Bool := match o.cls with
  | .none => (match o.data with
    | .fields _ => false
    | _ => true)
  | _ => true
def frV (g : Addr → Option Obj) (as : List Addr) : PySem.W.Frag := (He.frG g as).filter fun p => notList p.2 && notTab p.2
theorem lookup_mem {α β : Type} [BEq α] [LawfulBEq α] {a : α} {b : β} : ∀ {l : List (α × β)}, l.lookup a = some b → (a, b) ∈ l
  | [], h => by cases h
  | (x, y) :: r, h => by
    rw [List.lookup_cons] at h
    cases e : (a == x) with
    | true =>
      rw [e] at h
      have := eq_of_beq e
      subst this
      cases h
      exact List.mem_cons_self
    | false =>
      rw [e] at h
      exact List.mem_cons_of_mem _ (lookup_mem h)
theorem frG_mem {g : Addr → Option Obj} {a : Addr} {o : Obj} : ∀ {as : List Addr}, (a, o) ∈ He.frG g as → g a = some o
  | as, h => by
    unfold He.frG at h
    obtain ⟨b, _, e⟩ := List.mem_filterMap.mp h
    cases q : g b with
    | none => rw [q] at e; cases e
    | some u => rw [q] at e; cases e; exact q
theorem frV_in {as : List Addr} {h : Heap} : (frV h.get? as).In h := fun a o e => frG_mem (List.mem_filter.mp (lookup_mem e)).1
theorem frV_nl {as : List Addr} {g : Addr → Option Obj} {a : Addr} {o : Obj} (e : (frV g as).lookup a = some o) : o.cls ≠ .type "list" := fun z => by
  have q := (He.ba (List.mem_filter.mp (lookup_mem e)).2).1
  unfold notList at q
  rw [z] at q
  cases q
abbrev AlV : Type := Bool × List He.FnW
def obsV (cn : List Str) (ds : List Df) (gs : GS) (K : PySem.W.Frag) : AlV := (exB cn ds gs K && ds.all (Df.ok K), ds.map fun d => fnAtK K (d.at_.ad K))
def valV (ds : List Df) : AlV := (true, ds.map Df.val)
/-- the table is empty -/
def tabEB (o : Option Obj) : Bool := match o with
  | some ⟨.none, none, .fields vs, sl⟩ => vs.isEmpty && sl.isEmpty
  | _ => false
theorem tabEB_ok {o : Option Obj} (h : tabEB o = true) : o = some { cls := .none, data := .fields #[] } := by
  unfold tabEB at h
  split at h
  · rename_i vs sl
    obtain ⟨h1, h2⟩ := He.ba h
    have e1 : vs = #[] := by simpa using h1
    have e2 : sl = #[] := by simpa using h2
    subst e1 e2
    rfl
  · cases h
def andT (b : Bool) (x : AlV) : AlV := (b && x.1, x.2)
def obsVG (n : Nat) (cn : List Str) (ds : List Df) (gs : GS) (g : Addr → Option Obj) : AlV := andT ((csOf (frV g (He.asD g n)) ds).all fun p => tabEB (g p.2)) (obsV cn ds gs (frV g (He.asD g n)))
theorem andT_eq {b : Bool} {x : AlV} {l : List He.FnW} (h : andT b x = (true, l)) : b = true ∧ x = (true, l) := by
  obtain ⟨x1, x2⟩ := x
  have h1 : (b && x1) = true := congrArg (fun z : AlV => z.1) h
  have h2 : x2 = l := congrArg (fun z : AlV => z.2) h
  obtain ⟨h3, h4⟩ := He.ba h1
  exact ⟨h3, by rw [h4, h2]⟩
def hookV (n : Nat) (cn : List Str) (ds : List Df) (gs : GS) : PySem.W.Hook where
  α := AlV
  obs := fun s => obsVG n cn ds gs s.heap.get?
  val := fun _ => valV ds
  says := fun _ h => ∃ K : PySem.W.Frag, K.In h ∧ (∀ a o, K.lookup a = some o → o.cls ≠ .type "list") ∧ (∀ p ∈ csOf K ds, h.get? p.2 = some { cls := .none, data := .fields #[] }) ∧ obsV cn ds gs K = valV ds
  of := fun _ _ e => ⟨_, frV_in, fun _ _ => frV_nl, fun p hp => tabEB_ok (List.all_eq_true.mp (andT_eq e).1 p hp), (andT_eq e).2⟩
  keeps := fun _ _ _ ⟨K, hK, nl, ht, c⟩ k => ⟨K, PySem.W.Frag.In.keeps hK k, nl, fun p hp => k _ _ (ht p hp), c⟩
theorem obsVG_eq {n : Nat} {cn : List Str} {ds : List Df} {gs : GS} {g : Addr → Option Obj} {s : Shared} (h : ∀ a, g a = s.heap.get? a) : obsVG n cn ds gs g = (hookV n cn ds gs).obs s := by
  have e : g = s.heap.get? := funext h
  rw [e] <;> rfl
end Ev
end

section
set_option Elab.async false
set_option linter.all false
set_option maxRecDepth 100000
set_option maxHeartbeats 0
namespace HT
open PySem PySem.Spec PyProof.Rows L2 Ev
def top (i : Nat) : Stmt := PySem.Challenge.pw_coolway_k06_known.main.body.getD i (.Pass ⟨0, 0, 0, 0⟩)
def ds : List Df := ([(⟨.glo "is_integer", "is_integer", "is_integer", defArgs (top 18), defBody (top 18), defScope (top 18), ([Str.ofString "value", Str.ofString "low", Str.ofString "high"] : List Str), none, false⟩ : Df), (⟨.glo "is_road", "is_road", "is_road", defArgs (top 19), defBody (top 19), defScope (top 19), ([Str.ofString "value", Str.ofString "places", Str.ofString "first", Str.ofString "last", Str.ofString "hours", Str.ofString "melt"] : List Str), none, false⟩ : Df), (⟨.glo "are_roads", "are_roads", "are_roads", defArgs (top 20), defBody (top 20), defScope (top 20), ([Str.ofString "value", Str.ofString "places", Str.ofString "road", Str.ofString "one", Str.ofString "other"] : List Str), none, false⟩ : Df), (⟨.glo "are_prices", "are_prices", "are_prices", defArgs (top 21), defBody (top 21), defScope (top 21), ([Str.ofString "value", Str.ofString "places", Str.ofString "price"] : List Str), none, false⟩ : Df), (⟨.glo "is_box", "is_box", "is_box", defArgs (top 22), defBody (top 22), defScope (top 22), ([Str.ofString "value"] : List Str), none, false⟩ : Df), (⟨.meth "Map" "__init__", "__init__", "Map.__init__", defArgs (inClass (top 23) 1), defBody (inClass (top 23) 1), defScope (inClass (top 23) 1), ([Str.ofString "self", Str.ofString "places", Str.ofString "roads", Str.ofString "prices", Str.ofString "box"] : List Str), none, false⟩ : Df), (⟨.meth "Map" "__len__", "__len__", "Map.__len__", defArgs (inClass (top 23) 2), defBody (inClass (top 23) 2), defScope (inClass (top 23) 2), ([Str.ofString "self"] : List Str), none, false⟩ : Df), (⟨.meth "Map" "__eq__", "__eq__", "Map.__eq__", defArgs (inClass (top 23) 3), defBody (inClass (top 23) 3), defScope (inClass (top 23) 3), ([Str.ofString "self", Str.ofString "other"] : List Str), none, false⟩ : Df), (⟨.meth "Map" "all_parts", "all_parts", "Map.all_parts", defArgs (inClass (top 23) 4), defBody (inClass (top 23) 4), defScope (inClass (top 23) 4), ([Str.ofString "self"] : List Str), none, false⟩ : Df), (⟨.prop "Map" "places", "places", "Map.places", defArgs (inClass (top 23) 5), defBody (inClass (top 23) 5), defScope (inClass (top 23) 5), ([Str.ofString "self"] : List Str), none, false⟩ : Df), (⟨.prop "Map" "roads", "roads", "Map.roads", defArgs (inClass (top 23) 6), defBody (inClass (top 23) 6), defScope (inClass (top 23) 6), ([Str.ofString "self"] : List Str), none, false⟩ : Df), (⟨.prop "Map" "prices", "prices", "Map.prices", defArgs (inClass (top 23) 7), defBody (inClass (top 23) 7), defScope (inClass (top 23) 7), ([Str.ofString "self"] : List Str), none, false⟩ : Df), (⟨.prop "Map" "box", "box", "Map.box", defArgs (inClass (top 23) 8), defBody (inClass (top 23) 8), defScope (inClass (top 23) 8), ([Str.ofString "self"] : List Str), none, false⟩ : Df), (⟨.glo "check_map", "check_map", "check_map", defArgs (top 24), defBody (top 24), defScope (top 24), ([Str.ofString "chart"] : List Str), none, false⟩ : Df), (⟨.glo "is_state", "is_state", "is_state", defArgs (top 25), defBody (top 25), defScope (top 25), ([Str.ofString "chart", Str.ofString "value", Str.ofString "bounds", Str.ofString "room", Str.ofString "bear", Str.ofString "one", Str.ofString "most"] : List Str), none, false⟩ : Df), (⟨.glo "check_state", "check_state", "check_state", defArgs (top 26), defBody (top 26), defScope (top 26), ([Str.ofString "chart", Str.ofString "state"] : List Str), none, false⟩ : Df), (⟨.glo "check_late", "check_late", "check_late", defArgs (top 27), defBody (top 27), defScope (top 27), ([Str.ofString "late"] : List Str), none, false⟩ : Df), (⟨.glo "roads_from", "roads_from", "roads_from", defArgs (top 28), defBody (top 28), defScope (top 28), ([Str.ofString "chart", Str.ofString "place", Str.ofString "road", Str.ofString "line"] : List Str), none, false⟩ : Df), (⟨.glo "is_done", "is_done", "is_done", defArgs (top 29), defBody (top 29), defScope (top 29), ([Str.ofString "chart", Str.ofString "state"] : List Str), none, false⟩ : Df), (⟨.glo "moves_of", "moves_of", "moves_of", defArgs (top 30), defBody (top 30), defScope (top 30), ([Str.ofString "chart", Str.ofString "state", Str.ofString "most", Str.ofString "pieces", Str.ofString "road"] : List Str), none, false⟩ : Df)] : List Df) ++ ([(⟨.glo "cost_of", "cost_of", "cost_of", defArgs (top 31), defBody (top 31), defScope (top 31), ([Str.ofString "chart", Str.ofString "place", Str.ofString "move"] : List Str), none, false⟩ : Df), (⟨.glo "carried", "carried", "carried", defArgs (top 32), defBody (top 32), defScope (top 32), ([Str.ofString "chart", Str.ofString "load", Str.ofString "melt", Str.ofString "hours", Str.ofString "hour", Str.ofString "ice", Str.ofString "warm"] : List Str), none, false⟩ : Df), (⟨.glo "end_of", "end_of", "end_of", defArgs (top 33), defBody (top 33), defScope (top 33), ([Str.ofString "chart", Str.ofString "state", Str.ofString "move", Str.ofString "more", Str.ofString "load", Str.ofString "place", Str.ofString "ice", Str.ofString "warm", Str.ofString "late", Str.ofString "first", Str.ofString "last", Str.ofString "hours", Str.ofString "melt"] : List Str), none, false⟩ : Df), (⟨.glo "ends_of", "ends_of", "ends_of", defArgs (top 34), defBody (top 34), defScope (top 34), ([Str.ofString "chart", Str.ofString "state", Str.ofString "move", Str.ofString "more"] : List Str), none, false⟩ : Df), (⟨.glo "moves", "moves", "moves", defArgs (top 35), defBody (top 35), defScope (top 35), ([Str.ofString "chart", Str.ofString "state"] : List Str), none, false⟩ : Df), (⟨.glo "results", "results", "results", defArgs (top 36), defBody (top 36), defScope (top 36), ([Str.ofString "chart", Str.ofString "state", Str.ofString "move", Str.ofString "one"] : List Str), none, false⟩ : Df), (⟨.meth "Solver" "__init__", "__init__", "Solver.__init__", defArgs (inClass (top 38) 1), defBody (inClass (top 38) 1), defScope (inClass (top 38) 1), ([Str.ofString "self", Str.ofString "chart"] : List Str), none, false⟩ : Df), (⟨.meth "Solver" "worth", "worth", "Solver.worth", defArgs (inClass (top 38) 2), defBody (inClass (top 38) 2), defScope (inClass (top 38) 2), ([Str.ofString "self", Str.ofString "state"] : List Str), none, false⟩ : Df), (⟨.meth "Solver" "least", "least", "Solver.least", defArgs (inClass (top 38) 3), defBody (inClass (top 38) 3), defScope (inClass (top 38) 3), ([Str.ofString "self", Str.ofString "state", Str.ofString "found", Str.ofString "able", Str.ofString "move", Str.ofString "worth"] : List Str), none, false⟩ : Df), (⟨.meth "Solver" "by_move", "by_move", "Solver.by_move", defArgs (inClass (top 38) 4), defBody (inClass (top 38) 4), defScope (inClass (top 38) 4), ([Str.ofString "self", Str.ofString "state", Str.ofString "move", Str.ofString "found", Str.ofString "end"] : List Str), none, false⟩ : Df), (⟨.meth "Sure" "__init__", "__init__", "Sure.__init__", defArgs (inClass (top 39) 1), defBody (inClass (top 39) 1), defScope (inClass (top 39) 1), ([Str.ofString "self", Str.ofString "cost", Str.ofString "heights", Str.ofString "levels"] : List Str), none, false⟩ : Df), (⟨.meth "Sure" "__eq__", "__eq__", "Sure.__eq__", defArgs (inClass (top 39) 2), defBody (inClass (top 39) 2), defScope (inClass (top 39) 2), ([Str.ofString "self", Str.ofString "other"] : List Str), none, false⟩ : Df), (⟨.meth "Sure" "all_parts", "all_parts", "Sure.all_parts", defArgs (inClass (top 39) 3), defBody (inClass (top 39) 3), defScope (inClass (top 39) 3), ([Str.ofString "self"] : List Str), none, false⟩ : Df), (⟨.meth "Sure" "shows", "shows", "Sure.shows", defArgs (inClass (top 39) 4), defBody (inClass (top 39) 4), defScope (inClass (top 39) 4), ([Str.ofString "self", Str.ofString "chart", Str.ofString "state", Str.ofString "one"] : List Str), none, false⟩ : Df), (⟨.meth "Sure" "is_height", "is_height", "Sure.is_height", defArgs (inClass (top 39) 5), defBody (inClass (top 39) 5), defScope (inClass (top 39) 5), ([Str.ofString "self", Str.ofString "chart", Str.ofString "state", Str.ofString "height", Str.ofString "move", Str.ofString "left", Str.ofString "end"] : List Str), none, false⟩ : Df), (⟨.meth "Sure" "is_level", "is_level", "Sure.is_level", defArgs (inClass (top 39) 6), defBody (inClass (top 39) 6), defScope (inClass (top 39) 6), ([Str.ofString "self", Str.ofString "chart", Str.ofString "state", Str.ofString "level", Str.ofString "move", Str.ofString "ends", Str.ofString "most", Str.ofString "end"] : List Str), none, false⟩ : Df), (⟨.meth "Spoils" "__init__", "__init__", "Spoils.__init__", defArgs (inClass (top 40) 1), defBody (inClass (top 40) 1), defScope (inClass (top 40) 1), ([Str.ofString "self", Str.ofString "states"] : List Str), none, false⟩ : Df), (⟨.meth "Spoils" "__iter__", "__iter__", "Spoils.__iter__", defArgs (inClass (top 40) 2), defBody (inClass (top 40) 2), defScope (inClass (top 40) 2), ([Str.ofString "self"] : List Str), none, false⟩ : Df), (⟨.meth "Spoils" "__eq__", "__eq__", "Spoils.__eq__", defArgs (inClass (top 40) 3), defBody (inClass (top 40) 3), defScope (inClass (top 40) 3), ([Str.ofString "self", Str.ofString "other"] : List Str), none, false⟩ : Df), (⟨.meth "Spoils" "shows", "shows", "Spoils.shows", defArgs (inClass (top 40) 4), defBody (inClass (top 40) 4), defScope (inClass (top 40) 4), ([Str.ofString "self", Str.ofString "chart", Str.ofString "state", Str.ofString "known", Str.ofString "one", Str.ofString "move", Str.ofString "end"] : List Str), none, false⟩ : Df)] : List Df) ++ ([(⟨.glo "sure_of", "sure_of", "sure_of", defArgs (top 41), defBody (top 41), defScope (top 41), ([Str.ofString "chart", Str.ofString "state", Str.ofString "solver", Str.ofString "cost", Str.ofString "heights", Str.ofString "levels", Str.ofString "one", Str.ofString "worth"] : List Str), none, false⟩ : Df), (⟨.glo "cost_from", "cost_from", "cost_from", defArgs (top 42), defBody (top 42), defScope (top 42), ([Str.ofString "chart", Str.ofString "state"] : List Str), none, false⟩ : Df), (⟨.glo "sure", "sure", "sure", defArgs (top 43), defBody (top 43), defScope (top 43), ([Str.ofString "chart", Str.ofString "state"] : List Str), none, false⟩ : Df), (⟨.glo "sure_cost", "sure_cost", "sure_cost", defArgs (top 44), defBody (top 44), defScope (top 44), ([Str.ofString "chart", Str.ofString "state"] : List Str), none, false⟩ : Df), (⟨.glo "routes_from", "routes_from", "routes_from", defArgs (top 47), defBody (top 47), defScope (top 47), ([Str.ofString "chart", Str.ofString "place", Str.ofString "found", Str.ofString "road", Str.ofString "some"] : List Str), none, false⟩ : Df), (⟨.glo "amounts_at", "amounts_at", "amounts_at", defArgs (top 48), defBody (top 48), defScope (top 48), ([Str.ofString "chart", Str.ofString "road"] : List Str), none, false⟩ : Df), (⟨.glo "plans_by", "plans_by", "plans_by", defArgs (top 49), defBody (top 49), defScope (top 49), ([Str.ofString "chart", Str.ofString "route", Str.ofString "found", Str.ofString "road", Str.ofString "some", Str.ofString "pieces"] : List Str), none, false⟩ : Df), (⟨.glo "plan_cost", "plan_cost", "plan_cost", defArgs (top 50), defBody (top 50), defScope (top 50), ([Str.ofString "chart", Str.ofString "plan", Str.ofString "move"] : List Str), none, false⟩ : Df), (⟨.glo "check_few", "check_few", "check_few", defArgs (top 51), defBody (top 51), defScope (top 51), ([Str.ofString "chart", Str.ofString "many", Str.ofString "route", Str.ofString "some", Str.ofString "road"] : List Str), none, false⟩ : Df), (⟨.glo "plans_of", "plans_of", "plans_of", defArgs (top 52), defBody (top 52), defScope (top 52), ([Str.ofString "chart", Str.ofString "found", Str.ofString "route", Str.ofString "plan"] : List Str), some [(275, 29)], false⟩ : Df), (⟨.glo "is_move", "is_move", "is_move", defArgs (top 53), defBody (top 53), defScope (top 53), ([Str.ofString "chart", Str.ofString "value"] : List Str), none, false⟩ : Df), (⟨.glo "is_plan", "is_plan", "is_plan", defArgs (top 54), defBody (top 54), defScope (top 54), ([Str.ofString "chart", Str.ofString "value", Str.ofString "move", Str.ofString "pieces", Str.ofString "road"] : List Str), none, false⟩ : Df), (⟨.glo "is_spoiled", "is_spoiled", "is_spoiled", defArgs (top 55), defBody (top 55), defScope (top 55), ([Str.ofString "chart", Str.ofString "plan", Str.ofString "delay", Str.ofString "load", Str.ofString "more", Str.ofString "pieces", Str.ofString "road", Str.ofString "first", Str.ofString "last", Str.ofString "hours", Str.ofString "melt"] : List Str), none, false⟩ : Df), (⟨.glo "delays_of", "delays_of", "delays_of", defArgs (top 56), defBody (top 56), defScope (top 56), ([Str.ofString "many", Str.ofString "late", Str.ofString "found", Str.ofString "turn", Str.ofString "some", Str.ofString "more"] : List Str), none, false⟩ : Df), (⟨.glo "is_delay", "is_delay", "is_delay", defArgs (top 57), defBody (top 57), defScope (top 57), ([Str.ofString "plan", Str.ofString "late", Str.ofString "value", Str.ofString "more"] : List Str), none, false⟩ : Df), (⟨.glo "first_spoiling", "first_spoiling", "first_spoiling", defArgs (top 58), defBody (top 58), defScope (top 58), ([Str.ofString "chart", Str.ofString "plan", Str.ofString "late", Str.ofString "delay"] : List Str), some [], false⟩ : Df), (⟨.glo "are_doubts", "are_doubts", "are_doubts", defArgs (top 59), defBody (top 59), defScope (top 59), ([Str.ofString "chart", Str.ofString "late", Str.ofString "doubts", Str.ofString "due", Str.ofString "plan"] : List Str), none, false⟩ : Df), (⟨.meth "Fixed" "__init__", "__init__", "Fixed.__init__", defArgs (inClass (top 60) 1), defBody (inClass (top 60) 1), defScope (inClass (top 60) 1), ([Str.ofString "self", Str.ofString "plan", Str.ofString "doubts"] : List Str), none, false⟩ : Df), (⟨.meth "Fixed" "__iter__", "__iter__", "Fixed.__iter__", defArgs (inClass (top 60) 2), defBody (inClass (top 60) 2), defScope (inClass (top 60) 2), ([Str.ofString "self"] : List Str), none, false⟩ : Df), (⟨.meth "Fixed" "__eq__", "__eq__", "Fixed.__eq__", defArgs (inClass (top 60) 3), defBody (inClass (top 60) 3), defScope (inClass (top 60) 3), ([Str.ofString "self", Str.ofString "other"] : List Str), none, false⟩ : Df)] : List Df) ++ ([(⟨.meth "Fixed" "shows", "shows", "Fixed.shows", defArgs (inClass (top 60) 4), defBody (inClass (top 60) 4), defScope (inClass (top 60) 4), ([Str.ofString "self", Str.ofString "chart", Str.ofString "late", Str.ofString "cost", Str.ofString "plan"] : List Str), none, false⟩ : Df), (⟨.meth "NoFixed" "__init__", "__init__", "NoFixed.__init__", defArgs (inClass (top 61) 1), defBody (inClass (top 61) 1), defScope (inClass (top 61) 1), ([Str.ofString "self", Str.ofString "doubts"] : List Str), none, false⟩ : Df), (⟨.meth "NoFixed" "__iter__", "__iter__", "NoFixed.__iter__", defArgs (inClass (top 61) 2), defBody (inClass (top 61) 2), defScope (inClass (top 61) 2), ([Str.ofString "self"] : List Str), none, false⟩ : Df), (⟨.meth "NoFixed" "__eq__", "__eq__", "NoFixed.__eq__", defArgs (inClass (top 61) 3), defBody (inClass (top 61) 3), defScope (inClass (top 61) 3), ([Str.ofString "self", Str.ofString "other"] : List Str), none, false⟩ : Df), (⟨.meth "NoFixed" "shows", "shows", "NoFixed.shows", defArgs (inClass (top 61) 4), defBody (inClass (top 61) 4), defScope (inClass (top 61) 4), ([Str.ofString "self", Str.ofString "chart", Str.ofString "late"] : List Str), none, false⟩ : Df), (⟨.glo "check_fixed", "check_fixed", "check_fixed", defArgs (top 62), defBody (top 62), defScope (top 62), ([Str.ofString "chart", Str.ofString "late"] : List Str), none, false⟩ : Df), (⟨.glo "all_plans", "all_plans", "all_plans", defArgs (top 63), defBody (top 63), defScope (top 63), ([Str.ofString "chart"] : List Str), none, false⟩ : Df), (⟨.glo "spoiling", "spoiling", "spoiling", defArgs (top 64), defBody (top 64), defScope (top 64), ([Str.ofString "chart", Str.ofString "plan", Str.ofString "late"] : List Str), none, false⟩ : Df), (⟨.glo "fixed", "fixed", "fixed", defArgs (top 65), defBody (top 65), defScope (top 65), ([Str.ofString "chart", Str.ofString "late", Str.ofString "doubts", Str.ofString "plan", Str.ofString "delay", Str.ofString "cost", Str.ofString "one", Str.ofString "some"] : List Str), none, false⟩ : Df), (⟨.glo "fixed_cost", "fixed_cost", "fixed_cost", defArgs (top 66), defBody (top 66), defScope (top 66), ([Str.ofString "chart", Str.ofString "late", Str.ofString "found"] : List Str), none, false⟩ : Df), (⟨.glo "price_of", "price_of", "price_of", defArgs (top 68), defBody (top 68), defScope (top 68), ([Str.ofString "chart", Str.ofString "late"] : List Str), none, false⟩ : Df), (⟨.glo "late_prices", "late_prices", "late_prices", defArgs (top 69), defBody (top 69), defScope (top 69), ([Str.ofString "chart", Str.ofString "late"] : List Str), none, false⟩ : Df), (⟨.glo "late_pairs", "late_pairs", "late_pairs", defArgs (top 70), defBody (top 70), defScope (top 70), ([Str.ofString "chart", Str.ofString "prices", Str.ofString "found", Str.ofString "late", Str.ofString "price", Str.ofString "later"] : List Str), none, false⟩ : Df), (⟨.glo "room_prices", "room_prices", "room_prices", defArgs (top 71), defBody (top 71), defScope (top 71), ([Str.ofString "chart", Str.ofString "late", Str.ofString "charts", Str.ofString "room", Str.ofString "one"] : List Str), none, false⟩ : Df), (⟨.glo "_law_moves_right", "_law_moves_right", "_law_moves_right", defArgs (top 73), defBody (top 73), defScope (top 73), ([Str.ofString "_law_line", Str.ofString "_law_start", Str.ofString "_law_warm", Str.ofString "_law_dry"] : List Str), none, true⟩ : Df), (⟨.glo "_law_sure_right", "_law_sure_right", "_law_sure_right", defArgs (top 74), defBody (top 74), defScope (top 74), ([Str.ofString "_law_line", Str.ofString "_law_tight", Str.ofString "_law_heights", Str.ofString "_law_levels", Str.ofString "_law_rows", Str.ofString "_law_more", Str.ofString "_law_start", Str.ofString "_law_late", Str.ofString "_law_cost", Str.ofString "_law_one", Str.ofString "_law_two", Str.ofString "_law_want"] : List Str), none, true⟩ : Df), (⟨.glo "_law_spoils_right", "_law_spoils_right", "_law_spoils_right", defArgs (top 75), defBody (top 75), defScope (top 75), ([Str.ofString "_law_line", Str.ofString "_law_tight", Str.ofString "_law_start", Str.ofString "_law_late", Str.ofString "_law_blind", Str.ofString "_law_some", Str.ofString "_law_state"] : List Str), none, true⟩ : Df), (⟨.glo "_law_plans_right", "_law_plans_right", "_law_plans_right", defArgs (top 76), defBody (top 76), defScope (top 76), ([Str.ofString "_law_line", Str.ofString "_law_tight", Str.ofString "_law_want", Str.ofString "_law_short", Str.ofString "_law_full", Str.ofString "_law_late"] : List Str), none, true⟩ : Df), (⟨.glo "_law_doubts_right", "_law_doubts_right", "_law_doubts_right", defArgs (top 77), defBody (top 77), defScope (top 77), ([Str.ofString "_law_short", Str.ofString "_law_want", Str.ofString "_law_doubts", Str.ofString "_law_easy", Str.ofString "_law_plan"] : List Str), none, true⟩ : Df), (⟨.glo "_law_prices_right", "_law_prices_right", "_law_prices_right", defArgs (top 78), defBody (top 78), defScope (top 78), ([Str.ofString "_law_line"] : List Str), none, true⟩ : Df)] : List Df) ++ ([(⟨.glo "law", "law", "law", defArgs (top 79), defBody (top 79), defScope (top 79), ([Str.ofString "_law_script", Str.ofString "_law_line", Str.ofString "_law_tight", Str.ofString "_law_room"] : List Str), none, true⟩ : Df)] : List Df)
def cn : List Str := [Str.ofString "Map", Str.ofString "Solver", Str.ofString "Sure", Str.ofString "Spoils", Str.ofString "Fixed", Str.ofString "NoFixed"]
def gs : GS := ⟨([(Str.ofString "is_integer", Rl.fn 0), (Str.ofString "is_road", Rl.fn 1), (Str.ofString "are_roads", Rl.fn 2), (Str.ofString "are_prices", Rl.fn 3), (Str.ofString "is_box", Rl.fn 4), (Str.ofString "check_map", Rl.fn 13), (Str.ofString "is_state", Rl.fn 14), (Str.ofString "check_state", Rl.fn 15), (Str.ofString "check_late", Rl.fn 16), (Str.ofString "roads_from", Rl.fn 17), (Str.ofString "is_done", Rl.fn 18), (Str.ofString "moves_of", Rl.fn 19), (Str.ofString "cost_of", Rl.fn 20), (Str.ofString "carried", Rl.fn 21), (Str.ofString "end_of", Rl.fn 22), (Str.ofString "ends_of", Rl.fn 23), (Str.ofString "moves", Rl.fn 24), (Str.ofString "results", Rl.fn 25), (Str.ofString "sure_of", Rl.fn 40), (Str.ofString "cost_from", Rl.fn 41), (Str.ofString "sure", Rl.fn 42), (Str.ofString "sure_cost", Rl.fn 43), (Str.ofString "routes_from", Rl.fn 44), (Str.ofString "amounts_at", Rl.fn 45), (Str.ofString "plans_by", Rl.fn 46), (Str.ofString "plan_cost", Rl.fn 47), (Str.ofString "check_few", Rl.fn 48), (Str.ofString "plans_of", Rl.fn 49), (Str.ofString "is_move", Rl.fn 50), (Str.ofString "is_plan", Rl.fn 51)] : List (Str × Rl)) ++ ([(Str.ofString "is_spoiled", Rl.fn 52), (Str.ofString "delays_of", Rl.fn 53), (Str.ofString "is_delay", Rl.fn 54), (Str.ofString "first_spoiling", Rl.fn 55), (Str.ofString "are_doubts", Rl.fn 56), (Str.ofString "check_fixed", Rl.fn 65), (Str.ofString "all_plans", Rl.fn 66), (Str.ofString "spoiling", Rl.fn 67), (Str.ofString "fixed", Rl.fn 68), (Str.ofString "fixed_cost", Rl.fn 69), (Str.ofString "price_of", Rl.fn 70), (Str.ofString "late_prices", Rl.fn 71), (Str.ofString "late_pairs", Rl.fn 72), (Str.ofString "room_prices", Rl.fn 73), (Str.ofString "_law_moves_right", Rl.fn 74), (Str.ofString "_law_sure_right", Rl.fn 75), (Str.ofString "_law_spoils_right", Rl.fn 76), (Str.ofString "_law_plans_right", Rl.fn 77), (Str.ofString "_law_doubts_right", Rl.fn 78), (Str.ofString "_law_prices_right", Rl.fn 79), (Str.ofString "law", Rl.fn 80), (Str.ofString "Map", Rl.cl 0), (Str.ofString "Solver", Rl.cl 1), (Str.ofString "Sure", Rl.cl 2), (Str.ofString "Spoils", Rl.cl 3), (Str.ofString "Fixed", Rl.cl 4), (Str.ofString "NoFixed", Rl.cl 5), (Str.ofString "MIN_PLACES", Rl.ci 2), (Str.ofString "MAX_PLACES", Rl.ci 5), (Str.ofString "MAX_ROADS", Rl.ci 7)] : List (Str × Rl)) ++ ([(Str.ofString "MAX_HOURS", Rl.ci 4), (Str.ofString "MAX_MELT", Rl.ci 3), (Str.ofString "MAX_PRICE", Rl.ci 9), (Str.ofString "MAX_ROOM", Rl.ci 6), (Str.ofString "MAX_BEAR", Rl.ci 2), (Str.ofString "MAX_LATE", Rl.ci 4), (Str.ofString "MAX_PLANS", Rl.ci 400), (Str.ofString "max", Rl.bt Bt.max), (Str.ofString "min", Rl.bt Bt.min), (Str.ofString "len", Rl.bt Bt.len), (Str.ofString "int", Rl.bt Bt.int), (Str.ofString "bool", Rl.bt Bt.bool), (Str.ofString "tuple", Rl.bt Bt.tuple), (Str.ofString "list", Rl.bt Bt.list), (Str.ofString "dict", Rl.bt Bt.dict), (Str.ofString "isinstance", Rl.bt Bt.isinstance), (Str.ofString "all", Rl.bt Bt.all), (Str.ofString "any", Rl.bt Bt.any), (Str.ofString "sum", Rl.bt Bt.sum), (Str.ofString "sorted", Rl.bt Bt.sorted), (Str.ofString "range", Rl.bt Bt.range), (Str.ofString "enumerate", Rl.bt Bt.enumerate), (Str.ofString "zip", Rl.bt Bt.zip), (Str.ofString "next", Rl.bt Bt.next), (Str.ofString "iter", Rl.bt Bt.iter)] : List (Str × Rl)),
  ([(Str.ofString "chest", [(0, .slot 0)]), (Str.ofString "lines", [(0, .slot 1)]), (Str.ofString "many", [(0, .slot 2)]), (Str.ofString "rates", [(0, .slot 3)]), (Str.ofString "chart", [(1, .slot 0)]), (Str.ofString "worths", [(1, .slot 1)]), (Str.ofString "cost", [(2, .slot 0)]), (Str.ofString "heights", [(2, .slot 1)]), (Str.ofString "levels", [(2, .slot 2)]), (Str.ofString "states", [(3, .slot 0)]), (Str.ofString "doubts", [(4, .slot 0), (5, .slot 0)]), (Str.ofString "plan", [(4, .slot 1)]), (Str.ofString "places", [(0, .prop 9)]), (Str.ofString "roads", [(0, .prop 10)]), (Str.ofString "prices", [(0, .prop 11)]), (Str.ofString "box", [(0, .prop 12)])] : List (Str × List (Nat × At))),
  ([(Str.ofString "__len__", [(0, 6)]), (Str.ofString "__eq__", [(0, 7), (2, 31), (3, 38), (4, 59), (5, 63)]), (Str.ofString "all_parts", [(0, 8), (2, 32)]), (Str.ofString "worth", [(1, 27)]), (Str.ofString "least", [(1, 28)]), (Str.ofString "by_move", [(1, 29)]), (Str.ofString "shows", [(2, 33), (3, 39), (4, 60), (5, 64)]), (Str.ofString "is_height", [(2, 34)]), (Str.ofString "is_level", [(2, 35)]), (Str.ofString "__iter__", [(3, 37), (4, 58), (5, 62)])] : List (Str × List (Nat × Nat))),
  [(0, 5, 4), (1, 26, 2), (2, 30, 3), (3, 36, 1), (4, 57, 2), (5, 61, 1)],
  [(0, [(0, true), (1, false), (2, false), (3, false), (4, false), (5, false)]), (1, [(0, false), (1, true), (2, false), (3, false), (4, false), (5, false)]), (2, [(0, false), (1, false), (2, true), (3, false), (4, false), (5, false)]), (3, [(0, false), (1, false), (2, false), (3, true), (4, false), (5, false)]), (4, [(0, false), (1, false), (2, false), (3, false), (4, true), (5, false)]), (5, [(0, false), (1, false), (2, false), (3, false), (4, false), (5, true)])],
  [(3, 0, 37, Str.ofString "states")],
  [0, 2, 3, 4, 5], [3, 4, 5]⟩

abbrev R : PySem.W.OpenRow := PySem.W.OpenLaw.row PySem.Challenge.rw_coolway_k06_known
abbrev hk : PySem.W.Hook := hookV 5 cn ds gs
def ob (s : PySem.W.SharedT) : AlV := obsVG 5 cn ds gs (HandSHeadRun.getT s)
theorem ob_eq (s : PySem.W.SharedT) : ob s = hk.obs s.abs := obsVG_eq (HandSHeadRun.getT_eq s)
def loose : List Str := ([Str.ofString "CoolError", Str.ofString "BadMap", Str.ofString "BadState", Str.ofString "BadMove", Str.ofString "BadLateness", Str.ofString "BadPlan", Str.ofString "TooLarge", Str.ofString "MIN_PLACES", Str.ofString "MAX_PLACES", Str.ofString "MAX_ROADS", Str.ofString "MAX_HOURS", Str.ofString "MAX_MELT", Str.ofString "MAX_PRICE", Str.ofString "MAX_ROOM", Str.ofString "MAX_BEAR", Str.ofString "MAX_LATE", Str.ofString "is_integer", Str.ofString "is_road", Str.ofString "are_roads", Str.ofString "are_prices", Str.ofString "is_box", Str.ofString "Map", Str.ofString "check_map", Str.ofString "is_state", Str.ofString "check_state", Str.ofString "check_late", Str.ofString "roads_from", Str.ofString "is_done", Str.ofString "moves_of", Str.ofString "cost_of", Str.ofString "carried", Str.ofString "end_of", Str.ofString "ends_of", Str.ofString "moves", Str.ofString "results", Str.ofString "Solver", Str.ofString "Sure", Str.ofString "Spoils", Str.ofString "sure_of", Str.ofString "cost_from"] : List Str) ++ ([Str.ofString "sure", Str.ofString "sure_cost", Str.ofString "MAX_PLANS", Str.ofString "routes_from", Str.ofString "amounts_at", Str.ofString "plans_by", Str.ofString "plan_cost", Str.ofString "check_few", Str.ofString "plans_of", Str.ofString "is_move", Str.ofString "is_plan", Str.ofString "is_spoiled", Str.ofString "delays_of", Str.ofString "is_delay", Str.ofString "first_spoiling", Str.ofString "are_doubts", Str.ofString "Fixed", Str.ofString "NoFixed", Str.ofString "check_fixed", Str.ofString "all_plans", Str.ofString "spoiling", Str.ofString "fixed", Str.ofString "fixed_cost", Str.ofString "price_of", Str.ofString "late_prices", Str.ofString "late_pairs", Str.ofString "room_prices", Str.ofString "_law_moves_right", Str.ofString "_law_sure_right", Str.ofString "_law_spoils_right", Str.ofString "_law_plans_right", Str.ofString "_law_doubts_right", Str.ofString "_law_prices_right"] : List Str)
theorem map_pair {α β γ : Type} {o : Option α} {f : α → β} {g : α → γ} {b : β} {c : γ} (h1 : o.map f = some b) (h2 : o.map g = some c) : o.map (fun s => (f s, g s)) = some (b, c) := by
  cases o with
  | none => cases h1
  | some a => cases h1; cases h2; rfl
open PySem.W HandSHeadRun in
theorem runB (w : World) (os : OsState) : (endF (stepQ (denQ tabQ) R.prog w) 20000 R.prog w os).map (fun s => looksF R.prog (boot_heap w.params) s.abs) = some true := by kernel_rfl
open PySem.W HandSHeadRun in
theorem runC (w : World) (os : OsState) : (endF (stepQ (denQ tabQ) R.prog w) 20000 R.prog w os).map (fun s => seenQ (view R.prog [79]) loose (importedModules R.prog.main.body) (fun s => xlAt (view R.prog [79]) [] s && recOk R.toRowW.records s) s.abs) = some (openGood (view R.prog [79]) loose) := by kernel_rfl
open PySem.W HandSHeadRun in
theorem runD (w : World) (os : OsState) : (endF (stepQ (denQ tabQ) R.prog w) 20000 R.prog w os).map (fun s => (ob s).1) = some true := by kernel_rfl
open PySem.W HandSHeadRun in
theorem runE (w : World) (os : OsState) : (endF (stepQ (denQ tabQ) R.prog w) 20000 R.prog w os).map (fun s => (ob s).2) = some (ds.map Df.val) := by kernel_rfl
theorem run (w : World) : HandSHeadRun.RunEq R (PySem.W.view R.prog [79]) hk ob 20000 loose w := fun os => map_pair (runB w os) (map_pair (runC w os) (map_pair (runD w os) (runE w os)))
end HT
end

section
set_option Elab.async false
set_option linter.all false
/-! Ev: a small evaluator for the part of Python that stands in the texts: values, memory, results. -/
namespace Ev
open PySem

/-- values: tuples are plain, everything that changes stands in the memory -/
inductive PV where
  | non
  | bl (b : Bool)
  | int (i : Int)
  | str (x : Str)
  | tup (xs : List PV)
  | ref (n : Nat)

/-- what stands in the memory -/
inductive Ob where
  | lst (xs : List PV)
  | dic (kvs : List (PV × PV))
  | ins (c : Nat) (fs : List (Option PV))
  /-- a list that is read alone: the script -/
  | scr (xs : List PV)

/-- a raised exception: which class, what its one attribute holds -/
structure Exc where
  cls : Nat
  arg : Option PV

/-! ### the memory: a tree over paths -/
inductive Tr where
  | lf
  | nd (o : Option Ob) (l r : Tr)

def path : Nat → Nat → List Bool
  | 0, _ => []
  | f + 1, n => match n with
    | 0 => []
    | m + 1 => (match Nat.beq (m % 2) 0 with | true => true | false => false) :: path f (m / 2)
def Tr.get : Tr → List Bool → Option Ob
  | .lf, _ => none
  | .nd o _ _, [] => o
  | .nd _ l r, b :: bs => match b with
    | true => l.get bs
    | false => r.get bs
def Tr.put (o : Ob) : List Bool → Tr → Tr
  | [], .lf => .nd (some o) .lf .lf
  | [], .nd _ l r => .nd (some o) l r
  | b :: bs, .lf => match b with
    | true => .nd none (Tr.put o bs .lf) .lf
    | false => .nd none .lf (Tr.put o bs .lf)
  | b :: bs, .nd v l r => match b with
    | true => .nd v (Tr.put o bs l) r
    | false => .nd v l (Tr.put o bs r)
theorem Tr.get_lf : ∀ p : List Bool, Tr.lf.get p = none
  | [] => rfl
  | _ :: _ => rfl
theorem Tr.get_put (o : Ob) : ∀ (p : List Bool) (t : Tr), (Tr.put o p t).get p = some o
  | [], .lf => rfl
  | [], .nd _ _ _ => rfl
  | true :: bs, .lf => Tr.get_put o bs .lf
  | false :: bs, .lf => Tr.get_put o bs .lf
  | true :: bs, .nd _ l _ => Tr.get_put o bs l
  | false :: bs, .nd _ _ r => Tr.get_put o bs r
theorem Tr.get_put_ne (o : Ob) : ∀ (p q : List Bool) (t : Tr), p ≠ q → (Tr.put o p t).get q = t.get q
  | [], [], _, h => absurd rfl h
  | [], true :: bs, .lf, _ => by
    show Tr.lf.get bs = _
    rw [Tr.get_lf, Tr.get_lf]
  | [], false :: bs, .lf, _ => by
    show Tr.lf.get bs = _
    rw [Tr.get_lf, Tr.get_lf]
  | [], b :: bs, .nd _ _ _, _ => by cases b <;> rfl
  | true :: bs, [], .lf, _ => rfl
  | false :: bs, [], .lf, _ => rfl
  | true :: bs, [], .nd _ _ _, _ => rfl
  | false :: bs, [], .nd _ _ _, _ => rfl
  | true :: bs, true :: cs, .lf, h => Tr.get_put_ne o bs cs .lf (fun e => h (by rw [e]))
  | true :: bs, false :: cs, .lf, _ => by
    show Tr.lf.get cs = _
    rw [Tr.get_lf, Tr.get_lf]
  | false :: bs, true :: cs, .lf, _ => by
    show Tr.lf.get cs = _
    rw [Tr.get_lf, Tr.get_lf]
  | false :: bs, false :: cs, .lf, h => Tr.get_put_ne o bs cs .lf (fun e => h (by rw [e]))
  | true :: bs, true :: cs, .nd _ l _, h => Tr.get_put_ne o bs cs l (fun e => h (by rw [e]))
  | true :: bs, false :: cs, .nd _ _ _, _ => rfl
  | false :: bs, true :: cs, .nd _ _ _, _ => rfl
  | false :: bs, false :: cs, .nd _ _ r, h => Tr.get_put_ne o bs cs r (fun e => h (by rw [e]))
def unpath : List Bool → Nat
  | [] => 0
  | true :: bs => 2 * unpath bs + 1
  | false :: bs => 2 * unpath bs + 2
theorem unpath_path : ∀ f n, n ≤ f → unpath (path f n) = n
  | 0, n, h => by have : n = 0 := by omega
                  subst this; rfl
  | f + 1, 0, _ => rfl
  | f + 1, m + 1, h => by
    have ih := unpath_path f (m / 2) (by omega)
    unfold path
    cases e : Nat.beq (m % 2) 0 with
    | true =>
      have e' : m % 2 = 0 := Nat.eq_of_beq_eq_true e
      simp only [e, unpath, ih]
      omega
    | false =>
      have e' : m % 2 ≠ 0 := Nat.ne_of_beq_eq_false e
      simp only [e, unpath, ih]
      omega
theorem path_inj {m n : Nat} (h : path m m = path n n) : m = n := by
  rw [← unpath_path m m (Nat.le_refl _), h, unpath_path n n (Nat.le_refl _)]

structure Mem where
  size : Nat
  /-- what lies below lo is told by old, the rest by the tree -/
  lo : Nat
  old : Nat → Option Ob
  tr : Tr
  /-- lists that are walked; dicts that are walked -/
  locks : List Nat
  dl : List Nat

def Mem.raw (h : Mem) (n : Nat) : Option Ob := match Nat.blt n h.lo with
  | true => h.old n
  | false => h.tr.get (path n n)
def Mem.get (h : Mem) (n : Nat) : Option Ob := match Nat.blt n h.size with
  | true => h.raw n
  | false => none
def Mem.oldW (h : Mem) (n : Nat) (o : Ob) : Nat → Option Ob := match Nat.blt n h.lo with
  | true => fun k => match Nat.beq k n with
    | true => some o
    | false => h.old k
  | false => h.old
def Mem.trW (h : Mem) (n : Nat) (o : Ob) : Tr := match Nat.blt n h.lo with
  | true => h.tr
  | false => h.tr.put o (path n n)
/-- o at n, the size z -/
def Mem.wr (h : Mem) (z n : Nat) (o : Ob) : Mem := ⟨z, h.lo, h.oldW n o, h.trW n o, h.locks, h.dl⟩
def Mem.push (h : Mem) (o : Ob) : Mem := h.wr (h.size + 1) h.size o
def Mem.set (h : Mem) (n : Nat) (o : Ob) : Mem := h.wr h.size n o
def Mem.lock (h : Mem) (ns : List Nat) : Mem := ⟨h.size, h.lo, h.old, h.tr, ns ++ h.locks, h.dl⟩
def Mem.unlock (h : Mem) (ns : List Nat) : Mem := ⟨h.size, h.lo, h.old, h.tr, h.locks.drop ns.length, h.dl⟩
def Mem.lockD (h : Mem) (n : Nat) : Mem := ⟨h.size, h.lo, h.old, h.tr, h.locks, n :: h.dl⟩
def Mem.unlockD (h : Mem) : Mem := ⟨h.size, h.lo, h.old, h.tr, h.locks, h.dl.tail⟩
/-- the same, told by old alone -/
def Mem.re (h : Mem) : Mem := ⟨h.size, h.size, h.raw, .lf, h.locks, h.dl⟩
def memb (n : Nat) : List Nat → Bool
  | [] => false
  | m :: r => match Nat.beq n m with
    | true => true
    | false => memb n r
def Mem.free (h : Mem) (n : Nat) : Bool := match memb n h.locks with
  | true => false
  | false => true

def Mem.freeD (h : Mem) (n : Nat) : Bool := match memb n h.dl with
  | true => false
  | false => true

theorem blt_iff {a b : Nat} : Nat.blt a b = true ↔ a < b := by
  show Nat.ble (a + 1) b = true ↔ _
  rw [Nat.ble_eq]
  exact Iff.rfl
theorem Mem.get_lt {h : Mem} {n : Nat} {o : Ob} (e : h.get n = some o) : n < h.size := by
  unfold Mem.get at e
  cases q : Nat.blt n h.size with
  | true => exact blt_iff.mp q
  | false => rw [q] at e; cases e
theorem Mem.get_of_lt {h : Mem} {n : Nat} (l : n < h.size) : h.get n = h.raw n := by
  unfold Mem.get
  rw [blt_iff.mpr l]
theorem Mem.raw_wr (h : Mem) (z n : Nat) (o : Ob) : (h.wr z n o).raw n = some o := by
  unfold Mem.wr Mem.raw Mem.oldW Mem.trW
  cases e : Nat.blt n h.lo with
  | true =>
    simp only
    rw [Nat.beq_refl]
  | false =>
    simp only
    exact Tr.get_put _ _ _
theorem Mem.raw_wr_ne (h : Mem) {z n k : Nat} (o : Ob) (ne : k ≠ n) : (h.wr z n o).raw k = h.raw k := by
  have nb : Nat.beq k n = false := by
    cases e : Nat.beq k n with
    | true => exact absurd (Nat.eq_of_beq_eq_true e) ne
    | false => rfl
  unfold Mem.wr Mem.raw Mem.oldW Mem.trW
  cases e : Nat.blt n h.lo with
  | true =>
    simp only [nb]
  | false =>
    simp only
    cases e2 : Nat.blt k h.lo with
    | true => rfl
    | false => exact Tr.get_put_ne _ _ _ _ fun e => ne (path_inj e).symm
theorem Mem.get_none {h : Mem} {n : Nat} (l : h.size ≤ n) : h.get n = none := by
  cases e : h.get n with
  | none => rfl
  | some o => exact absurd (Mem.get_lt e) (by omega)
@[simp] theorem Mem.size_push (h : Mem) (o : Ob) : (h.push o).size = h.size + 1 := rfl
@[simp] theorem Mem.size_set (h : Mem) (n : Nat) (o : Ob) : (h.set n o).size = h.size := rfl
@[simp] theorem Mem.size_lock (h : Mem) (ns : List Nat) : (h.lock ns).size = h.size := rfl
@[simp] theorem Mem.size_unlock (h : Mem) (ns : List Nat) : (h.unlock ns).size = h.size := rfl
@[simp] theorem Mem.size_lockD (h : Mem) (n : Nat) : (h.lockD n).size = h.size := rfl
@[simp] theorem Mem.size_unlockD (h : Mem) : (h.unlockD).size = h.size := rfl
@[simp] theorem Mem.dl_push (h : Mem) (o : Ob) : (h.push o).dl = h.dl := rfl
@[simp] theorem Mem.dl_set (h : Mem) (n : Nat) (o : Ob) : (h.set n o).dl = h.dl := rfl
@[simp] theorem Mem.dl_lock (h : Mem) (ns : List Nat) : (h.lock ns).dl = h.dl := rfl
@[simp] theorem Mem.dl_unlock (h : Mem) (ns : List Nat) : (h.unlock ns).dl = h.dl := rfl
@[simp] theorem Mem.dl_lockD (h : Mem) (n : Nat) : (h.lockD n).dl = n :: h.dl := rfl
@[simp] theorem Mem.dl_unlockD (h : Mem) : h.unlockD.dl = h.dl.tail := rfl
@[simp] theorem Mem.locks_lockD (h : Mem) (n : Nat) : (h.lockD n).locks = h.locks := rfl
@[simp] theorem Mem.locks_unlockD (h : Mem) : h.unlockD.locks = h.locks := rfl
@[simp] theorem Mem.locks_push (h : Mem) (o : Ob) : (h.push o).locks = h.locks := rfl
@[simp] theorem Mem.locks_set (h : Mem) (n : Nat) (o : Ob) : (h.set n o).locks = h.locks := rfl
@[simp] theorem Mem.locks_lock (h : Mem) (ns : List Nat) : (h.lock ns).locks = ns ++ h.locks := rfl
@[simp] theorem Mem.locks_unlock (h : Mem) (ns : List Nat) : (h.unlock ns).locks = h.locks.drop ns.length := rfl
theorem Mem.get_push_new (h : Mem) (o : Ob) : (h.push o).get h.size = some o := by
  rw [Mem.get_of_lt (by simp)]
  exact Mem.raw_wr _ _ _ _
theorem Mem.get_push_old {h : Mem} {n : Nat} (o : Ob) (l : n < h.size) : (h.push o).get n = h.get n := by
  rw [Mem.get_of_lt (by simp; omega), Mem.get_of_lt l]
  exact Mem.raw_wr_ne _ _ (by omega)
theorem Mem.get_push {h : Mem} {n : Nat} {o u : Ob} (e : h.get n = some u) : (h.push o).get n = some u := by
  rw [Mem.get_push_old o (Mem.get_lt e)]; exact e
theorem Mem.get_set_same {h : Mem} {n : Nat} (o : Ob) (l : n < h.size) : (h.set n o).get n = some o := by
  rw [Mem.get_of_lt (by simpa using l)]
  exact Mem.raw_wr _ _ _ _
theorem Mem.get_set_ne {h : Mem} {n m : Nat} (o : Ob) (ne : m ≠ n) : (h.set n o).get m = h.get m := by
  by_cases l : m < h.size
  · rw [Mem.get_of_lt (by simpa using l), Mem.get_of_lt l]
    exact Mem.raw_wr_ne _ _ ne
  · rw [Mem.get_none (by simpa using l), Mem.get_none (by omega)]
@[simp] theorem Mem.size_re (h : Mem) : h.re.size = h.size := rfl
@[simp] theorem Mem.locks_re (h : Mem) : h.re.locks = h.locks := rfl
@[simp] theorem Mem.dl_re (h : Mem) : h.re.dl = h.dl := rfl
theorem Mem.get_re (h : Mem) (n : Nat) : h.re.get n = h.get n := by
  unfold Mem.get Mem.re
  simp only
  cases e : Nat.blt n h.size with
  | true => simp only [Mem.raw, e]
  | false => rfl
@[simp] theorem Mem.get_lock (h : Mem) (ns : List Nat) (n : Nat) : (h.lock ns).get n = h.get n := rfl
@[simp] theorem Mem.get_unlock (h : Mem) (ns : List Nat) (n : Nat) : (h.unlock ns).get n = h.get n := rfl
@[simp] theorem Mem.get_lockD (h : Mem) (n k : Nat) : (h.lockD n).get k = h.get k := rfl
@[simp] theorem Mem.get_unlockD (h : Mem) (k : Nat) : h.unlockD.get k = h.get k := rfl
theorem memb_iff {n : Nat} : ∀ {l : List Nat}, memb n l = true ↔ n ∈ l
  | [] => by simp [memb]
  | m :: r => by
    unfold memb
    cases e : Nat.beq n m with
    | true => simp [Nat.eq_of_beq_eq_true e]
    | false => simp [Nat.ne_of_beq_eq_false e, memb_iff (l := r)]
theorem Mem.free_iff {h : Mem} {n : Nat} : h.free n = true ↔ n ∉ h.locks := by
  unfold Mem.free
  cases e : memb n h.locks with
  | true => simp [memb_iff.mp e]
  | false => simp [← memb_iff, e]

theorem Mem.freeD_iff {h : Mem} {n : Nat} : h.freeD n = true ↔ memb n h.dl = false := by
  unfold Mem.freeD
  cases memb n h.dl <;> simp

/-! ### results -/
inductive Res (α : Type) where
  | ok (a : α) (h : Mem)
  | err (x : Exc) (h : Mem)
  | bad
def Res.bind {α β : Type} (r : Res α) (f : α → Mem → Res β) : Res β := match r with
  | .ok a h => f a h
  | .err x h => .err x h
  | .bad => .bad
def ofO {α : Type} (o : Option α) (h : Mem) : Res α := match o with
  | some a => .ok a h
  | none => .bad
@[simp] theorem Res.bind_ok {α β : Type} (a : α) (h : Mem) (f : α → Mem → Res β) : (Res.ok a h).bind f = f a h := rfl
@[simp] theorem Res.bind_err {α β : Type} (x : Exc) (h : Mem) (f : α → Mem → Res β) : (Res.err x h : Res α).bind f = .err x h := rfl
@[simp] theorem Res.bind_bad {α β : Type} (f : α → Mem → Res β) : (Res.bad : Res α).bind f = .bad := rfl
@[simp] theorem ofO_some {α : Type} (a : α) (h : Mem) : ofO (some a) h = .ok a h := rfl
@[simp] theorem ofO_none {α : Type} (h : Mem) : ofO (none : Option α) h = .bad := rfl

abbrev Env := List (Option PV)
/-- a statement's end -/
inductive SR where
  | nx (s : Env) (h : Mem)
  | rt (v : PV) (h : Mem)
  | bk (s : Env) (h : Mem)
  | ct (s : Env) (h : Mem)
  | er (x : Exc) (s : Env) (h : Mem)
  | bad
abbrev Calls := Nat → List PV → Mem → Res PV
abbrev XE := Calls → Env → Mem → Res PV
abbrev XA := Calls → Env → Mem → Res (List PV)
abbrev XT := Calls → Env → Mem → Res Bool
abbrev XS := Calls → Env → Mem → SR
/-- what a loop walks: the items, and what is locked meanwhile -/
abbrev XI := Calls → Env → Mem → Res (List PV × List Nat)
/-- a target -/
abbrev XG := Calls → PV → Env → Mem → Res Env
end Ev
end

section
set_option Elab.async false
set_option linter.all false
/-! Ev: the evaluator's pieces, one for each construct. -/
namespace Ev
open PySem

/-! ### small tests that the kernel reckons quickly -/
def fitsN (n : Nat) : Bool := Nat.ble n 65536
def fits {α : Type} (xs : List α) : Bool := fitsN xs.length
def ilt : Int → Int → Bool
  | .ofNat a, .ofNat b => Nat.blt a b
  | .ofNat _, .negSucc _ => false
  | .negSucc _, .ofNat _ => true
  | .negSucc a, .negSucc b => Nat.blt b a
def ieq : Int → Int → Bool
  | .ofNat a, .ofNat b => Nat.beq a b
  | .ofNat _, .negSucc _ => false
  | .negSucc _, .ofNat _ => false
  | .negSucc a, .negSucc b => Nat.beq a b
theorem ilt_iff {i j : Int} : ilt i j = true ↔ i < j := by
  cases i with
  | ofNat a => cases j with
    | ofNat b => simp only [ilt, blt_iff, Int.ofNat_eq_natCast]; omega
    | negSucc b =>
      refine ⟨fun z => (nomatch z), fun z => ?_⟩
      simp only [Int.ofNat_eq_natCast] at z
      omega
  | negSucc a => cases j with
    | ofNat b =>
      refine ⟨fun _ => ?_, fun _ => rfl⟩
      simp only [Int.ofNat_eq_natCast]
      omega
    | negSucc b => simp only [ilt, blt_iff]; omega
theorem ieq_iff {i j : Int} : ieq i j = true ↔ i = j := by
  cases i with
  | ofNat a => cases j with
    | ofNat b => simp only [ieq, Nat.beq_eq, Int.ofNat_eq_natCast]; omega
    | negSucc b => exact ⟨fun z => (nomatch z), fun z => (nomatch z)⟩
  | negSucc a => cases j with
    | ofNat b => exact ⟨fun z => (nomatch z), fun z => (nomatch z)⟩
    | negSucc b => simp only [ieq, Nat.beq_eq]; omega
theorem ilt_eq (i j : Int) : ilt i j = decide (i < j) := by
  rw [Bool.eq_iff_iff, ilt_iff, decide_eq_true_iff]
theorem ieq_eq (i j : Int) : ieq i j = decide (i = j) := by
  rw [Bool.eq_iff_iff, ieq_iff, decide_eq_true_iff]
def ile (i j : Int) : Bool := match ilt j i with | true => false | false => true
theorem ile_eq (i j : Int) : ile i j = decide (i ≤ j) := by
  unfold ile
  rw [ilt_eq]
  by_cases h : j < i
  · rw [decide_eq_true h, decide_eq_false (by omega)]
  · rw [decide_eq_false h, decide_eq_true (by omega)]
def lt64 (i : Int) : Bool := Nat.blt i.natAbs 18446744073709551616
theorem lt64_iff {i : Int} : lt64 i = true ↔ -(2 ^ 64) < i ∧ i < 2 ^ 64 := by
  unfold lt64
  rw [blt_iff]
  omega
def bnot (b : Bool) : Bool := match b with | true => false | false => true
@[simp] theorem bnot_eq (b : Bool) : bnot b = !b := by cases b <;> rfl
/-- if, on a computed bool -/
def cnd {α : Sort u} (b : Bool) (x y : α) : α := match b with | true => x | false => y
@[simp] theorem cnd_true {α : Sort u} (x y : α) : cnd true x y = x := rfl
@[simp] theorem cnd_false {α : Sort u} (x y : α) : cnd false x y = y := rfl
theorem fits_le {α : Type} {xs : List α} (h : fits xs = true) : xs.length ≤ sizeLine := by
  have h1 : xs.length ≤ 65536 := by
    unfold fits fitsN at h
    rwa [Nat.ble_eq] at h
  have : sizeLine = 16777216 := by decide
  omega

/-! ### data, for == -/
def toD (h : Mem) : Nat → PV → Option PyData
  | 0, _ => none
  | n + 1, v => match v with
    | .non => some .none
    | .bl b => some (.bool b)
    | .int i => some (.int i)
    | .str x => some (.str x)
    | .tup xs => (go (toD h n) xs).map PyData.tuple
    | .ref r => match h.get r with
      | some (.lst xs) => (go (toD h n) xs).map PyData.list
      | some (.scr xs) => (go (toD h n) xs).map PyData.list
      | _ => none
where
  go (f : PV → Option PyData) : List PV → Option (List PyData)
  | [] => some []
  | x :: xs => match f x with
    | none => none
    | some d => match go f xs with
      | none => none
      | some ds => some (d :: ds)
/-- == of two values; none: not of the kinds that are served -/
def eqv (h : Mem) (x y : PV) : Option Bool := match toD h 8 x with
  | none => none
  | some d => match toD h 8 y with
    | none => none
    | some e => cnd (SeqAt.shaped d) (cnd (SeqAt.shaped e) (some (PyData.eqv d e)) none) none

/-! ### operators -/
inductive BO where | add | sub | mul | fdiv | mod | pow
def mapInt2 (f : Int → Int → Int) (i j : Int) (h : Mem) : Res PV := .ok (.int (f i j)) h
def listOf (h : Mem) : PV → Option (List PV)
  | .ref a => match h.get a with
    | some (.lst xs) => some xs
    | _ => none
  | _ => none
def addV (x y : PV) (h : Mem) : Res PV := match x with
  | .int i => match y with
    | .int j => .ok (.int (i + j)) h
    | _ => .bad
  | .tup xs => match y with
    | .tup ys => cnd (fits (xs ++ ys)) (.ok (.tup (xs ++ ys)) h) .bad
    | _ => .bad
  | .str a => match y with
    | .str b => cnd (fitsN (a.length + b.length)) (.ok (.str (a ++ b)) h) .bad
    | _ => .bad
  | .ref _ => match listOf h x with
    | some xs => match listOf h y with
      | some ys => cnd (fits (xs ++ ys)) (.ok (.ref h.size) (h.push (.lst (xs ++ ys)))) .bad
      | none => .bad
    | none => .bad
  | _ => .bad
def mulV (x y : PV) (h : Mem) : Res PV := match y with
  | .int j => match x with
    | .int i => cnd (lt64 i) (.ok (.int (i * j)) h) (cnd (lt64 j) (.ok (.int (i * j)) h) .bad)
    | .ref _ => match listOf h x with
      | some xs => cnd (ile 0 j) (cnd (ilt j 65536) (cnd (fitsN (xs.length * j.toNat)) (.ok (.ref h.size) (h.push (.lst (List.replicate j.toNat xs).flatten))) .bad) .bad) .bad
      | none => .bad
    | _ => .bad
  | _ => .bad
def binop (o : BO) (x y : PV) (h : Mem) : Res PV := match o with
  | .add => addV x y h
  | .mul => mulV x y h
  | .sub => match x with
    | .int i => match y with
      | .int j => .ok (.int (i - j)) h
      | _ => .bad
    | _ => .bad
  | .fdiv => match x with
    | .int i => match y with
      | .int j => cnd (ilt 0 j) (cnd (Nat.blt j.natAbs.log2 9000) (.ok (.int (i / j)) h) .bad) .bad
      | _ => .bad
    | _ => .bad
  | .mod => match x with
    | .int i => match y with
      | .int j => cnd (ilt 0 j) (.ok (.int (i % j)) h) .bad
      | _ => .bad
    | _ => .bad
  | .pow => match x with
    | .int i => match y with
      | .int j => cnd (ile 0 j) (cnd (ile j 1000) (cnd (lt64 i) (.ok (.int (i ^ j.toNat)) h) .bad) .bad) .bad
      | _ => .bad
    | _ => .bad
inductive CO where | eq | ne | lt | le | gt | ge | is_ | isnot | in_ | notin
def icmp (f : Int → Int → Bool) (x y : PV) : Option Bool := match x with
  | .int i => match y with
    | .int j => some (f i j)
    | _ => none
  | _ => none
def intsOf : List PV → Option (List Int)
  | [] => some []
  | .int i :: xs => match intsOf xs with
    | some is => some (i :: is)
    | none => none
  | _ :: _ => none
def ltV (x y : PV) : Option Bool := match x with
  | .int _ => icmp ilt x y
  | .tup xs => match y with
    | .tup ys => match intsOf xs with
      | some is => match intsOf ys with
        | some js => some (HT.lexLt is js)
        | none => none
      | none => none
    | _ => none
  | _ => none
def isNon : PV → Bool
  | .non => true
  | _ => false
def beqB (a b : Bool) : Bool := match a with
  | true => b
  | false => bnot b
theorem beqB_eq (a b : Bool) : beqB a b = decide (a = b) := by cases a <;> cases b <;> rfl
def isV (x y : PV) : Option Bool := match y with
  | .non => some (isNon x)
  | .bl b => match x with
    | .bl a => some (beqB a b)
    | _ => none
  | _ => none
/-- x in a list of data -/
def inL (h : Mem) (x : PV) (xs : List PV) : Option Bool := match toD h 8 x with
  | none => none
  | some d => match toD.go (toD h 7) xs with
    | none => none
    | some ds => cnd (SeqAt.shaped d) (cnd (SeqAt.shaped (.list ds)) (some (ds.any fun z => PyData.eqv z d)) none) none
/-- keys of dicts: tuples of ints, None and such tuples -/
def keyG (f : PV → Option NestedKey) : List PV → Option (List NestedKey)
  | [] => some []
  | x :: xs => match f x with
    | none => none
    | some d => match keyG f xs with
      | none => none
      | some ds => some (d :: ds)
def keyE : Nat → PV → Option NestedKey
  | 0, _ => none
  | n + 1, v => match v with
    | .non => some .none
    | .int i => some (.num i)
    | .tup xs => match keyG (keyE n) xs with
      | some ks => some (.tup ks)
      | none => none
    | _ => none
def keyN (x : PV) : Option NestedKey := match x with
  | .tup _ => keyE 8 x
  | _ => none
def kEqL (f : PV → PV → Bool) : List PV → List PV → Bool
  | [], [] => true
  | x :: xs, y :: ys => match f x y with
    | true => kEqL f xs ys
    | false => false
  | _, _ => false
def kEq : Nat → PV → PV → Bool
  | 0, _, _ => false
  | n + 1, x, y => match x with
    | .non => match y with
      | .non => true
      | _ => false
    | .int i => match y with
      | .int j => ieq i j
      | _ => false
    | .tup xs => match y with
      | .tup ys => kEqL (kEq n) xs ys
      | _ => false
    | _ => false
/-- equal keys -/
def tkeyEq (x y : PV) : Bool := kEq 8 x y
def isTKey (x : PV) : Bool := match keyN x with
  | some _ => true
  | none => false
def dlook (k : PV) : List (PV × PV) → Option PV
  | [] => none
  | (j, v) :: r => match tkeyEq j k with | true => some v | false => dlook k r
/-- d[k] = v: the place is the first one's -/
def dput (k v : PV) : List (PV × PV) → List (PV × PV)
  | [] => [(k, v)]
  | (j, u) :: r => match tkeyEq j k with
    | true => (j, v) :: r
    | false => (j, u) :: dput k v r
def dputs : List (PV × PV) → List (PV × PV) → List (PV × PV)
  | acc, [] => acc
  | acc, (k, v) :: r => dputs (dput k v acc) r
/-- hash(k) -/
def hashG (f : PV → Option Int) : List PV → Option (List Int)
  | [] => some []
  | x :: xs => match f x with
    | none => none
    | some d => match hashG f xs with
      | none => none
      | some ds => some (d :: ds)
def hashF : Nat → PV → Option Int
  | 0, _ => none
  | n + 1, v => match v with
    | .non => some (reduceHash 0xFCA86420)
    | .int i => some (hashInt i)
    | .tup xs => match hashG (hashF n) xs with
      | some hs => some (reduceHash (Builtin.Tuple.tupleHashOf hs))
      | none => none
    | _ => none
def hashesF : List (PV × PV) → Option (List Int)
  | [] => some []
  | (k, _) :: r => match hashF 8 k with
    | none => none
    | some d => match hashesF r with
      | none => none
      | some ds => some (d :: ds)
def inI (i : Int) : List Int → Bool
  | [] => false
  | j :: r => match ieq i j with
    | true => true
    | false => inI i r
def nodI : List Int → Bool
  | [] => true
  | i :: r => match inI i r with
    | true => false
    | false => nodI r
/-- the keys' hashes are all different -/
def apart (kvs : List (PV × PV)) : Bool := match hashesF kvs with
  | some hs => nodI hs
  | none => false
/-- no key of the dict hashes as None does -/
def noneFree (kvs : List (PV × PV)) : Bool := match hashesF kvs with
  | some hs => match inI (reduceHash 0xFCA86420) hs with
    | true => false
    | false => true
  | none => false
def inD (x : PV) (kvs : List (PV × PV)) : Option Bool := match x with
  | .non => cnd (noneFree kvs) (some false) none
  | _ => cnd (isTKey x) (some (match dlook x kvs with | some _ => true | none => false)) none
def inV (h : Mem) (x y : PV) : Option Bool := match y with
  | .ref r => match h.get r with
    | some (.lst xs) => inL h x xs
    | some (.dic kvs) => inD x kvs
    | _ => none
  | _ => none
def onot (o : Option Bool) : Option Bool := match o with
  | some b => some (bnot b)
  | none => none
def cmpop (o : CO) (x y : PV) (h : Mem) : Option Bool := match o with
  | .eq => eqv h x y
  | .ne => onot (eqv h x y)
  | .lt => ltV x y
  | .le => icmp ile x y
  | .gt => icmp (fun i j => ilt j i) x y
  | .ge => icmp (fun i j => ile j i) x y
  | .is_ => isV x y
  | .isnot => onot (isV x y)
  | .in_ => inV h x y
  | .notin => onot (inV h x y)

/-! ### expressions -/
def eVar (i : Nat) : XE := fun _ s h => match s[i]? with
  | some (some v) => .ok v h
  | _ => .bad
def eC (v : PV) : XE := fun _ _ h => .ok v h
def eBin (o : BO) (a b : XE) : XE := fun c s h => (a c s h).bind fun x h1 => (b c s h1).bind fun y h2 => binop o x y h2
def eCmp (o : CO) (a b : XE) : XE := fun c s h => (a c s h).bind fun x h1 => (b c s h1).bind fun y h2 => ofO ((cmpop o x y h2).map PV.bl) h2
def eChain (o o' : CO) (a b d : XE) : XE := fun c s h => (a c s h).bind fun x h1 => (b c s h1).bind fun y h2 => match cmpop o x y h2 with
  | some true => (d c s h2).bind fun w h3 => ofO ((cmpop o' y w h3).map PV.bl) h3
  | some false => .ok (.bl false) h2
  | none => .bad
def eAnd (a b : XE) : XE := fun c s h => (a c s h).bind fun x h1 => match x with
  | .bl true => b c s h1
  | .bl false => .ok (.bl false) h1
  | _ => .bad
def eOr (a b : XE) : XE := fun c s h => (a c s h).bind fun x h1 => match x with
  | .bl true => .ok (.bl true) h1
  | .bl false => b c s h1
  | _ => .bad
def eNot (a : XE) : XE := fun c s h => (a c s h).bind fun x h1 => match x with
  | .bl b => .ok (.bl (bnot b)) h1
  | _ => .bad
def eIf (t : XT) (a b : XE) : XE := fun c s h => (t c s h).bind fun b' h1 => match b' with
  | true => a c s h1
  | false => b c s h1
/-- an expression as a test -/
def tE (a : XE) : XT := fun c s h => (a c s h).bind fun x h1 => match x with
  | .bl b => .ok b h1
  | _ => .bad
def tAnd (a b : XT) : XT := fun c s h => (a c s h).bind fun x h1 => match x with
  | true => b c s h1
  | false => .ok false h1
def tOr (a b : XT) : XT := fun c s h => (a c s h).bind fun x h1 => match x with
  | true => .ok true h1
  | false => b c s h1
def tNot (a : XT) : XT := fun c s h => (a c s h).bind fun x h1 => .ok (bnot x) h1
/-- argument lists, displays -/
def aNil : XA := fun _ _ h => .ok [] h
def aCons (a : XE) (r : XA) : XA := fun c s h => (a c s h).bind fun x h1 => (r c s h1).bind fun xs h2 => .ok (x :: xs) h2
def eTup (l : XA) : XE := fun c s h => (l c s h).bind fun xs h1 => cnd (fits xs) (.ok (.tup xs) h1) .bad
/-- a new list of what l gives -/
def eNew (l : XA) : XE := fun c s h => (l c s h).bind fun xs h1 => cnd (fits xs) (.ok (.ref h1.size) (h1.push (.lst xs))) .bad
/-- the items of a list, a tuple -/
def itemsOf (h : Mem) : PV → Option (List PV)
  | .tup xs => some xs
  | .ref a => match h.get a with
    | some (.lst xs) => some xs
    | some (.scr xs) => some xs
    | _ => none
  | _ => none
def listsOf (h : Mem) : PV → Option (List PV)
  | .ref a => match h.get a with
    | some (.lst xs) => some xs
    | some (.scr xs) => some xs
    | _ => none
  | _ => none
def lOf (a : XE) : XA := fun c s h => (a c s h).bind fun x h1 => ofO (listsOf h1 x) h1
def ixN (n : Nat) (i : Int) : Option Nat := match i with
  | .ofNat k => cnd (Nat.blt k n) (some k) none
  | .negSucc k => cnd (Nat.blt k n) (some (n - (k + 1))) none
def subV (x y : PV) (h : Mem) : Option PV := match y with
  | .int i => match itemsOf h x with
    | some xs => match ixN xs.length i with
      | some k => xs[k]?
      | none => none
    | none => none
  | .tup _ => match x with
    | .ref a => match h.get a with
      | some (.dic kvs) => cnd (isTKey y) (dlook y kvs) none
      | _ => none
    | _ => none
  | _ => none
def eSub (a b : XE) : XE := fun c s h => (a c s h).bind fun x h1 => (b c s h1).bind fun y h2 => ofO (subV x y h2) h2
/-- a slice's part -/
def oNone : Calls → Env → Mem → Res (Option Int) := fun _ _ h => .ok none h
def oSome (a : XE) : Calls → Env → Mem → Res (Option Int) := fun c s h => (a c s h).bind fun x h1 => match x with
  | .int i => .ok (some i) h1
  | _ => .bad
def cut (xs : List PV) (lo hi : Option Int) : List PV := (xs.drop (HT.sIx xs.length 0 lo)).take (HT.sIx xs.length xs.length hi - HT.sIx xs.length 0 lo)
def slV (x : PV) (lo hi : Option Int) (h : Mem) : Res PV := match x with
  | .tup xs => .ok (.tup (cut xs lo hi)) h
  | .ref a => match h.get a with
    | some (.lst xs) => .ok (.ref h.size) (h.push (.lst (cut xs lo hi)))
    | some (.scr xs) => .ok (.ref h.size) (h.push (.lst (cut xs lo hi)))
    | _ => .bad
  | _ => .bad
def eSl (a : XE) (lo hi : Calls → Env → Mem → Res (Option Int)) : XE := fun c s h => (a c s h).bind fun x h1 => (lo c s h1).bind fun l h2 => (hi c s h2).bind fun u h3 => slV x l u h3
def lookC {α : Type} (k : Nat) : List (Nat × α) → Option α
  | [] => none
  | (j, a) :: r => match Nat.beq j k with | true => some a | false => lookC k r
def noErr {α : Type} (r : Res α) : Res α := match r with
  | .ok a h => .ok a h
  | _ => .bad
def fldV (tab : List (Nat × At)) (c : Calls) (x : PV) (h1 : Mem) : Res PV := match x with
  | .ref r => match h1.get r with
    | some (.ins k fs) => match lookC k tab with
      | some (.slot i) => match fs[i]? with
        | some (some v) => .ok v h1
        | _ => .bad
      | some (.prop f) => noErr (c f [x] h1)
      | none => .bad
    | _ => .bad
  | _ => .bad
def eFld (tab : List (Nat × At)) (a : XE) : XE := fun c s h => (a c s h).bind fun x h1 => fldV tab c x h1
def eCall (f : Nat) (l : XA) : XE := fun c s h => (l c s h).bind fun xs h1 => c f xs h1
/-- a method of an own class -/
def methF (tab : List (Nat × Nat)) (x : PV) (h1 : Mem) : Option Nat := match x with
  | .ref r => match h1.get r with
    | some (.ins k _) => lookC k tab
    | _ => none
  | _ => none
def eMeth (tab : List (Nat × Nat)) (a : XE) (l : XA) : XE := fun c s h => (a c s h).bind fun x h1 => match methF tab x h1 with
  | some f => (l c s h1).bind fun xs h2 => c f (x :: xs) h2
  | none => .bad
/-- a new instance -/
def makeV (k f n : Nat) (c : Calls) (xs : List PV) (h1 : Mem) : Res PV :=
  (c f (.ref h1.size :: xs) (h1.push (.ins k (List.replicate n none)))).bind fun v h2 => match v with
    | .non => .ok (.ref h1.size) h2
    | _ => .bad
def eMake (k f n : Nat) (l : XA) : XE := fun c s h => (l c s h).bind fun xs h1 => makeV k f n c xs h1
/-- len: of lists, tuples, texts, dicts; own __len__ by the table -/
def lenI (v : PV) (h2 : Mem) : Res PV := match v with
  | .int i => cnd (ile 0 i) (cnd (ilt i 65536) (.ok (.int i) h2) .bad) .bad
  | _ => .bad
def lenV (tab : List (Nat × Nat)) (c : Calls) (x : PV) (h1 : Mem) : Res PV := match x with
  | .tup xs => .ok (.int (xs.length : Nat)) h1
  | .str z => cnd (fitsN z.length) (.ok (.int (z.length : Nat)) h1) .bad
  | .ref r => match h1.get r with
    | some (.lst xs) => .ok (.int (xs.length : Nat)) h1
    | some (.scr xs) => .ok (.int (xs.length : Nat)) h1
    | some (.dic kvs) => cnd (h1.freeD r) (.ok (.int (kvs.length : Nat)) h1) .bad
    | some (.ins k _) => match lookC k tab with
      | some f => (noErr (c f [x] h1)).bind lenI
      | none => .bad
    | none => .bad
  | _ => .bad
def eLen (tab : List (Nat × Nat)) (a : XE) : XE := fun c s h => (a c s h).bind fun x h1 => lenV tab c x h1
/-- what isinstance asks for -/
inductive IsK where | int | bool | str | tuple | list | own (k : Nat)
def isInt : IsK → Bool
  | .int => true
  | _ => false
def isBool : IsK → Bool
  | .int => true
  | .bool => true
  | _ => false
def isStr : IsK → Bool
  | .str => true
  | _ => false
def isTup : IsK → Bool
  | .tuple => true
  | _ => false
def isLst : IsK → Bool
  | .list => true
  | _ => false
/-- tab: the answer for instances, by their class -/
def isB (k : IsK) (tab : List (Nat × Bool)) (x : PV) (h : Mem) : Option Bool := match x with
  | .non => some false
  | .bl _ => some (isBool k)
  | .int _ => some (isInt k)
  | .str _ => some (isStr k)
  | .tup _ => some (isTup k)
  | .ref r => match h.get r with
    | some (.lst _) => some (isLst k)
    | some (.dic _) => some false
    | some (.ins j _) => lookC j tab
    | _ => none
def eIs (k : IsK) (tab : List (Nat × Bool)) (a : XE) : XE := fun c s h => (a c s h).bind fun x h1 => ofO ((isB k tab x h1).map PV.bl) h1
def blsOf : List PV → Option (List Bool)
  | [] => some []
  | .bl b :: xs => match blsOf xs with
    | some bs => some (b :: bs)
    | none => none
  | _ :: _ => none
def allB : List Bool → Bool
  | [] => true
  | b :: bs => match b with | true => allB bs | false => false
def anyB : List Bool → Bool
  | [] => false
  | b :: bs => match b with | true => true | false => anyB bs
def eAll (l : XA) : XE := fun c s h => (l c s h).bind fun xs h1 => match blsOf xs with
  | some bs => .ok (.bl (allB bs)) h1
  | none => .bad
def eAny (l : XA) : XE := fun c s h => (l c s h).bind fun xs h1 => match blsOf xs with
  | some bs => .ok (.bl (anyB bs)) h1
  | none => .bad
/-- built-ins by values -/
def eB (g : List PV → Mem → Res PV) (l : XA) : XE := fun c s h => (l c s h).bind g
def gMax2 (xs : List PV) (h : Mem) : Res PV := match xs with
  | [.int i, .int j] => .ok (.int (cnd (ilt i j) j i)) h
  | _ => .bad
def gMin2 (xs : List PV) (h : Mem) : Res PV := match xs with
  | [.int i, .int j] => .ok (.int (cnd (ilt j i) j i)) h
  | _ => .bad
/-- int(e) of an int or a bool -/
def gInt (xs : List PV) (h : Mem) : Res PV := match xs with
  | [.int i] => .ok (.int i) h
  | [.bl b] => .ok (.int (cnd b 1 0)) h
  | _ => .bad
def iabs (i : Int) : Int := match i with
  | .ofNat n => .ofNat n
  | .negSucc n => .ofNat (n + 1)
def gAbs (xs : List PV) (h : Mem) : Res PV := match xs with
  | [.int i] => .ok (.int (iabs i)) h
  | _ => .bad
/-- tuple(l), list(l) of a list -/
def gTupL (xs : List PV) (h : Mem) : Res PV := .ok (.tup xs) h
def gListL (xs : List PV) (h : Mem) : Res PV := .ok (.ref h.size) (h.push (.lst xs))
def sumI : List Int → Int
  | [] => 0
  | i :: is => i + sumI is
def gSum (xs : List PV) (h : Mem) : Res PV := match intsOf xs with
  | some is => .ok (.int (sumI is)) h
  | none => .bad
def maxI : Int → List Int → Int
  | m, [] => m
  | m, i :: is => maxI (cnd (ilt m i) i m) is
def minI : Int → List Int → Int
  | m, [] => m
  | m, i :: is => minI (cnd (ilt i m) i m) is
def gMaxL (xs : List PV) (h : Mem) : Res PV := match intsOf xs with
  | some (i :: is) => .ok (.int (maxI i is)) h
  | _ => .bad
def gMinL (xs : List PV) (h : Mem) : Res PV := match intsOf xs with
  | some (i :: is) => .ok (.int (minI i is)) h
  | _ => .bad
/-- o.append(e) -/
def eApp (a b : XE) : XE := fun c s h => (a c s h).bind fun x h1 => match x with
  | .ref r => match h1.get r with
    | some (.lst _) => (b c s h1).bind fun y h2 => match h2.get r with
      | some (.lst xs) => cnd (fits xs) (cnd (h2.free r) (.ok .non (h2.set r (.lst (xs ++ [y])))) .bad) .bad
      | _ => .bad
    | _ => .bad
  | _ => .bad

/-! ### dicts -/
def eDic0 : XE := fun _ _ h => .ok (.ref h.size) (h.push (.dic []))
def pairsOf : List PV → Option (List (PV × PV))
  | [] => some []
  | .tup [k, x] :: r => match isTKey k with
    | true => match pairsOf r with
      | some ps => some ((k, x) :: ps)
      | none => none
    | false => none
  | _ :: _ => none
def dictV (x : PV) (h1 : Mem) : Res PV := match x with
  | .ref r => match h1.get r with
    | some (.dic kvs) => cnd (apart kvs) (.ok (.ref h1.size) (h1.push (.dic kvs))) .bad
    | some (.lst xs) => match pairsOf xs with
      | some ps => .ok (.ref h1.size) (h1.push (.dic (dputs [] ps)))
      | none => .bad
    | _ => .bad
  | _ => .bad
def gDict (xs : List PV) (h : Mem) : Res PV := match xs with
  | [x] => dictV x h
  | _ => .bad
def dgetV (x k d : PV) (h : Mem) : Option PV := match x with
  | .ref r => match h.get r with
    | some (.dic kvs) => match k with
      | .non => cnd (noneFree kvs) (some d) none
      | _ => cnd (isTKey k) (some ((dlook k kvs).getD d)) none
    | _ => none
  | _ => none
def isDic (x : PV) (h : Mem) : Bool := match x with
  | .ref r => match h.get r with
    | some (.dic _) => true
    | _ => false
  | _ => false
def eGet1 (a b : XE) : XE := fun c s h => (a c s h).bind fun x h1 => cnd (isDic x h1) ((b c s h1).bind fun y h2 => ofO (dgetV x y .non h2) h2) .bad
def eGet2 (a b d : XE) : XE := fun c s h => (a c s h).bind fun x h1 => cnd (isDic x h1) ((b c s h1).bind fun y h2 => (d c s h2).bind fun z h3 => ofO (dgetV x y z h3) h3) .bad
/-- d.clear() -/
def eClrD (a : XE) : XE := fun c s h => (a c s h).bind fun x h1 => match x with
  | .ref r => match h1.get r with
    | some (.dic _) => cnd (h1.free r) (.ok .non (h1.set r (.dic []))) .bad
    | _ => .bad
  | _ => .bad
/-- l.extend(a list) -/
def eExt (a b : XE) : XE := fun c s h => (a c s h).bind fun x h1 => match x with
  | .ref r => match h1.get r with
    | some (.lst _) => (b c s h1).bind fun y h2 => match listOf h2 y with
      | some ys => match h2.get r with
        | some (.lst xs) => cnd (fits (xs ++ ys)) (cnd (h2.free r) (.ok .non (h2.set r (.lst (xs ++ ys)))) .bad) .bad
        | _ => .bad
      | none => .bad
    | _ => .bad
  | _ => .bad
/-- (.., *e, ..) -/
def aStar (l : XE) (r : XA) : XA := fun c s h => (l c s h).bind fun x h1 => match itemsOf h1 x with
  | some xs => (r c s h1).bind fun ys h2 => .ok (xs ++ ys) h2
  | none => .bad

/-! ### sorted(set(l)), l of tuples of small ints -/
def tInts : List PV → Option (List (List Int))
  | [] => some []
  | .tup xs :: r => match intsOf xs with
    | some k => match tInts r with
      | some ks => some (k :: ks)
      | none => none
    | none => none
  | _ :: _ => none
def small64 : List Int → Bool
  | [] => true
  | i :: r => cnd (ile 0 i) (cnd (ilt i 64) (small64 r) false) false
def allT (d : Nat) : List (List Int) → Bool
  | [] => true
  | k :: r => cnd (Nat.beq k.length d) (cnd (small64 k) (allT d r) false) false
def insT (k : List Int) : List (List Int) → List (List Int)
  | [] => [k]
  | j :: r => cnd (HT.lexLt k j) (k :: j :: r) (cnd (HT.lexLt j k) (j :: insT k r) (j :: r))
def ssort : List (List Int) → List (List Int)
  | [] => []
  | k :: r => insT k (ssort r)
def headLen : List (List Int) → Nat
  | [] => 1
  | k :: _ => k.length
def tupI (k : List Int) : PV := .tup (k.map PV.int)
def gSS (x : PV) (h : Mem) : Res PV := match listsOf h x with
  | some xs => match tInts xs with
    | some ks => cnd (Nat.blt ks.length 64) (cnd (Nat.blt 0 (headLen ks)) (cnd (allT (headLen ks) ks) (.ok (.ref h.size) (h.push (.lst ((ssort ks).map tupI)))) .bad) .bad) .bad
    | none => .bad
  | none => .bad
def eSS (a : XE) : XE := fun c s h => (a c s h).bind gSS

/-! ### what is walked -/
def iOf (a : XE) : XI := fun c s h => (a c s h).bind fun x h1 => match x with
  | .tup xs => .ok (xs, []) h1
  | .ref r => match h1.get r with
    | some (.lst xs) => .ok (xs, [r]) h1
    | some (.scr xs) => .ok (xs, [r]) h1
    | _ => .bad
  | _ => .bad
/-- a list, a tuple, a dict's keys -/
def iAny (a : XE) : XI := fun c s h => (a c s h).bind fun x h1 => match x with
  | .tup xs => .ok (xs, []) h1
  | .ref r => match h1.get r with
    | some (.lst xs) => .ok (xs, [r]) h1
    | some (.scr xs) => .ok (xs, [r]) h1
    | some (.dic kvs) => .ok (kvs.map fun q => q.1, [r]) h1
    | _ => .bad
  | _ => .bad
def itemsD (f : PV × PV → PV) (x : PV) (h1 : Mem) : Res (List PV × List Nat) := match x with
  | .ref r => match h1.get r with
    | some (.dic kvs) => .ok (kvs.map f, [r]) h1
    | _ => .bad
  | _ => .bad
def iItems (a : XE) : XI := fun c s h => (a c s h).bind (itemsD fun q => .tup [q.1, q.2])
def iVals (a : XE) : XI := fun c s h => (a c s h).bind (itemsD fun q => q.2)
/-- a new list that no one holds -/
def iNew (l : XA) : XI := fun c s h => (l c s h).bind fun xs h1 => .ok (xs, [h1.size]) (h1.push (.lst xs))
def upto (lo st : Int) : Nat → List PV
  | 0 => []
  | n + 1 => .int lo :: upto (lo + st) st n
def lt62 (i : Int) : Bool := cnd (ilt (-4611686018427387904) i) (ilt i 4611686018427387904) false
def iR1 (a : XE) : XI := fun c s h => (a c s h).bind fun x h1 => match x with
  | .int j => cnd (lt62 j) (.ok (upto 0 1 j.toNat, []) h1) .bad
  | _ => .bad
def iR2 (a b : XE) : XI := fun c s h => (a c s h).bind fun x h1 => (b c s h1).bind fun y h2 => match x with
  | .int i => match y with
    | .int j => cnd (lt62 i) (cnd (lt62 j) (.ok (upto i 1 (j - i).toNat, []) h2) .bad) .bad
    | _ => .bad
  | _ => .bad
def pairsI (i : Int) : List PV → List PV
  | [] => []
  | x :: xs => .tup [.int i, x] :: pairsI (i + 1) xs
def iEnum (a : XI) : XI := fun c s h => (a c s h).bind fun p h1 => .ok (pairsI 0 p.1, p.2) h1
def pairs : List PV → List PV → List PV
  | x :: xs, y :: ys => .tup [x, y] :: pairs xs ys
  | _, _ => []
def unlockR {α : Type} (ls : List Nat) (r : Res α) : Res α := match r with
  | .ok a h => .ok a (h.unlock ls)
  | .err x h => .err x (h.unlock ls)
  | .bad => .bad
def iZip (a b : XI) : XI := fun c s h => (a c s h).bind fun p h1 => (unlockR p.2 (b c s (h1.lock p.2))).bind fun q h2 => .ok (pairs p.1 q.1, q.2 ++ p.2) h2
def rng3 (i j k : Int) (h : Mem) : Res (List PV × List Nat) := cnd (ieq k 0) .bad (cnd (Nat.blt k.natAbs 1073741824) (cnd (Builtin.Range.small i j k) (cnd (ile 0 (Builtin.Range.rangeSize i j k)) (.ok (upto i k (Builtin.Range.rangeSize i j k).toNat, []) h) .bad) .bad) .bad)
def iR3 (a b d : XE) : XI := fun c s h => (a c s h).bind fun x h1 => (b c s h1).bind fun y h2 => (d c s h2).bind fun z h3 => match x with
  | .int i => match y with
    | .int j => match z with
      | .int k => rng3 i j k h3
      | _ => .bad
    | _ => .bad
  | _ => .bad

/-! ### targets -/
def gName (i : Nat) : XG := fun _ v s h => .ok (s.set i (some v)) h
/-! ### comprehensions -/
/-- a comprehension's target: a name, or names -/
inductive Tg where
  | nm (i : Nat)
  | un (is : List Nat)
  /-- names, names in brackets, names -/
  | un2 (l1 is l2 : List Nat)
def setAll : List Nat → List PV → Env → Option Env
  | [], [], s => some s
  | i :: is, x :: xs, s => setAll is xs (s.set i (some x))
  | _, _, _ => none
/-- (a, b, ..) = a tuple or a list -/
def gUnp (is : List Nat) : XG := fun c v s h => match itemsOf h v with
  | some xs => ofO (setAll is xs s) h
  | none => .bad
def setPre : List Nat → List PV → Env → Option (Env × List PV)
  | [], xs, s => some (s, xs)
  | i :: is, x :: xs, s => setPre is xs (s.set i (some x))
  | _ :: _, [], _ => none
def set2 (h : Mem) (l1 is l2 : List Nat) (xs : List PV) (s : Env) : Option Env := match setPre l1 xs s with
  | some (s1, x :: r) => match itemsOf h x with
    | some ys => match setAll is ys s1 with
      | some s2 => setAll l2 r s2
      | none => none
    | none => none
  | _ => none
def gUnp2 (l1 is l2 : List Nat) : XG := fun c v s h => match itemsOf h v with
  | some xs => ofO (set2 h l1 is l2 xs s) h
  | none => .bad
def tgG : Tg → XG
  | .nm i => gName i
  | .un is => gUnp is
  | .un2 l1 is l2 => gUnp2 l1 is l2
def loopL (f : PV → Mem → Res (List PV)) : List PV → Mem → Res (List PV)
  | [], h => .ok [] h
  | x :: xs, h => (f x h).bind fun ys h1 => (loopL f xs h1).bind fun zs h2 => .ok (ys ++ zs) h2
/-- one clause's turns: the store, the tests, then what is inside -/
def turns (g : XG) (t : XT) (c : Calls) (s : Env) (inner : Env → Mem → Res (List PV)) (xs : List PV) (h : Mem) : Res (List PV) :=
  loopL (fun x h => (g c x s h).bind fun s' h1 => (t c s' h1).bind fun b h2 => match b with
    | true => inner s' h2
    | false => .ok [] h2) xs h
def lC1 (own : List Nat) (i : XI) (g : Tg) (t : XT) (e : XE) : XA := fun c s h => (i c s h).bind fun p h1 =>
  (noErr (turns (tgG g) t c (wipeV s own) (fun s' h => (e c s' h).bind fun y h' => .ok [y] h') p.1 (h1.lock p.2))).bind fun ys h2 => cnd (fits ys) (.ok ys (h2.unlock p.2)) .bad
where
  wipeV (s : Env) : List Nat → Env
  | [] => s
  | v :: vs => (wipeV s vs).set v none
def tYes : XT := fun _ _ h => .ok true h
def lC2 (own own1 : List Nat) (i : XI) (g : Tg) (t : XT) (i1 : XI) (g1 : Tg) (t1 : XT) (e : XE) : XA := fun c s h => (i c s h).bind fun p h1 =>
  (noErr (turns (tgG g) t c (lC1.wipeV s own) (fun s' h => (i1 c s' h).bind fun q h3 =>
    (turns (tgG g1) t1 c (lC1.wipeV s' own1) (fun s'' h => (e c s'' h).bind fun y h' => .ok [y] h') q.1 (h3.lock q.2)).bind fun ys h4 => .ok ys (h4.unlock q.2)) p.1 (h1.lock p.2))).bind fun ys h2 => cnd (fits ys) (.ok ys (h2.unlock p.2)) .bad

/-- {k: v for ..} -/
def dC1 (own : List Nat) (i : XI) (g : Tg) (t : XT) (ek ev : XE) : XE := fun c s h => (i c s h).bind fun p h1 =>
  (noErr (turns (tgG g) t c (lC1.wipeV s own) (fun s' h => (ek c s' h).bind fun k h' => (ev c s' h').bind fun y h'' => .ok [.tup [k, y]] h'') p.1 (h1.lock p.2))).bind fun ys h2 => cnd (fits ys) (match pairsOf ys with
    | some ps => .ok (.ref (h2.unlock p.2).size) ((h2.unlock p.2).push (.dic (dputs [] ps)))
    | none => .bad) .bad

/-! ### statements -/
def sOf {α : Type} (s : Env) (r : Res α) (f : α → Mem → SR) : SR := match r with
  | .ok a h => f a h
  | .err x h => .er x s h
  | .bad => .bad
@[simp] theorem sOf_ok {α : Type} (s : Env) (a : α) (h : Mem) (f : α → Mem → SR) : sOf s (.ok a h) f = f a h := rfl
@[simp] theorem sOf_err {α : Type} (s : Env) (x : Exc) (h : Mem) (f : α → Mem → SR) : sOf s (.err x h : Res α) f = .er x s h := rfl
@[simp] theorem sOf_bad {α : Type} (s : Env) (f : α → Mem → SR) : sOf s (.bad : Res α) f = .bad := rfl
def sNil : XS := fun _ s h => .nx s h
/-- the memory told anew ahead -/
def sRe (a : XS) : XS := fun c s h => a c s h.re
def sSeq (a b : XS) : XS := fun c s h => match a c s h with
  | .nx s' h' => b c s' h'
  | r => r
def sExpr (a : XE) : XS := fun c s h => sOf s (a c s h) fun _ h1 => .nx s h1
def sRet (a : XE) : XS := fun c s h => sOf s (a c s h) fun v h1 => .rt v h1
def sIf (t : XT) (a b : XS) : XS := fun c s h => sOf s (t c s h) fun x h1 => match x with
  | true => a c s h1
  | false => b c s h1
def sAsg (a : XE) (g : XG) : XS := fun c s h => sOf s (a c s h) fun v h1 => sOf s (g c v s h1) fun s' h2 => .nx s' h2
/-- name op= e -/
def sAug (i : Nat) (o : BO) (a : XE) : XS := fun c s h => match s[i]? with
  | some (some (.int x)) => sOf s (a c s h) fun v h1 => match v with
    | .int y => (match o with
      | .add => .nx (s.set i (some (.int (x + y)))) h1
      | .sub => .nx (s.set i (some (.int (x - y)))) h1
      | .mul => cnd (lt64 x) (.nx (s.set i (some (.int (x * y)))) h1) (cnd (lt64 y) (.nx (s.set i (some (.int (x * y)))) h1) .bad)
      | _ => .bad)
    | _ => .bad
  | _ => .bad
/-- o[i] = e of a list, in place -/
def sSetI (o i a : XE) : XS := fun c s h => sOf s (a c s h) fun v h1 => sOf s (o c s h1) fun x h2 => sOf s (i c s h2) fun y h3 => match x with
  | .ref r => match y with
    | .int k => match h3.get r with
      | some (.lst xs) => match ixN xs.length k with
        | some j => cnd (h3.free r) (.nx s (h3.set r (.lst (xs.set j v)))) .bad
        | none => .bad
      | _ => .bad
    | .tup ks => match h3.get r with
      | some (.dic kvs) => cnd (isTKey (.tup ks)) (cnd (fits kvs) (cnd (h3.free r) (.nx s (h3.set r (.dic (dput (.tup ks) v kvs)))) .bad) .bad) .bad
      | _ => .bad
    | _ => .bad
  | _ => .bad
/-- o.f = e of a slot -/
def sSlot (tab : List (Nat × Nat)) (o a : XE) : XS := fun c s h => sOf s (a c s h) fun v h1 => sOf s (o c s h1) fun x h2 => match x with
  | .ref r => match h2.get r with
    | some (.ins k fs) => match lookC k tab with
      | some i => cnd (Nat.blt i fs.length) (cnd (h2.free r) (.nx s (h2.set r (.ins k (fs.set i (some v))))) .bad) .bad
      | none => .bad
    | _ => .bad
  | _ => .bad
def loopS (f : PV → Env → Mem → SR) : List PV → Env → Mem → SR
  | [], s, h => .nx s h
  | x :: xs, s, h => match f x s h with
    | .nx s' h' => loopS f xs s' h'
    | .ct s' h' => loopS f xs s' h'
    | .bk s' h' => .bk s' h'
    | r => r
/-- a loop's end -/
def endS (ls : List Nat) (r : SR) : SR := match r with
  | .nx s h => .nx s (h.unlock ls)
  | .bk s h => .nx s (h.unlock ls)
  | .rt v h => .rt v (h.unlock ls)
  | .er x s h => .er x s (h.unlock ls)
  | _ => .bad
def sFor (i : XI) (g : XG) (b : XS) : XS := fun c s h => sOf s (i c s h) fun p h1 =>
  endS p.2 (loopS (fun x s h => sOf s (g c x s h) fun s' h' => b c s' h') p.1 s (h1.lock p.2))
def sBad : XS := fun _ _ _ => .bad

/-! ### defs and calls -/
structure Fd where
  np : Nat
  ns : Nat
  body : XS
def runFd (d : Fd) (c : Calls) (args : List PV) (h : Mem) : Res PV := cnd (Nat.beq args.length d.np)
  (match d.body c (args.map some ++ List.replicate (d.ns - args.length) none) h with
  | .nx _ h' => .ok .non h'
  | .rt v h' => .ok v h'
  | .er x _ h' => .err x h'
  | _ => .bad) .bad
def nthF : List Fd → Nat → Option Fd
  | [], _ => none
  | d :: r, n => match n with
    | 0 => some d
    | k + 1 => nthF r k
def callD (tab : List Fd) : Nat → Calls
  | 0 => fun _ _ _ => .bad
  | k + 1 => fun f args h => match nthF tab f with
    | some d => runFd d (callD tab k) args h
    | none => .bad
end Ev
end

section
set_option Elab.async false
set_option linter.all false
set_option maxRecDepth 100000
/-! Ev: how the evaluator's values and memory stand in the abstract heap. -/
namespace Ev
open PySem L2

/-- where the memory's objects stand: the object, and its own dict (an instance's; else the object again) -/
structure Mp where
  a : Nat → Addr
  d : Nat → Addr
def Mp.ext (m : Mp) (n : Nat) (p q : Addr) : Mp := ⟨fun i => if i = n then p else m.a i, fun i => if i = n then q else m.d i⟩
@[simp] theorem Mp.ext_a (m : Mp) (n : Nat) (p q : Addr) : (m.ext n p q).a n = p := if_pos rfl
@[simp] theorem Mp.ext_d (m : Mp) (n : Nat) (p q : Addr) : (m.ext n p q).d n = q := if_pos rfl
theorem Mp.ext_a_ne {m : Mp} {n i : Nat} {p q : Addr} (h : i ≠ n) : (m.ext n p q).a i = m.a i := if_neg h
theorem Mp.ext_d_ne {m : Mp} {n i : Nat} {p q : Addr} (h : i ≠ n) : (m.ext n p q).d i = m.d i := if_neg h

mutual
inductive RP (m : Mp) (z : Nat) (H : Hp) : PV → V → Prop
  | non : RP m z H .non .non
  | bl (b : Bool) : RP m z H (.bl b) (.bl b)
  | int (i : Int) : RP m z H (.int i) (.int i)
  | str (x : Str) : RP m z H (.str x) (.str x)
  | ref {n : Nat} : n < z → RP m z H (.ref n) (.ref (m.a n))
  | tup {xs : List PV} {a : Addr} {vs : List V} : H a = some (.tup vs) → RPs m z H xs vs → RP m z H (.tup xs) (.ref a)
inductive RPs (m : Mp) (z : Nat) (H : Hp) : List PV → List V → Prop
  | nil : RPs m z H [] []
  | cons {x : PV} {v : V} {xs : List PV} {vs : List V} : RP m z H x v → RPs m z H xs vs → RPs m z H (x :: xs) (v :: vs)
end

/-- the heap has changed at our own objects alone -/
structure Le (h : Mem) (m : Mp) (H : Hp) (h' : Mem) (m' : Mp) (H' : Hp) : Prop where
  le : h.size ≤ h'.size
  lk : h'.locks = h.locks
  ld : h'.dl = h.dl
  lkd : ∀ n, n ∈ h.locks → h'.get n = h.get n
  lkh : ∀ n, n ∈ h.locks → n < h.size → H' (m.a n) = H (m.a n)
  keep : ∀ n, n < h.size → m'.a n = m.a n ∧ m'.d n = m.d n
  frame : ∀ a o, H a = some o → (∀ n, n < h.size → a ≠ m.a n ∧ a ≠ m.d n) → (∀ ps, o ≠ .tbl ps) → H' a = some o
  tbls : ∀ a ps, H a = some (.tbl ps) → (∀ n, n < h.size → a ≠ m.a n ∧ a ≠ m.d n) → ∃ ps', H' a = some (.tbl ps')
  tups : ∀ a vs, H a = some (.tup vs) → H' a = some (.tup vs)
  new : ∀ n, h.size ≤ n → n < h'.size → H (m'.a n) = none ∧ H (m'.d n) = none
  old : ∀ n, n < h.size → H' (m.a n) ≠ none ∧ H' (m.d n) ≠ none
theorem Le.trans {z z1 z2 : Mem} {m m1 m2 : Mp} {H H1 H2 : Hp} (a : Le z m H z1 m1 H1) (b : Le z1 m1 H1 z2 m2 H2) : Le z m H z2 m2 H2 where
  le := Nat.le_trans a.le b.le
  lk := b.lk.trans a.lk
  ld := b.ld.trans a.ld
  lkd := fun n hn => (b.lkd n (by rw [a.lk]; exact hn)).trans (a.lkd n hn)
  lkh := fun n hn hl => by
    have h1 := b.lkh n (by rw [a.lk]; exact hn) (Nat.lt_of_lt_of_le hl a.le)
    rw [(a.keep n hl).1] at h1
    exact h1.trans (a.lkh n hn hl)
  keep := fun n h => by
    have h1 := a.keep n h
    have h2 := b.keep n (Nat.lt_of_lt_of_le h a.le)
    exact ⟨h2.1.trans h1.1, h2.2.trans h1.2⟩
  frame := fun p o e k nt => b.frame p o (a.frame p o e k nt) (fun n hn => by
    by_cases q : n < z.size
    · rw [(a.keep n q).1, (a.keep n q).2]; exact k n q
    · have := a.new n (by omega) hn
      refine ⟨fun w => ?_, fun w => ?_⟩
      · rw [← w, e] at this; exact nomatch this.1
      · rw [← w, e] at this; exact nomatch this.2) nt
  tbls := fun p ps e k => by
    obtain ⟨ps1, e1⟩ := a.tbls p ps e k
    exact b.tbls p ps1 e1 fun n hn => by
      by_cases q : n < z.size
      · rw [(a.keep n q).1, (a.keep n q).2]; exact k n q
      · have := a.new n (by omega) hn
        refine ⟨fun w => ?_, fun w => ?_⟩
        · rw [← w, e] at this; exact nomatch this.1
        · rw [← w, e] at this; exact nomatch this.2
  tups := fun p vs e => b.tups p vs (a.tups p vs e)
  new := fun n h1 h2 => by
    by_cases q : n < z1.size
    · rw [(b.keep n q).1, (b.keep n q).2]; exact a.new n h1 q
    · have nn := b.new n (by omega) h2
      have key : ∀ p, H1 p = none → H p = none := fun p hp => by
        cases e : H p with
        | none => rfl
        | some o =>
          exfalso
          by_cases k : ∀ n, n < z.size → p ≠ m.a n ∧ p ≠ m.d n
          · by_cases nt : ∃ ps, o = .tbl ps
            · obtain ⟨ps, rfl⟩ := nt
              obtain ⟨ps', e'⟩ := a.tbls p ps e k
              rw [e'] at hp; cases hp
            · rw [a.frame p o e k fun ps z => nt ⟨ps, z⟩] at hp; cases hp
          · apply k
            intro j hj
            exact ⟨fun w => (a.old j hj).1 (by rw [← w]; exact hp), fun w => (a.old j hj).2 (by rw [← w]; exact hp)⟩
      exact ⟨key _ nn.1, key _ nn.2⟩
  old := fun n h => by
    have := b.old n (Nat.lt_of_lt_of_le h a.le)
    rw [(a.keep n h).1, (a.keep n h).2] at this
    exact this

/-- what values and objects lean on -/
structure Lw (z : Nat) (m : Mp) (H : Hp) (z' : Nat) (m' : Mp) (H' : Hp) : Prop where
  le : z ≤ z'
  keep : ∀ n, n < z → m'.a n = m.a n ∧ m'.d n = m.d n
  tups : ∀ a vs, H a = some (.tup vs) → H' a = some (.tup vs)
theorem Le.lw {h h' : Mem} {m m' : Mp} {H H' : Hp} (l : Le h m H h' m' H') : Lw h.size m H h'.size m' H' := ⟨l.le, l.keep, l.tups⟩
mutual
theorem RP.weak {z z' : Nat} {m m' : Mp} {H H' : Hp} (l : Lw z m H z' m' H') : ∀ {x : PV} {v : V}, RP m z H x v → RP m' z' H' x v
  | _, _, .non => .non
  | _, _, .bl b => .bl b
  | _, _, .int i => .int i
  | _, _, .str x => .str x
  | _, _, .ref (n := n) h => by
    rw [← (l.keep n h).1]
    exact .ref (Nat.lt_of_lt_of_le h l.le)
  | _, _, .tup e r => .tup (l.tups _ _ e) (RPs.weak l r)
theorem RPs.weak {z z' : Nat} {m m' : Mp} {H H' : Hp} (l : Lw z m H z' m' H') : ∀ {xs : List PV} {vs : List V}, RPs m z H xs vs → RPs m' z' H' xs vs
  | _, _, .nil => .nil
  | _, _, .cons r s => .cons (RP.weak l r) (RPs.weak l s)
end
theorem RP.mono {z z' : Mem} {m m' : Mp} {H H' : Hp} (l : Le z m H z' m' H') {x : PV} {v : V} (r : RP m z.size H x v) : RP m' z'.size H' x v := r.weak l.lw
theorem RPs.mono {z z' : Mem} {m m' : Mp} {H H' : Hp} (l : Le z m H z' m' H') {x : List PV} {v : List V} (r : RPs m z.size H x v) : RPs m' z'.size H' x v := r.weak l.lw
section
variable {m : Mp} {z : Nat} {H : Hp}
theorem RPs.length : ∀ {xs : List PV} {vs : List V}, RPs m z H xs vs → vs.length = xs.length
  | _, _, .nil => rfl
  | _, _, .cons _ s => congrArg (· + 1) (RPs.length s)
theorem RPs.append : ∀ {xs ys : List PV} {vs ws : List V}, RPs m z H xs vs → RPs m z H ys ws → RPs m z H (xs ++ ys) (vs ++ ws)
  | _, _, _, _, .nil, r => r
  | _, _, _, _, .cons a b, r => .cons a (RPs.append b r)
theorem RPs.get : ∀ {xs : List PV} {vs : List V} {i : Nat} {x : PV}, RPs m z H xs vs → xs[i]? = some x → ∃ v, vs[i]? = some v ∧ RP m z H x v
  | _, _, _, _, .nil, e => by simp at e
  | _, _, 0, _, .cons r _, e => by simp at e; subst e; exact ⟨_, rfl, r⟩
  | _, _, i + 1, x, .cons _ t, e => by
    obtain ⟨u, h1, h2⟩ := RPs.get (i := i) (x := x) t (by simpa using e)
    exact ⟨u, by simpa using h1, h2⟩
theorem RPs.get' : ∀ {xs : List PV} {vs : List V} {i : Nat} {v : V}, RPs m z H xs vs → vs[i]? = some v → ∃ x, xs[i]? = some x ∧ RP m z H x v
  | _, _, _, _, .nil, e => by simp at e
  | _, _, 0, _, .cons r _, e => by simp at e; subst e; exact ⟨_, rfl, r⟩
  | _, _, i + 1, x, .cons _ t, e => by
    obtain ⟨u, h1, h2⟩ := RPs.get' (i := i) (v := x) t (by simpa using e)
    exact ⟨u, by simpa using h1, h2⟩
theorem RPs.set {x : PV} {v : V} (r : RP m z H x v) : ∀ {xs : List PV} {vs : List V} (i : Nat), RPs m z H xs vs → RPs m z H (xs.set i x) (vs.set i v)
  | _, _, _, .nil => .nil
  | _, _, 0, .cons _ t => .cons r t
  | _, _, i + 1, .cons q t => .cons q (RPs.set r i t)
theorem RPs.drop : ∀ {xs : List PV} {vs : List V} (n : Nat), RPs m z H xs vs → RPs m z H (xs.drop n) (vs.drop n)
  | _, _, 0, r => r
  | _, _, _ + 1, .nil => .nil
  | _, _, n + 1, .cons _ t => RPs.drop n t
theorem RPs.take : ∀ {xs : List PV} {vs : List V} (n : Nat), RPs m z H xs vs → RPs m z H (xs.take n) (vs.take n)
  | _, _, 0, _ => .nil
  | _, _, _ + 1, .nil => .nil
  | _, _, n + 1, .cons r t => .cons r (RPs.take n t)
theorem RPs.one {x : PV} {vs : List V} (r : RPs m z H [x] vs) : ∃ v, vs = [v] ∧ RP m z H x v := by
  cases r with
  | cons a b => cases b; exact ⟨_, rfl, a⟩
theorem RPs.two {x y : PV} {vs : List V} (r : RPs m z H [x, y] vs) : ∃ v w, vs = [v, w] ∧ RP m z H x v ∧ RP m z H y w := by
  cases r with
  | cons a b =>
    obtain ⟨w, rfl, c⟩ := b.one
    exact ⟨_, _, rfl, a, c⟩
theorem RP.int_inv {i : Int} {v : V} (r : RP m z H (.int i) v) : v = .int i := by cases r; rfl
theorem RP.bl_inv {i : Bool} {v : V} (r : RP m z H (.bl i) v) : v = .bl i := by cases r; rfl
theorem RP.str_inv {i : Str} {v : V} (r : RP m z H (.str i) v) : v = .str i := by cases r; rfl
theorem RP.non_inv {v : V} (r : RP m z H .non v) : v = .non := by cases r; rfl
theorem RP.ref_inv {n : Nat} {v : V} (r : RP m z H (.ref n) v) : v = .ref (m.a n) ∧ n < z := by cases r; exact ⟨rfl, by assumption⟩
theorem RP.tup_inv {xs : List PV} {v : V} (r : RP m z H (.tup xs) v) : ∃ a vs, v = .ref a ∧ H a = some (.tup vs) ∧ RPs m z H xs vs := by
  cases r with
  | tup h r => exact ⟨_, _, rfl, h, r⟩
end

/-- the slots of an instance -/
def RSl (m : Mp) (z : Nat) (H : Hp) (fs : List (Option PV)) (vs : List (Option V)) : Prop := ∀ (i : Nat) (x : PV), fs[i]? = some (some x) → ∃ v, vs[i]? = some (some v) ∧ RP m z H x v
theorem RSl.weak {z z' : Nat} {m m' : Mp} {H H' : Hp} (l : Lw z m H z' m' H') {fs : List (Option PV)} {vs : List (Option V)} (r : RSl m z H fs vs) : RSl m' z' H' fs vs := fun i x e => by
  obtain ⟨v, e, r⟩ := r i x e
  exact ⟨v, e, r.weak l⟩
/-! ### dicts: their keys are tuples -/
mutual
/-- hash(k) of a key without texts -/
def hk : NestedKey → Int
  | .none => reduceHash 0xFCA86420
  | .num i => hashInt i
  | .text _ => 0
  | .tup ks => reduceHash (Builtin.Tuple.tupleHashOf (hks ks))
def hks : List NestedKey → List Int
  | [] => []
  | k :: ks => hk k :: hks ks
end
def enN (x : NestedKey × Addr × Value) : DictEntry := ⟨hk x.1, .ref x.2.1, x.2.2⟩
/-- o is a dict with these keys (at these addresses) and values -/
def DxF (o : Obj) (ws : List (NestedKey × Addr × V)) : Prop := ws.length ≤ sizeLine ∧ ∃ (es : Array DictEntry) (ep : Nat) (xs : List (NestedKey × Addr × Value)), o.ExactDict ∧ o.data = .dict es ep ∧ es.toList = xs.map enN ∧
  Paired (fun (p : NestedKey × Addr × V) (q : NestedKey × Addr × Value) => p.1 = q.1 ∧ p.2.1 = q.2.1 ∧ RelV p.2.2 q.2.2) ws xs ∧ (xs.map (·.1)).Nodup
/-- a dict stands at d -/
def DxO (d : Addr) (o : Obj) (ws : List (NestedKey × Addr × V)) : HO := .ext fun h => h.get? d = some o ∧ (d == sysModules) = false ∧ DxF o ws
inductive RKv (m : Mp) (z : Nat) (H : Hp) : List (PV × PV) → List (NestedKey × Addr × V) → Prop
  | nil : RKv m z H [] []
  | cons {k x : PV} {K : NestedKey} {b : Addr} {v : V} {kvs : List (PV × PV)} {ws : List (NestedKey × Addr × V)} : keyN k = some K → RP m z H k (.ref b) → RP m z H x v → RKv m z H kvs ws → RKv m z H ((k, x) :: kvs) ((K, b, v) :: ws)
theorem RKv.weak {z z' : Nat} {m m' : Mp} {H H' : Hp} (l : Lw z m H z' m' H') : ∀ {kvs : List (PV × PV)} {ws : List (NestedKey × Addr × V)}, RKv m z H kvs ws → RKv m' z' H' kvs ws
  | _, _, .nil => .nil
  | _, _, .cons e q r t => .cons e (q.weak l) (r.weak l) (RKv.weak l t)
theorem RKv.length {m : Mp} {z : Nat} {H : Hp} : ∀ {kvs : List (PV × PV)} {ws : List (NestedKey × Addr × V)}, RKv m z H kvs ws → ws.length = kvs.length
  | _, _, .nil => rfl
  | _, _, .cons _ _ _ t => congrArg (· + 1) (RKv.length t)

/-- an object of the memory; C: where the classes stand; b: it is locked -/
def OR (K : PySem.W.Frag) (C : Nat → Addr) (m : Mp) (z : Nat) (H : Hp) (n : Nat) (b : Bool) : Ob → Prop
  | .lst xs => m.d n = m.a n ∧ ∃ vs, H (m.a n) = some (.lst vs) ∧ RPs m z H xs vs
  | .scr xs => m.d n = m.a n ∧ H (m.a n) ≠ none ∧ ∃ vs, SqL K H (m.a n) vs ∧ (∀ us, H (m.a n) ≠ some (.tup us)) ∧ RPs m z H xs vs
  | .dic kvs => m.d n = m.a n ∧ ∃ o ws, H (m.a n) = some (DxO (m.a n) o ws) ∧ RKv m z H kvs ws
  | .ins c fs => m.d n ≠ m.a n ∧ (H (m.d n) ≠ none ∧ ∀ us, H (m.d n) ≠ some (.tup us)) ∧ ∃ vs, SlX.Slt H (m.a n) (C c) (m.d n) vs ∧ RSl m z H fs vs

def isLam (ls : List (Nat × Nat)) (pos : Pos) : Bool := ls.any fun p => Nat.beq p.1 pos.line && Nat.beq p.2 pos.col
/-- tables and code objects -/
def Fx (o : HO) : Prop := (∃ ps, o = .tbl ps) ∨ ∃ oc u, o = .frz oc u
/-- the tables stand, apart from the memory's objects -/
def TbOk (tb : List Tb) (m : Mp) (z : Nat) (H : Hp) : Prop := ∀ p ∈ tb, (∀ n, n < z → p.at_ ≠ m.a n ∧ p.at_ ≠ m.d n) ∧ ∃ ps : Array Value, H p.at_ = some (.tbl ps) ∧ TriplesOk ps.toList ∧
  ∀ (pos : Pos) (cv : Value), isLam p.ls pos = true → codeAmong pos ps.toList = some cv → ∃ (c : Addr) (oc : Obj) (vs : Array Value) (t : Tok), cv = .ref c ∧ H c = some (.frz oc (.own 0)) ∧ oc.data = .fields vs ∧ vs[1]? = some (.str p.q t) ∧ ∀ n, n < z → c ≠ m.a n ∧ c ≠ m.d n
theorem TbOk.gen {tb : List Tb} {m m' : Mp} {z z' : Nat} {H H' : Hp} (t : TbOk tb m z H) (k : ∀ a o, H a = some o → Fx o → (∀ n, n < z → a ≠ m.a n ∧ a ≠ m.d n) → H' a = some o)
    (s : ∀ a o, H a = some o → Fx o → (∀ n, n < z → a ≠ m.a n ∧ a ≠ m.d n) → ∀ n, n < z' → a ≠ m'.a n ∧ a ≠ m'.d n) : TbOk tb m' z' H' := fun p hp => by
  obtain ⟨h1, ps, h2, h3, h4⟩ := t p hp
  refine ⟨s _ _ h2 (.inl ⟨_, rfl⟩) h1, ps, k _ _ h2 (.inl ⟨_, rfl⟩) h1, h3, fun pos cv hq hc => ?_⟩
  obtain ⟨c, oc, vs, tk, e1, e2, e3, e4, e5⟩ := h4 pos cv hq hc
  exact ⟨c, oc, vs, tk, e1, k _ _ e2 (.inr ⟨_, _, rfl⟩) e5, e3, e4, s _ _ e2 (.inr ⟨_, _, rfl⟩) e5⟩
/-- a step as Le tells, the tables untouched -/
theorem TbOk.step {tb : List Tb} {m m' : Mp} {z z' : Nat} {H H' : Hp} (t : TbOk tb m z H) (keep : ∀ n, n < z → m'.a n = m.a n ∧ m'.d n = m.d n) (new : ∀ n, z ≤ n → n < z' → H (m'.a n) = none ∧ H (m'.d n) = none)
    (k : ∀ a o, H a = some o → (∀ n, n < z → a ≠ m.a n ∧ a ≠ m.d n) → H' a = some o) : TbOk tb m' z' H' :=
  t.gen (fun a o e _ q => k a o e q) fun a o e _ q n hn => by
    by_cases c : n < z
    · rw [(keep n c).1, (keep n c).2]; exact q n c
    · have := new n (by omega) hn
      refine ⟨fun w => ?_, fun w => ?_⟩
      · rw [← w, e] at this; exact nomatch this.1
      · rw [← w, e] at this; exact nomatch this.2
/-- an object that stood apart is taken -/
theorem TbOk.adopt {tb : List Tb} {m : Mp} {z : Nat} {H : Hp} {a : Addr} {u : HO} (t : TbOk tb m z H) (e : H a = some u) (nf : ¬ Fx u) : TbOk tb (m.ext z a a) (z + 1) H :=
  t.gen (fun _ _ e _ _ => e) fun b o eb f q n hn => by
    by_cases c : n = z
    · subst c
      rw [Mp.ext_a, Mp.ext_d]
      have : b ≠ a := fun w => by
        rw [w, e] at eb
        exact nf (by cases eb; exact f)
      exact ⟨this, this⟩
    · rw [Mp.ext_a_ne c, Mp.ext_d_ne c]
      exact q n (by omega)
/-- an object that stands apart is changed -/
theorem TbOk.aside {tb : List Tb} {m : Mp} {z : Nat} {H : Hp} {a : Addr} {u v : HO} (t : TbOk tb m z H) (e : H a = some u) (nf : ¬ Fx u) : TbOk tb m z (upd H a v) :=
  t.gen (fun b o eb f _ => by
    rw [upd_ne fun w => by
      rw [w, e] at eb
      exact nf (by cases eb; exact f)]
    exact eb) fun _ _ _ _ q => q
theorem nfx_lst {xs : List V} : ¬ Fx (.lst xs) := fun z => by
  rcases z with ⟨_, z⟩ | ⟨_, _, z⟩ <;> cases z
theorem nfx_ext {φ : Heap → Prop} : ¬ Fx (.ext φ) := fun z => by
  rcases z with ⟨_, z⟩ | ⟨_, _, z⟩ <;> cases z
theorem nt_lst {xs : List V} : ∀ ps, HO.lst xs ≠ .tbl ps := fun _ z => by cases z
theorem nt_ext {φ : Heap → Prop} : ∀ ps, HO.ext φ ≠ .tbl ps := fun _ z => by cases z
structure RH (K : PySem.W.Frag) (C : CT) (m : Mp) (h : Mem) (H : Hp) : Prop where
  all : ∀ n, n < h.size → ∃ o, h.get n = some o
  obj : ∀ n o, h.get n = some o → OR K C.c m h.size H n (memb n h.dl) o
  inj : ∀ i j, i < h.size → j < h.size → i ≠ j → m.a i ≠ m.a j ∧ m.a i ≠ m.d j ∧ m.d i ≠ m.a j ∧ m.d i ≠ m.d j
  lok : ∀ n ∈ h.locks, n < h.size
  lod : ∀ n ∈ h.dl, n < h.size
  tab : TbOk C.tb m h.size H

section
variable {K : PySem.W.Frag} {C : Nat → Addr} {m m' : Mp} {z z' : Mem} {H H' : Hp} {n : Nat} {b : Bool} {o : Ob} {h h' : Mem}
theorem SqL.congr {a : Addr} {vs : List V} (e : H' a = H a) (q : SqL K H a vs) : SqL K H' a vs := by
  unfold SqL Rd at q ⊢
  rw [e]
  exact q
theorem Slt.congr {a c d : Addr} {vs : List (Option V)} (e1 : H' a = H a) (e2 : H' d = H d) (q : SlX.Slt H a c d vs) : SlX.Slt H' a c d vs := by
  unfold SlX.Slt at q ⊢
  rw [e1, e2]
  exact q
/-- an object stays as it is -/
theorem OR.weak {z z' : Nat} (l : Lw z m H z' m' H') (hn : n < z) (e1 : H' (m.a n) = H (m.a n)) (e2 : H' (m.d n) = H (m.d n)) (q : OR K C m z H n b o) : OR K C m' z' H' n b o := by
  have k := l.keep n hn
  cases o with
  | lst xs =>
    obtain ⟨d, vs, e, r⟩ := q
    exact ⟨by rw [k.1, k.2]; exact d, vs, by rw [k.1, e1]; exact e, r.weak l⟩
  | scr xs =>
    obtain ⟨d, nn, vs, e, nt, r⟩ := q
    refine ⟨by rw [k.1, k.2]; exact d, by rw [k.1, e1]; exact nn, vs, ?_, by rw [k.1, e1]; exact nt, r.weak l⟩
    rw [k.1]
    exact SqL.congr e1 e
  | dic kvs =>
    obtain ⟨d, o, ws, e, r⟩ := q
    exact ⟨by rw [k.1, k.2]; exact d, o, ws, by rw [k.1, e1]; exact e, r.weak l⟩
  | ins c fs =>
    obtain ⟨d, nn, vs, e, r⟩ := q
    refine ⟨by rw [k.1, k.2]; exact d, by rw [k.2, e2]; exact nn, vs, ?_, r.weak l⟩
    rw [k.1, k.2]
    exact Slt.congr e1 e2 e
theorem OR.mono (l : Le z m H z' m' H') (hn : n < z.size) (e1 : H' (m.a n) = H (m.a n)) (e2 : H' (m.d n) = H (m.d n)) (q : OR K C m z.size H n b o) : OR K C m' z'.size H' n b o := q.weak l.lw hn e1 e2
theorem OR.live (q : OR K C m z.size H n b o) : H (m.a n) ≠ none ∧ H (m.d n) ≠ none ∧ (∀ us, H (m.a n) ≠ some (.tup us)) := by
  cases o with
  | lst xs =>
    obtain ⟨d, vs, e, r⟩ := q
    rw [d, e]
    exact ⟨fun z => (nomatch z), fun z => (nomatch z), fun _ z => (nomatch z)⟩
  | scr xs =>
    obtain ⟨d, nn, vs, e, nt, r⟩ := q
    rw [d]
    exact ⟨nn, nn, nt⟩
  | dic kvs =>
    obtain ⟨d, o, ws, e, r⟩ := q
    rw [d, e]
    exact ⟨fun z => (nomatch z), fun z => (nomatch z), fun _ z => by unfold DxO at z; cases z⟩
  | ins c fs =>
    obtain ⟨d, nn, vs, e, r⟩ := q
    refine ⟨?_, nn.1, ?_⟩
    · rcases e with ⟨e, _⟩ | ⟨e, _⟩ <;> rw [e] <;> exact fun z => nomatch z
    · rcases e with ⟨e, _⟩ | ⟨e, _⟩ <;> rw [e] <;> intro us z
      · exact nomatch z
      · unfold SlX.SlO at z; cases z
end
section
variable {K : PySem.W.Frag} {C : CT} {m m' : Mp} {z z' : Mem} {H H' : Hp} {n : Nat} {b : Bool} {o : Ob} {h h' : Mem}
theorem RH.live (r : RH K C m h H) (hn : n < h.size) : H (m.a n) ≠ none ∧ H (m.d n) ≠ none ∧ (∀ us, H (m.a n) ≠ some (.tup us)) := by
  obtain ⟨o, e⟩ := r.all n hn
  exact (r.obj n o e).live
theorem RH.refl (r : RH K C m h H) : Le h m H h m H :=
  ⟨Nat.le_refl _, rfl, rfl, fun _ _ => rfl, fun _ _ _ => rfl, fun _ _ => ⟨rfl, rfl⟩, fun _ _ e _ _ => e, fun _ _ e _ => ⟨_, e⟩, fun _ _ e => e, fun n h1 h2 => absurd h2 (by omega), fun n hn => ⟨(r.live hn).1, (r.live hn).2.1⟩⟩
theorem RH.le_re (r : RH K C m h H) : Le h m H h.re m H :=
  ⟨Nat.le_refl _, rfl, rfl, fun n _ => Mem.get_re h n, fun _ _ _ => rfl, fun _ _ => ⟨rfl, rfl⟩, fun _ _ e _ _ => e, fun _ _ e _ => ⟨_, e⟩, fun _ _ e => e, fun n h1 h2 => absurd h2 (by show ¬ n < h.size; omega), fun n hn => ⟨(r.live hn).1, (r.live hn).2.1⟩⟩
theorem RH.re (r : RH K C m h H) : RH K C m h.re H where
  all := fun n hn => by rw [Mem.get_re]; exact r.all n hn
  obj := fun n o e => by rw [Mem.get_re] at e; exact r.obj n o e
  inj := r.inj
  lok := r.lok
  lod := r.lod
  tab := r.tab
theorem RH.fresh (r : RH K C m h H) {p : Addr} (hp : H p = none) (hn : n < h.size) : m.a n ≠ p ∧ m.d n ≠ p :=
  ⟨fun e => (r.live hn).1 (by rw [e]; exact hp), fun e => (r.live hn).2.1 (by rw [e]; exact hp)⟩
/-- a new object that the memory does not know -/
theorem RH.tmp (r : RH K C m h H) {p : Addr} {u : HO} (hp : H p = none) : Le h m H h m (upd H p u) ∧ RH K C m h (upd H p u) := by
  have l : Le h m H h m (upd H p u) := by
    refine ⟨Nat.le_refl _, rfl, rfl, fun _ _ => rfl, fun n _ hn => upd_ne (r.fresh hp hn).1, fun _ _ => ⟨rfl, rfl⟩, fun a o e _ _ => ?_, fun a ps e _ => ⟨ps, ?_⟩, fun a vs e => ?_, fun n h1 h2 => absurd h2 (by omega), fun n hn => ?_⟩
    · rw [upd_ne (ne_of_none e hp)]; exact e
    · rw [upd_ne (ne_of_none e hp)]; exact e
    · rw [upd_ne (ne_of_none e hp)]; exact e
    · rw [upd_ne (r.fresh hp hn).1, upd_ne (r.fresh hp hn).2]
      exact ⟨(r.live hn).1, (r.live hn).2.1⟩
  refine ⟨l, r.all, fun n o e => ?_, r.inj, r.lok, r.lod, r.tab.step (fun _ _ => ⟨rfl, rfl⟩) (fun n h1 h2 => absurd h2 (by omega)) fun a o e _ => by rw [upd_ne (ne_of_none e hp)]; exact e⟩
  have hn := Mem.get_lt e
  exact (r.obj n o e).mono l hn (upd_ne (r.fresh hp hn).1) (upd_ne (r.fresh hp hn).2)
theorem memb_push {h : Mem} {o : Ob} (n : Nat) : memb n (h.push o).dl = memb n h.dl := rfl
/-- a new object, laid at p (its dict at q) -/
theorem RH.new (r : RH K C m h H) {p q : Addr} (hp : H p = none) (hq : H q = none) (H' : Hp) (k : ∀ a, a ≠ p → a ≠ q → H' a = H a)
    (new : ∀ l : Le h m H (h.push o) (m.ext h.size p q) H', OR K C.c (m.ext h.size p q) (h.size + 1) H' h.size (memb h.size h.dl) o) (hpq : H' p ≠ none ∧ H' q ≠ none) :
    Le h m H (h.push o) (m.ext h.size p q) H' ∧ RH K C (m.ext h.size p q) (h.push o) H' := by
  have ka : ∀ a x, H a = some x → H' a = some x := fun a x e => by
    rw [k a (ne_of_none e hp) (ne_of_none e hq)]; exact e
  have hh : ∀ n, n < h.size → H' (m.a n) = H (m.a n) ∧ H' (m.d n) = H (m.d n) := fun n hn =>
    ⟨k _ (r.fresh hp hn).1 (r.fresh hq hn).1, k _ (r.fresh hp hn).2 (r.fresh hq hn).2⟩
  have l : Le h m H (h.push o) (m.ext h.size p q) H' := by
    refine ⟨Nat.le_succ _, rfl, rfl, fun n hn => Mem.get_push_old _ (r.lok n hn), fun n _ hn => (hh n hn).1, fun n hn => ⟨Mp.ext_a_ne (by omega), Mp.ext_d_ne (by omega)⟩, fun a x e _ _ => ka a x e, fun a ps e _ => ⟨ps, ka a _ e⟩, fun a vs e => ka a _ e, fun n h1 h2 => ?_, fun n hn => ?_⟩
    · have : n = h.size := by rw [Mem.size_push] at h2; omega
      subst this
      rw [Mp.ext_a, Mp.ext_d]
      exact ⟨hp, hq⟩
    · rw [(hh n hn).1, (hh n hn).2]
      exact ⟨(r.live hn).1, (r.live hn).2.1⟩
  refine ⟨l, fun n hn => ?_, fun n u e => ?_, fun i j hi hj ne => ?_, fun n hn => Nat.lt_succ_of_lt (r.lok n hn), fun n hn => Nat.lt_succ_of_lt (r.lod n hn), r.tab.step l.keep l.new fun a x e _ => ka a x e⟩
  · by_cases e : n = h.size
    · subst e; exact ⟨_, h.get_push_new _⟩
    · obtain ⟨u, eu⟩ := r.all n (by simp at hn; omega)
      exact ⟨u, Mem.get_push eu⟩
  · by_cases en : n = h.size
    · subst en
      rw [Mem.get_push_new] at e
      cases e
      exact new l
    · have hn : n < h.size := by
        have := Mem.get_lt e
        simp at this; omega
      rw [Mem.get_push_old _ hn] at e
      exact (r.obj n u e).mono l hn (hh n hn).1 (hh n hn).2
  · simp only [Mem.size_push] at hi hj
    by_cases ei : i = h.size
    · subst ei
      have hj' : j < h.size := by omega
      rw [Mp.ext_a, Mp.ext_d, Mp.ext_a_ne ne.symm, Mp.ext_d_ne ne.symm]
      exact ⟨(r.fresh hp hj').1.symm, (r.fresh hp hj').2.symm, (r.fresh hq hj').1.symm, (r.fresh hq hj').2.symm⟩
    · by_cases ej : j = h.size
      · subst ej
        have hi' : i < h.size := by omega
        rw [Mp.ext_a, Mp.ext_d, Mp.ext_a_ne ne, Mp.ext_d_ne ne]
        exact ⟨(r.fresh hp hi').1, (r.fresh hq hi').1, (r.fresh hp hi').2, (r.fresh hq hi').2⟩
      · rw [Mp.ext_a_ne ei, Mp.ext_d_ne ei, Mp.ext_a_ne ej, Mp.ext_d_ne ej]
        exact r.inj i j (by omega) (by omega) ne
/-- a new list -/
theorem RH.newL (r : RH K C m h H) {p : Addr} (hp : H p = none) {xs : List PV} {vs : List V} (rs : RPs m h.size H xs vs) :
    Le h m H (h.push (.lst xs)) (m.ext h.size p p) (upd H p (.lst vs)) ∧ RH K C (m.ext h.size p p) (h.push (.lst xs)) (upd H p (.lst vs)) :=
  r.new hp hp _ (fun a ha _ => upd_ne ha) (fun l => ⟨by rw [Mp.ext_a, Mp.ext_d], vs, by rw [Mp.ext_a]; exact upd_same, rs.mono l⟩) (by rw [upd_same]; exact ⟨fun z => (nomatch z), fun z => (nomatch z)⟩)
/-- an object is changed -/
theorem RH.put (r : RH K C m h H) {i : Nat} {u : Ob} (hi : i < h.size) (hfr : i ∉ h.locks) (H' : Hp) (k : ∀ a, a ≠ m.a i → a ≠ m.d i → H' a = H a) (tp : ∀ a vs, H a = some (.tup vs) → H' a = some (.tup vs))
    (hne : H' (m.a i) ≠ none ∧ H' (m.d i) ≠ none) (new : ∀ l : Le h m H (h.set i u) m H', OR K C.c m h.size H' i (memb i h.dl) u) : Le h m H (h.set i u) m H' ∧ RH K C m (h.set i u) H' := by
  have l : Le h m H (h.set i u) m H' := by
    refine ⟨Nat.le_refl _, rfl, rfl, fun n hn => Mem.get_set_ne _ (fun z => hfr (by rw [← z]; exact hn)), fun n hn hl => by
      have q := r.inj n i hl hi (fun z => hfr (by rw [← z]; exact hn))
      exact k _ q.1 q.2.1, fun _ _ => ⟨rfl, rfl⟩, fun a o e hn _ => ?_, fun a ps e hn => ⟨ps, ?_⟩, tp, fun n h1 h2 => absurd h2 (by rw [Mem.size_set]; omega), fun n hn => ?_⟩
    · rw [k a (hn i hi).1 (hn i hi).2]; exact e
    · rw [k a (hn i hi).1 (hn i hi).2]; exact e
    · by_cases e : n = i
      · subst e; exact hne
      · have q := r.inj n i hn hi e
        rw [k _ q.1 q.2.1, k _ q.2.2.1 q.2.2.2]
        exact ⟨(r.live hn).1, (r.live hn).2.1⟩
  refine ⟨l, fun n hn => ?_, fun n o e => ?_, r.inj, r.lok, r.lod, r.tab.step (fun _ _ => ⟨rfl, rfl⟩) (fun n h1 h2 => absurd h2 (by rw [Mem.size_set]; omega)) fun a o e hn => by rw [k a (hn i hi).1 (hn i hi).2]; exact e⟩
  · by_cases e : n = i
    · subst e; exact ⟨_, Mem.get_set_same _ hi⟩
    · obtain ⟨o, eo⟩ := r.all n hn
      exact ⟨o, by rw [Mem.get_set_ne _ e]; exact eo⟩
  · by_cases en : n = i
    · subst en
      rw [Mem.get_set_same _ hi] at e
      cases e
      exact new l
    · rw [Mem.get_set_ne _ en] at e
      have hn := Mem.get_lt e
      have q := r.inj n i hn hi en
      exact (r.obj n o e).mono l hn (k _ q.1 q.2.1) (k _ q.2.2.1 q.2.2.2)
theorem RH.putL (r : RH K C m h H) {i : Nat} {xs ys : List PV} {ws : List V} (e : h.get i = some (.lst xs)) (hfr : i ∉ h.locks) (rs : RPs m h.size H ys ws) :
    Le h m H (h.set i (.lst ys)) m (upd H (m.a i) (.lst ws)) ∧ RH K C m (h.set i (.lst ys)) (upd H (m.a i) (.lst ws)) := by
  have hi := Mem.get_lt e
  obtain ⟨d, vs, ev, _⟩ := r.obj i _ e
  refine r.put hi hfr _ (fun a ha _ => upd_ne ha) (fun a us ea => ?_) ?_ fun l => ⟨d, ws, upd_same, rs.mono l⟩
  · rw [upd_ne (fun z => by rw [z, ev] at ea; cases ea)]; exact ea
  · rw [d, upd_same]; exact ⟨fun z => (nomatch z), fun z => (nomatch z)⟩
/-- what is read as a list -/
theorem RH.sqL (r : RH K C m h H) {i : Nat} {xs : List PV} (e : h.get i = some (.lst xs) ∨ h.get i = some (.scr xs)) : ∃ vs, SqL K H (m.a i) vs ∧ RPs m h.size H xs vs := by
  rcases e with e | e
  · obtain ⟨_, vs, ev, rs⟩ := r.obj i _ e
    exact ⟨vs, SqL.of ev, rs⟩
  · obtain ⟨_, _, vs, ev, _, rs⟩ := r.obj i _ e
    exact ⟨vs, ev, rs⟩
end

/-! ### slots of a frame -/
structure RE (m : Mp) (z : Nat) (H : Hp) (s : Env) (σ : L2.St) : Prop where
  len : σ.length = s.length
  at_ : ∀ (i : Nat) (x : PV), s[i]? = some (some x) → ∃ v, σ[i]? = some (some v) ∧ RP m z H x v
section
variable {m m' : Mp} {z : Nat} {H H' : Hp} {s : Env} {σ : L2.St}
theorem RE.mono {y y' : Mem} (l : Le y m H y' m' H') (r : RE m y.size H s σ) : RE m' y'.size H' s σ := ⟨r.len, fun i x e => by
  obtain ⟨v, e, q⟩ := r.at_ i x e
  exact ⟨v, e, q.mono l⟩⟩
theorem RE.set (r : RE m z H s σ) (i : Nat) {x : PV} {v : V} (q : RP m z H x v) : RE m z H (s.set i (some x)) (σ.set i (some v)) := by
  refine ⟨by rw [List.length_set, List.length_set]; exact r.len, fun j y e => ?_⟩
  by_cases h : i = j
  · subst h
    by_cases hl : i < s.length
    · rw [List.getElem?_set_self hl] at e
      cases e
      exact ⟨v, List.getElem?_set_self (by rw [r.len]; exact hl), q⟩
    · rw [List.getElem?_eq_none (by rw [List.length_set]; omega)] at e; cases e
  · rw [List.getElem?_set_ne h] at e ⊢
    exact r.at_ j y e
/-- a comprehension's own slots forgotten -/
def wipeE (s : Env) : List Nat → Env
  | [] => s
  | v :: vs => (wipeE s vs).set v none
theorem RE.wipe (r : RE m z H s σ) : ∀ vs : List Nat, RE m z H (wipeE s vs) (wipe σ vs)
  | [] => r
  | i :: vs => by
    have ih := RE.wipe r vs
    unfold wipeE L2.wipe
    refine ⟨by rw [List.length_set, List.length_set]; exact ih.len, fun j y e => ?_⟩
    by_cases h : i = j
    · subst h
      by_cases hl : i < (wipeE s vs).length
      · rw [List.getElem?_set_self hl] at e; cases e
      · rw [List.getElem?_eq_none (by rw [List.length_set]; omega)] at e; cases e
    · rw [List.getElem?_set_ne h] at e ⊢
      exact ih.at_ j y e
theorem RPs.map_some {xs : List PV} {vs : List V} (r : RPs m z H xs vs) {i : Nat} {x : PV} (e : (xs.map some)[i]? = some (some x)) : ∃ v, (vs.map some)[i]? = some (some v) ∧ RP m z H x v := by
  rw [List.getElem?_map] at e
  cases q : xs[i]? with
  | none => rw [q] at e; cases e
  | some y =>
    rw [q] at e
    have : y = x := Option.some.inj (Option.some.inj e)
    subst this
    obtain ⟨v, ev, rv⟩ := r.get q
    exact ⟨v, by rw [List.getElem?_map, ev]; rfl, rv⟩
end
end Ev
end

section
set_option Elab.async false
set_option linter.all false
set_option maxRecDepth 100000
/-! Ev: dicts with tuples as keys, over the heap. -/
namespace Ev
open PySem PySem.Spec PyProof.Rows L2

/-! ### keys -/
section
variable {w : World}
theorem keyG_cons {f : PV → Option NestedKey} {x : PV} {xs : List PV} {ks : List NestedKey} (e : keyG f (x :: xs) = some ks) : ∃ k r, f x = some k ∧ keyG f xs = some r ∧ ks = k :: r := by
  unfold keyG at e
  cases e1 : f x with
  | none => rw [e1] at e; cases e
  | some k =>
    cases e2 : keyG f xs with
    | none => rw [e1, e2] at e; cases e
    | some r => rw [e1, e2] at e; cases e; exact ⟨k, r, rfl, rfl, rfl⟩
theorem keyE_tup {n : Nat} {xs : List PV} {K : NestedKey} (e : keyE (n + 1) (.tup xs) = some K) : ∃ ks, keyG (keyE n) xs = some ks ∧ K = .tup ks := by
  have e : (match keyG (keyE n) xs with
      | some ks => some (NestedKey.tup ks)
      | none => none) = some K := e
  cases e1 : keyG (keyE n) xs with
  | none => rw [e1] at e; cases e
  | some ks => rw [e1] at e; cases e; exact ⟨ks, rfl, rfl⟩
theorem hks_eq {n : Nat} (ih : ∀ x K, keyE n x = some K → K.hash w = hk K) : ∀ (xs : List PV) (ks : List NestedKey), keyG (keyE n) xs = some ks → NestedKey.hashes w ks = hks ks
  | [], _, e => by cases e; rfl
  | x :: xs, ks, e => by
    obtain ⟨k, r, e1, e2, rfl⟩ := keyG_cons e
    simp only [NestedKey.hashes, hks]
    rw [ih x k e1, hks_eq ih xs r e2]
theorem hk_eq : ∀ (n : Nat) (x : PV) (K : NestedKey), keyE n x = some K → K.hash w = hk K
  | 0, _, _, e => by cases e
  | n + 1, x, K, e => by
    cases x with
    | non => cases e; rfl
    | int i => cases e; rfl
    | tup xs =>
      obtain ⟨ks, e1, rfl⟩ := keyE_tup e
      simp only [NestedKey.hash, hk]
      rw [hks_eq (hk_eq n) xs ks e1]
    | bl b => cases e
    | str b => cases e
    | ref b => cases e
theorem deps {n : Nat} (ih : ∀ x K, keyE n x = some K → K.depth ≤ n) : ∀ (xs : List PV) (ks : List NestedKey), keyG (keyE n) xs = some ks → NestedKey.depthAll ks ≤ n
  | [], _, e => by cases e; exact Nat.zero_le _
  | x :: xs, ks, e => by
    obtain ⟨k, r, e1, e2, rfl⟩ := keyG_cons e
    simp only [NestedKey.depthAll]
    have h1 := ih x k e1
    have h2 := deps ih xs r e2
    omega
theorem depth_le : ∀ (n : Nat) (x : PV) (K : NestedKey), keyE n x = some K → K.depth ≤ n
  | 0, _, _, e => by cases e
  | n + 1, x, K, e => by
    cases x with
    | non => cases e; exact Nat.zero_le _
    | int i => cases e; exact Nat.zero_le _
    | tup xs =>
      obtain ⟨ks, e1, rfl⟩ := keyE_tup e
      simp only [NestedKey.depth]
      have := deps (depth_le n) xs ks e1
      omega
    | bl b => cases e
    | str b => cases e
    | ref b => cases e
theorem hashGs {n : Nat} (ih : ∀ x K, keyE n x = some K → hashF n x = some (hk K)) : ∀ (xs : List PV) (ks : List NestedKey), keyG (keyE n) xs = some ks → hashG (hashF n) xs = some (hks ks)
  | [], _, e => by cases e; rfl
  | x :: xs, ks, e => by
    obtain ⟨k, r, e1, e2, rfl⟩ := keyG_cons e
    unfold hashG
    rw [ih x k e1, hashGs ih xs r e2]
    rfl
theorem hashF_eq : ∀ (n : Nat) (x : PV) (K : NestedKey), keyE n x = some K → hashF n x = some (hk K)
  | 0, _, _, e => by cases e
  | n + 1, x, K, e => by
    cases x with
    | non => cases e; rfl
    | int i => cases e; rfl
    | tup xs =>
      obtain ⟨ks, e1, rfl⟩ := keyE_tup e
      have q := hashGs (hashF_eq n) xs ks e1
      show (match hashG (hashF n) xs with
        | some hs => some (reduceHash (Builtin.Tuple.tupleHashOf hs))
        | none => none) = some (hk (.tup ks))
      rw [q]
      rfl
    | bl b => cases e
    | str b => cases e
    | ref b => cases e
theorem kEqs {n : Nat} (ih : ∀ x y K L, keyE n x = some K → keyE n y = some L → kEq n x y = decide (K = L)) : ∀ (xs ys : List PV) (ks ls : List NestedKey), keyG (keyE n) xs = some ks → keyG (keyE n) ys = some ls → kEqL (kEq n) xs ys = decide (ks = ls)
  | [], [], _, _, e, f => by cases e; cases f; rfl
  | [], y :: ys, ks, ls, e, f => by
    obtain ⟨k, r, e1, e2, rfl⟩ := keyG_cons f
    cases e
    rfl
  | x :: xs, [], ks, ls, e, f => by
    obtain ⟨k, r, e1, e2, rfl⟩ := keyG_cons e
    cases f
    rfl
  | x :: xs, y :: ys, ks, ls, e, f => by
    obtain ⟨k, r, e1, e2, rfl⟩ := keyG_cons e
    obtain ⟨l, t, f1, f2, rfl⟩ := keyG_cons f
    have q := kEqs ih xs ys r t e2 f2
    unfold kEqL
    rw [ih x y k l e1 f1]
    by_cases h : k = l
    · simp [h, q]
    · simp [h]
theorem kEq_iff : ∀ (n : Nat) (x y : PV) (K L : NestedKey), keyE n x = some K → keyE n y = some L → kEq n x y = decide (K = L)
  | 0, _, _, _, _, e, _ => by cases e
  | n + 1, x, y, K, L, e, f => by
    cases x with
    | non =>
      cases e
      cases y with
      | non => cases f; rfl
      | int i => cases f; rfl
      | tup ys => obtain ⟨ks, e1, rfl⟩ := keyE_tup f; rfl
      | bl b => cases f
      | str b => cases f
      | ref b => cases f
    | int i =>
      cases e
      cases y with
      | non => cases f; rfl
      | int j =>
        cases f
        show ieq i j = _
        rw [ieq_eq]
        by_cases h : i = j
        · simp [h]
        · simp [h]
      | tup ys => obtain ⟨ks, e1, rfl⟩ := keyE_tup f; rfl
      | bl b => cases f
      | str b => cases f
      | ref b => cases f
    | tup xs =>
      obtain ⟨ks, e1, rfl⟩ := keyE_tup e
      cases y with
      | non => cases f; rfl
      | int j => cases f; rfl
      | tup ys =>
        obtain ⟨ls, f1, rfl⟩ := keyE_tup f
        show kEqL (kEq n) xs ys = _
        rw [kEqs (kEq_iff n) xs ys ks ls e1 f1]
        by_cases h : ks = ls
        · simp [h]
        · simp [h]
      | bl b => cases f
      | str b => cases f
      | ref b => cases f
    | bl b => cases e
    | str b => cases e
    | ref b => cases e
theorem keyN_E {x : PV} {K : NestedKey} (e : keyN x = some K) : keyE 8 x = some K := by
  cases x <;> first | exact e | (cases e; done)
theorem tkeyEq_iff {x y : PV} {K L : NestedKey} (e : keyN x = some K) (f : keyN y = some L) : tkeyEq x y = decide (K = L) := kEq_iff 8 x y K L (keyN_E e) (keyN_E f)
theorem isTKey_ok {x : PV} (h : isTKey x = true) : ∃ K, keyN x = some K := by
  unfold isTKey at h
  cases e : keyN x with
  | none => rw [e] at h; cases h
  | some K => exact ⟨K, rfl⟩
theorem hash_key {x : PV} {K : NestedKey} (e : keyN x = some K) : K.hash w = hk K := hk_eq 8 x K (keyN_E e)
end

/-- a key as it stands in the heap -/
theorem nested_all {P : Program} {w : World} {H : Hp} {h : Heap} {m : Mp} {z n : Nat} (ok : HOk P w H h)
    (ih : ∀ (x : PV) (K : NestedKey) (v : V) (u : Value), keyE n x = some K → RP m z H x v → RelV v u → NestedIs h K u) :
    ∀ (xs : List PV) (ks : List NestedKey) (vs : List V) (us : List Value), keyG (keyE n) xs = some ks → RPs m z H xs vs → Vals vs us → NestedAll h ks us
  | [], _, _, _, e, .nil, r => by cases e; cases r; exact .nil
  | x :: xs, ks, v :: vs, us, e, .cons a b, r => by
    obtain ⟨k, t, e1, e2, rfl⟩ := keyG_cons e
    cases r with
    | cons r1 r2 => exact .cons (ih x k v _ e1 a r1) (nested_all ok ih xs t vs _ e2 b r2)
theorem nested_of {P : Program} {w : World} {H : Hp} {h : Heap} {m : Mp} {z : Nat} (ok : HOk P w H h) :
    ∀ (n : Nat) (x : PV) (K : NestedKey) (v : V) (u : Value), keyE n x = some K → RP m z H x v → RelV v u → NestedIs h K u
  | 0, _, _, _, _, e, _, _ => by cases e
  | n + 1, x, K, v, u, e, r, ru => by
    cases x with
    | non =>
      cases e
      rw [r.non_inv] at ru
      obtain rfl : u = Value.none := ru
      exact .none
    | int i =>
      cases e
      rw [r.int_inv] at ru
      obtain ⟨t, rfl⟩ := ru
      exact .int i t
    | tup xs =>
      obtain ⟨ks, e1, rfl⟩ := keyE_tup e
      obtain ⟨a, vs, rfl, ea, rs⟩ := r.tup_inv
      obtain rfl : u = Value.ref a := ru
      obtain ⟨_, its, rv, ob, ho, hc, hd⟩ := (show ObjOk P w H h a (.tup vs) from ok _ _ ea)
      obtain ⟨k, hd⟩ := hd
      exact NestedIs.tup (vs := its.toArray) ho hc hd (by simpa using nested_all ok (nested_of ok n) xs ks vs its e1 rs rv)
    | bl b => cases e
    | str b => cases e
    | ref b => cases e
theorem key_is {P : Program} {w : World} {H : Hp} {h : Heap} {m : Mp} {z : Nat} (ok : HOk P w H h) {x : PV} {K : NestedKey} {b : Addr} (e : keyN x = some K) (r : RP m z H x (.ref b)) : (nestedKind P w).is h K b :=
  ⟨nested_of ok 8 x K _ _ (keyN_E e) r rfl, depth_le 8 x K (keyN_E e)⟩

/-! ### a dict's entries -/
abbrev Wx := List (NestedKey × Addr × V)
abbrev Xx := List (NestedKey × Addr × Value)
abbrev PWx (ws : Wx) (xs : Xx) : Prop := Paired (fun (p : NestedKey × Addr × V) (q : NestedKey × Addr × Value) => p.1 = q.1 ∧ p.2.1 = q.2.1 ∧ RelV p.2.2 q.2.2) ws xs
section
variable {m : Mp} {z : Nat} {H : Hp} {kvs : List (PV × PV)} {ws : Wx} {xs : Xx} {P : Program} {w : World} {h : Heap}
theorem rkv_is (ok : HOk P w H h) : ∀ {kvs : List (PV × PV)} {ws : Wx} {xs : Xx}, RKv m z H kvs ws → PWx ws xs → ∀ x ∈ xs, (nestedKind P w).is h x.1 x.2.1 ∧ x.1.hash w = hk x.1
  | _, _, _, .nil, .nil, x, hx => by cases hx
  | _, _, _, .cons e q r t, .cons pr pt, x, hx => by
    obtain ⟨p1, p2, p3⟩ := pr
    rcases List.mem_cons.mp hx with rfl | hx
    · rw [← p1, ← p2]
      exact ⟨key_is ok e q, hash_key e⟩
    · exact rkv_is ok t pt x hx
theorem en_map {w : World} {P : Program} : ∀ {xs : Xx}, (∀ x ∈ xs, x.1.hash w = hk x.1) → xs.map enN = xs.map (entryOfKey (nestedKind P w))
  | [], _ => rfl
  | x :: xs, h => by
    rw [List.map_cons, List.map_cons, en_map fun y hy => h y (List.mem_cons_of_mem _ hy)]
    have e : enN x = entryOfKey (nestedKind P w) x := by
      unfold enN entryOfKey
      rw [← h x (List.mem_cons_self ..)]
      rfl
    rw [e]
theorem dx_ok {P : Program} {w : World} {h : Heap} {a : Addr} {o : Obj} (ok : HOk P w H h) (e : H a = some (DxO a o ws)) (r : RKv m z H kvs ws) :
    h.get? a = some o ∧ (a == sysModules) = false ∧ ws.length ≤ sizeLine ∧ ∃ es ep xs, o.ExactDict ∧ o.data = .dict es ep ∧ es.toList = xs.map enN ∧ PWx ws xs ∧ h.DictOfH (nestedKind P w) a xs := by
  obtain ⟨⟨h1, h2, h3, es, ep, xs, d1, d2, d3, d4, d5⟩, _, _⟩ := (show ObjOk P w H h a (DxO a o ws) from ok _ _ e)
  have hi := rkv_is ok r d4
  exact ⟨h1, h2, h3, es, ep, xs, d1, d2, d3, d4, o, es, ep, h1, d1, d2, by rw [d3]; exact en_map fun x hx => (hi x hx).2, fun x hx => (hi x hx).1, d5⟩
theorem dxo_ok {P : Program} {w : World} {H : Hp} {h : Heap} {a : Addr} {o : Obj} {ws : Wx} (h1 : h.get? a = some o) (hd : (a == sysModules) = false) (f : DxF o ws) : ObjOk P w H h a (DxO a o ws) := by
  unfold DxO
  exact ⟨⟨h1, hd, f⟩, ⟨o, h1⟩, fun h1 h2 q k => ⟨k _ q.1, q.2⟩⟩
/-- and back -/
theorem dx_back {P : Program} {w : World} {h' : Heap} {a : Addr} (hd : (a == sysModules) = false) (hz : ws.length ≤ sizeLine) (p : PWx ws xs) (hh : ∀ x ∈ xs, x.1.hash w = hk x.1) (x : h'.DictOfH (nestedKind P w) a xs) :
    ∃ o, h'.get? a = some o ∧ ∀ H', ObjOk P w H' h' a (DxO a o ws) := by
  obtain ⟨o, es, ep, ho, hx, hdat, he, _, hn⟩ := x
  exact ⟨o, ho, fun _ => dxo_ok ho hd ⟨hz, es, ep, xs, hx, hdat, by rw [he]; exact (en_map hh).symm, p, hn⟩⟩
theorem look_ok {k : PV} {K : NestedKey} (e : keyN k = some K) : ∀ {kvs : List (PV × PV)} {ws : Wx} {xs : Xx}, RKv m z H kvs ws → PWx ws xs →
    (dlook k kvs = none ∧ atKey xs K = none) ∨ ∃ x v b u, dlook k kvs = some x ∧ atKey xs K = some (b, u) ∧ RP m z H x v ∧ RelV v u
  | _, _, _, .nil, .nil => .inl ⟨rfl, rfl⟩
  | (j, x) :: kvs, (J, b, v) :: ws, (J', b', u) :: xs, .cons ej q r t, .cons ⟨p1, p2, p3⟩ pt => by
    obtain rfl : J = J' := p1
    unfold dlook
    rw [tkeyEq_iff ej e]
    by_cases hh : J = K
    · subst hh
      simp only [decide_true]
      exact .inr ⟨x, v, b', u, rfl, by simp [atKey], r, p3⟩
    · simp only [decide_eq_false hh]
      have ea : atKey ((J, b', u) :: xs) K = atKey xs K := by simp [atKey, List.find?_cons, hh]
      rw [ea]
      exact look_ok e t pt
def putX (K : NestedKey) (b : Addr) (u : Value) : Xx → Xx
  | [] => [(K, b, u)]
  | (j, c, y) :: r => if j = K then (j, c, u) :: r else (j, c, y) :: putX K b u r
def putW (K : NestedKey) (b : Addr) (u : V) : Wx → Wx
  | [] => [(K, b, u)]
  | (j, c, y) :: r => if j = K then (j, c, u) :: r else (j, c, y) :: putW K b u r
theorem atKey_none {K : NestedKey} : ∀ {xs : Xx}, (∀ x ∈ xs, x.1 ≠ K) → atKey xs K = none
  | [], _ => rfl
  | x :: xs, h => by
    have h1 := h x (List.mem_cons_self ..)
    have ih := atKey_none (xs := xs) fun y hy => h y (List.mem_cons_of_mem _ hy)
    simpa [atKey, List.find?_cons, h1] using ih
theorem putAt_same {K : NestedKey} {u : Value} : ∀ {xs : Xx}, (∀ x ∈ xs, x.1 ≠ K) → xs.map (putAt K u) = xs
  | [], _ => rfl
  | x :: xs, h => by
    have h1 := h x (List.mem_cons_self ..)
    rw [List.map_cons, putAt_same fun y hy => h y (List.mem_cons_of_mem _ hy)]
    unfold putAt
    rw [if_neg h1]
theorem stored_eq {K : NestedKey} {b : Addr} {u : Value} : ∀ {xs : Xx}, (xs.map (·.1)).Nodup → storedH xs K b u = putX K b u xs
  | [], _ => by simp [storedH, atKey, putX]
  | (j, c, y) :: r, hn => by
    rw [List.map_cons, List.nodup_cons] at hn
    have ih := stored_eq (K := K) (b := b) (u := u) hn.2
    unfold putX
    by_cases h : j = K
    · subst h
      rw [if_pos rfl]
      have hno : ∀ x ∈ r, x.1 ≠ j := fun x hx e => hn.1 (List.mem_map.mpr ⟨x, hx, e⟩)
      have ea : (atKey ((j, c, y) :: r) j).isSome = true := by simp [atKey]
      unfold storedH
      rw [if_pos ea, List.map_cons, putAt_same hno]
      unfold putAt
      rw [if_pos rfl]
    · rw [if_neg h, ← ih]
      have ea : atKey ((j, c, y) :: r) K = atKey r K := by simp [atKey, List.find?_cons, h]
      unfold storedH
      rw [ea]
      by_cases q : (atKey r K).isSome = true
      · rw [if_pos q, if_pos q, List.map_cons]
        unfold putAt
        rw [if_neg h]
      · rw [if_neg q, if_neg q]
        rfl
theorem put_rel {k x : PV} {K : NestedKey} {b : Addr} {v : V} {u : Value} (e : keyN k = some K) (rk : RP m z H k (.ref b)) (rx : RP m z H x v) (rv : RelV v u) : ∀ {kvs : List (PV × PV)} {ws : Wx} {xs : Xx}, RKv m z H kvs ws → PWx ws xs →
    RKv m z H (dput k x kvs) (putW K b v ws) ∧ PWx (putW K b v ws) (putX K b u xs)
  | _, _, _, .nil, .nil => ⟨.cons e rk rx .nil, .cons ⟨rfl, rfl, rv⟩ .nil⟩
  | (j, y) :: kvs, (J, c, t) :: ws, (J', c', s) :: xs, .cons ej q r rest, .cons ⟨p1, p2, p3⟩ pt => by
    obtain rfl : J = J' := p1
    obtain rfl : c = c' := p2
    unfold dput putW putX
    rw [tkeyEq_iff ej e]
    by_cases hh : J = K
    · rw [if_pos hh, if_pos hh, decide_eq_true hh]
      exact ⟨.cons ej q rx rest, .cons ⟨rfl, rfl, rv⟩ pt⟩
    · rw [if_neg hh, if_neg hh, decide_eq_false hh]
      obtain ⟨a1, a2⟩ := put_rel e rk rx rv rest pt
      exact ⟨.cons ej q r a1, .cons ⟨rfl, rfl, p3⟩ a2⟩
theorem dput_len (k x : PV) : ∀ kvs : List (PV × PV), (dput k x kvs).length ≤ kvs.length + 1
  | [] => Nat.le_refl _
  | (j, y) :: r => by
    unfold dput
    cases tkeyEq j k
    · simp only [List.length_cons]
      have := dput_len k x r
      omega
    · simp only [List.length_cons]
      omega
theorem putX_key {K : NestedKey} {b : Addr} {u : Value} : ∀ {xs : Xx} {j : NestedKey}, j ∈ (putX K b u xs).map (·.1) → j = K ∨ j ∈ xs.map (·.1)
  | [], j, h => by
    have : j = K := by simpa [putX] using h
    exact .inl this
  | (i, c, y) :: r, j, h => by
    unfold putX at h
    split at h
    · rw [List.map_cons] at h
      exact .inr (by rw [List.map_cons]; exact h)
    · rw [List.map_cons] at h
      rw [List.map_cons]
      rcases List.mem_cons.mp h with e | h
      · exact .inr (List.mem_cons.mpr (.inl e))
      · rcases putX_key h with e | e
        · exact .inl e
        · exact .inr (List.mem_cons_of_mem _ e)
theorem hash_putX {w : World} {K : NestedKey} {b : Addr} {u : Value} (hK : K.hash w = hk K) : ∀ {l : Xx}, (∀ y ∈ l, y.1.hash w = hk y.1) → ∀ y ∈ putX K b u l, y.1.hash w = hk y.1
  | [], _, y, hy => by
    have : y = (K, b, u) := by simpa [putX] using hy
    subst this
    exact hK
  | (j, c, t) :: l, hc, y, hy => by
    unfold putX at hy
    split at hy
    · rcases List.mem_cons.mp hy with rfl | hy
      · exact hc (j, c, t) (List.mem_cons_self ..)
      · exact hc y (List.mem_cons_of_mem _ hy)
    · rcases List.mem_cons.mp hy with rfl | hy
      · exact hc (j, c, t) (List.mem_cons_self ..)
      · exact hash_putX hK (fun z hz => hc z (List.mem_cons_of_mem _ hz)) y hy
theorem nodup_putX {K : NestedKey} {b : Addr} {u : Value} : ∀ {xs : Xx}, (xs.map (·.1)).Nodup → ((putX K b u xs).map (·.1)).Nodup
  | [], _ => by simp [putX]
  | (i, c, y) :: r, h => by
    rw [List.map_cons, List.nodup_cons] at h
    unfold putX
    split
    · rw [List.map_cons, List.nodup_cons]
      exact h
    · rename_i ne
      rw [List.map_cons, List.nodup_cons]
      refine ⟨fun z => ?_, nodup_putX h.2⟩
      rcases putX_key z with e | e
      · exact ne e
      · exact h.1 e
theorem putW_len (K : NestedKey) (b : Addr) (u : V) : ∀ ws : Wx, (putW K b u ws).length ≤ ws.length + 1
  | [] => Nat.le_refl _
  | (j, c, y) :: r => by
    unfold putW
    split
    · simp only [List.length_cons]; omega
    · simp only [List.length_cons]
      have := putW_len K b u r
      omega
theorem puts_rel : ∀ {kvs : List (PV × PV)} {ws : Wx} {xs : Xx} {acc : List (PV × PV)} {aw : Wx} {ax : Xx}, RKv m z H kvs ws → PWx ws xs → RKv m z H acc aw → PWx aw ax → (ax.map (·.1)).Nodup →
    ∃ ws', RKv m z H (dputs acc kvs) ws' ∧ PWx ws' (storedAllH ax xs) ∧ ws'.length ≤ aw.length + ws.length
  | _, _, _, _, aw, _, .nil, .nil, r, p, _ => ⟨aw, r, p, Nat.le_refl _⟩
  | (k, x) :: kvs, (K, b, v) :: ws, (K', b', u) :: xs, acc, aw, ax, .cons e rk rx t, .cons ⟨p1, p2, p3⟩ pt, r, p, hn => by
    obtain rfl : K = K' := p1
    obtain rfl : b = b' := p2
    obtain ⟨a1, a2⟩ := put_rel e rk rx p3 r p
    obtain ⟨ws', h1, h2, h3⟩ := puts_rel t pt a1 a2 (nodup_putX hn)
    have hl := putW_len K b v aw
    refine ⟨ws', h1, ?_, by simp only [List.length_cons]; omega⟩
    have e2 : storedAllH ax ((K, b, u) :: xs) = storedAllH (storedH ax K b u) xs := rfl
    rw [e2, stored_eq hn]
    exact h2
theorem hashes_of : ∀ {kvs : List (PV × PV)} {ws : Wx} {xs : Xx}, RKv m z H kvs ws → PWx ws xs → hashesF kvs = some (xs.map fun x => hk x.1)
  | _, _, _, .nil, .nil => rfl
  | (k, x) :: kvs, (K, b, v) :: ws, (K', b', u) :: xs, .cons e rk rx t, .cons ⟨p1, p2, p3⟩ pt => by
    obtain rfl : K = K' := p1
    unfold hashesF
    rw [hashF_eq 8 k K (keyN_E e), hashes_of t pt]
    rfl
theorem inI_iff {i : Int} : ∀ {l : List Int}, inI i l = true ↔ i ∈ l
  | [] => by simp [inI]
  | j :: r => by
    unfold inI
    rw [ieq_eq]
    by_cases h : i = j
    · simp [h]
    · simp [h, inI_iff (l := r)]
theorem nodI_ok : ∀ {l : List Int}, nodI l = true → l.Nodup
  | [], _ => List.nodup_nil
  | i :: r, h => by
    unfold nodI at h
    cases e : inI i r with
    | true => rw [e] at h; cases h
    | false =>
      rw [e] at h
      rw [List.nodup_cons]
      exact ⟨fun z => (by rw [inI_iff.mpr z] at e; cases e), nodI_ok h⟩
end
end Ev
end

section
set_option Elab.async false
set_option linter.all false
set_option maxRecDepth 100000
/-! Ev: dicts in the memory: what each operation does. -/
namespace Ev
open PySem PySem.Spec PyProof.Rows L2

section
variable {K : PySem.W.Frag} {C : CT} {m : Mp} {h : Mem} {H : Hp}
theorem RKv.mono {z z' : Mem} {m m' : Mp} {H H' : Hp} (l : Le z m H z' m' H') {kvs : List (PV × PV)} {ws : Wx} (r : RKv m z.size H kvs ws) : RKv m' z'.size H' kvs ws := r.weak l.lw
theorem RH.newD (r : RH K C m h H) {p : Addr} (hp : H p = none) {kvs : List (PV × PV)} {ws : Wx} (o : Obj) (rs : RKv m h.size H kvs ws) :
    Le h m H (h.push (.dic kvs)) (m.ext h.size p p) (upd H p (DxO p o ws)) ∧ RH K C (m.ext h.size p p) (h.push (.dic kvs)) (upd H p (DxO p o ws)) :=
  r.new hp hp _ (fun a ha _ => upd_ne ha) (fun l => ⟨by rw [Mp.ext_a, Mp.ext_d], o, ws, by rw [Mp.ext_a]; exact upd_same, rs.mono l⟩) (by rw [upd_same]; exact ⟨fun z => (nomatch z), fun z => (nomatch z)⟩)
theorem RH.putD (r : RH K C m h H) {i : Nat} {kvs ls : List (PV × PV)} {ws : Wx} (e : h.get i = some (.dic kvs)) (hfr : i ∉ h.locks) (o : Obj) (rs : RKv m h.size H ls ws) :
    Le h m H (h.set i (.dic ls)) m (upd H (m.a i) (DxO (m.a i) o ws)) ∧ RH K C m (h.set i (.dic ls)) (upd H (m.a i) (DxO (m.a i) o ws)) := by
  have hi := Mem.get_lt e
  obtain ⟨d, o1, ws1, ev, _⟩ := r.obj i _ e
  refine r.put hi hfr _ (fun a ha _ => upd_ne ha) (fun a us ea => ?_) ?_ fun l => ⟨d, o, ws, upd_same, rs.mono l⟩
  · rw [upd_ne (fun z => by rw [z, ev] at ea; unfold DxO at ea; cases ea)]; exact ea
  · rw [d, upd_same]; exact ⟨fun z => (nomatch z), fun z => (nomatch z)⟩
end

section
variable {X : Cx} {C : CT} {pins : List (Addr × Obj)} {σ : L2.St} {H : Hp} {s : Shared} {h : Mem} {m : Mp} {i : Nat} {kvs : List (PV × PV)} {k x : PV} {b : Addr} {A : Around} {E : Value → Shared → Prop}
theorem nk_room (hu : A.units + 9 < cLine) : (nestedKind X.prog X.w).room A.in1 := by
  show A.in1.units + 8 < cLine
  have : A.in1.units = A.units + 1 := rfl
  omega
/-- what stands there -/
theorem dic_at (I : L2.Inv X pins σ H s) (rh : RH X.K C m h H) (e : h.get i = some (.dic kvs)) :
    ∃ o ws xs es ep, H (m.a i) = some (DxO (m.a i) o ws) ∧ RKv m h.size H kvs ws ∧ PWx ws xs ∧ s.heap.get? (m.a i) = some o ∧ o.ExactDict ∧ o.data = .dict es ep ∧ es.toList = xs.map enN ∧ ((m.a i) == sysModules) = false ∧ kvs.length ≤ sizeLine ∧
      s.heap.DictOfH (nestedKind X.prog X.w) (m.a i) xs ∧ ∀ x ∈ xs, x.1.hash X.w = hk x.1 := by
  obtain ⟨_, o, ws, e1, rk⟩ := rh.obj i _ e
  obtain ⟨h1, h2, h3, es, ep, xs, d1, d2, d3, d4, d5⟩ := dx_ok I.hok e1 rk
  exact ⟨o, ws, xs, es, ep, e1, rk, d4, h1, d1, d2, d3, h2, by rw [← rk.length]; exact h3, d5, fun x hx => (rkv_is (P := X.prog) (w := X.w) I.hok rk d4 x hx).2⟩
theorem key_ref (rk : RP m h.size H k v) (ek : keyN k = some NK) : ∃ b, v = .ref b := by
  cases k <;> first | (cases ek; done) | skip
  obtain ⟨a, vs, rfl, _, _⟩ := rk.tup_inv
  exact ⟨a, rfl⟩
theorem kd_getItem {NK : NestedKey} {Q : Value → Shared → Prop} (hu : A.units + 9 < cLine) (I : L2.Inv X pins σ H s) (rh : RH X.K C m h H) (e : h.get i = some (.dic kvs)) (rk : RP m h.size H k (.ref b)) (ek : keyN k = some NK)
    (lk : dlook k kvs = some x) (q : ∀ v w' s', RP m h.size H x v → L2.Inv X pins σ H s' → RelV v w' → Q w' s') : wpAny (model X.prog X.w) A (getItem (.ref (m.a i)) (.ref b)) Q E s := by
  obtain ⟨o, ws, xs, es, ep, e1, r, pw, _, _, _, _, hd, _, dd, _⟩ := dic_at I rh e
  rcases look_ok ek r pw with ⟨z, _⟩ | ⟨x', v, b', u, l1, l2, rx, rv⟩
  · rw [lk] at z; cases z
  · rw [lk] at l1; cases l1
    exact wpAny_getItem_heap (nk_room hu) (key_is I.hok ek rk) dd l2 (q v u _ rx (I.tok _) rv)
theorem kd_in {NK : NestedKey} {Q : Value → Shared → Prop} (hu : A.units + 9 < cLine) (I : L2.Inv X pins σ H s) (rh : RH X.K C m h H) (e : h.get i = some (.dic kvs)) (rk : RP m h.size H k (.ref b)) (ek : keyN k = some NK)
    (q : ∀ s', L2.Inv X pins σ H s' → Q (.bool (dlook k kvs).isSome) s') : wpAny (model X.prog X.w) A (compareOp .In (.ref b) (.ref (m.a i))) Q E s := by
  obtain ⟨o, ws, xs, es, ep, e1, r, pw, _, _, _, _, hd, _, dd, _⟩ := dic_at I rh e
  refine wpAny_in_heap (nk_room hu) (key_is I.hok ek rk) hd dd ?_
  have q' := q _ (I.tok (s.toks + (nestedKind X.prog X.w).draws NK))
  rcases look_ok ek r pw with ⟨z, z'⟩ | ⟨x', v, b', u, l1, l2, rx, rv⟩
  · rw [z] at q'; rw [z']; exact q'
  · rw [l1] at q'; rw [l2]; exact q'
theorem kd_notIn {NK : NestedKey} {Q : Value → Shared → Prop} (hu : A.units + 9 < cLine) (I : L2.Inv X pins σ H s) (rh : RH X.K C m h H) (e : h.get i = some (.dic kvs)) (rk : RP m h.size H k (.ref b)) (ek : keyN k = some NK)
    (q : ∀ s', L2.Inv X pins σ H s' → Q (.bool (!(dlook k kvs).isSome)) s') : wpAny (model X.prog X.w) A (compareOp .NotIn (.ref b) (.ref (m.a i))) Q E s := by
  obtain ⟨o, ws, xs, es, ep, e1, r, pw, _, _, _, _, hd, _, dd, _⟩ := dic_at I rh e
  refine wpAny_notIn_heap (nk_room hu) (key_is I.hok ek rk) hd dd ?_
  have q' := q _ (I.tok (s.toks + (nestedKind X.prog X.w).draws NK))
  rcases look_ok ek r pw with ⟨z, z'⟩ | ⟨x', v, b', u, l1, l2, rx, rv⟩
  · rw [z] at q'; rw [z']; exact q'
  · rw [l1] at q'; rw [l2]; exact q'
theorem kd_get {NK : NestedKey} {Q : Value → Shared → Prop} (hu : A.units + 9 < cLine) (I : L2.Inv X pins σ H s) (rh : RH X.K C m h H) (e : h.get i = some (.dic kvs)) (rk : RP m h.size H k (.ref b)) (ek : keyN k = some NK)
    (q : ∀ v w' s', RP m h.size H ((dlook k kvs).getD .non) v → L2.Inv X pins σ H s' → RelV v w' → Q w' s') : wpAny (model X.prog X.w) A (call (.builtin "dict.get") [.ref (m.a i), .ref b]) Q E s := by
  obtain ⟨o, ws, xs, es, ep, e1, r, pw, _, _, _, _, hd, _, dd, _⟩ := dic_at I rh e
  refine call_meetsIn PySem.F.slot_dict_get dd.typeIs PySem.F.entry_dict_get (PySem.F.args_dict_get_2 _ _) (meetsH_dict_get (nestedKind X.prog X.w) (m.a i) b hd) ⟨nk_room hu, NK, xs, key_is I.hok ek rk, dd, ?_⟩
  rcases look_ok ek r pw with ⟨z, z'⟩ | ⟨x', v, b', u, l1, l2, rx, rv⟩
  · rw [z']
    rw [z] at q
    exact q .non Value.none _ .non (I.tok _) rfl
  · rw [l2]
    rw [l1] at q
    exact q v u _ rx (I.tok _) rv
theorem kd_get2 {NK : NestedKey} {y : PV} {d : V} {du : Value} {Q : Value → Shared → Prop} (hu : A.units + 9 < cLine) (I : L2.Inv X pins σ H s) (rh : RH X.K C m h H) (e : h.get i = some (.dic kvs)) (rk : RP m h.size H k (.ref b)) (ek : keyN k = some NK) (ry : RP m h.size H y d) (rd : RelV d du)
    (q : ∀ v w' s', RP m h.size H ((dlook k kvs).getD y) v → L2.Inv X pins σ H s' → RelV v w' → Q w' s') : wpAny (model X.prog X.w) A (call (.builtin "dict.get") [.ref (m.a i), .ref b, du]) Q E s := by
  obtain ⟨o, ws, xs, es, ep, e1, r, pw, _, _, _, _, hd, _, dd, _⟩ := dic_at I rh e
  refine call_meetsIn PySem.F.slot_dict_get dd.typeIs PySem.F.entry_dict_get (PySem.F.args_dict_get_3 _ _ _) (meetsH_dict_get_default (nestedKind X.prog X.w) (m.a i) b hd du) ⟨nk_room hu, NK, xs, key_is I.hok ek rk, dd, ?_⟩
  rcases look_ok ek r pw with ⟨z, z'⟩ | ⟨x', v, b', u, l1, l2, rx, rv⟩
  · rw [z']
    rw [z] at q
    exact q d du _ ry (I.tok _) rd
  · rw [l2]
    rw [l1] at q
    exact q v u _ rx (I.tok _) rv
theorem kd_len {Q : Value → Shared → Prop} (I : L2.Inv X pins σ H s) (rh : RH X.K C m h H) (e : h.get i = some (.dic kvs)) (q : ∀ t s', L2.Inv X pins σ H s' → Q (.int (kvs.length : Nat) t) s') : wpAny (model X.prog X.w) A (call (.builtin "len") [.ref (m.a i)]) Q E s := by
  obtain ⟨o, ws, xs, es, ep, e1, r, pw, _, _, _, _, hd, z, dd, _⟩ := dic_at I rh e
  have hl : kvs.length = xs.length := by rw [← r.length]; exact Paired.length pw
  refine call_len_dictH hd dd (by rw [← hl]; rw [sizeLine_eq] at z; omega) ?_
  rw [← hl]
  exact q _ _ (I.tok _)
theorem kd_setItem {NK : NestedKey} {v : V} {vu : Value} {Q : Unit → Shared → Prop} (hu : A.units + 9 < cLine) (I : L2.Inv X pins σ H s) (rh : RH X.K C m h H) (e : h.get i = some (.dic kvs)) (hfr : i ∉ h.locks) (hz : kvs.length < sizeLine) (rk : RP m h.size H k (.ref b)) (ek : keyN k = some NK)
    (rx : RP m h.size H x v) (rv : RelV v vu) (q : ∀ s' H', L2.Inv X pins σ H' s' → Le h m H (h.set i (.dic (dput k x kvs))) m H' → RH X.K C m (h.set i (.dic (dput k x kvs))) H' → Q () s') :
    wpAny (model X.prog X.w) A (setItem (.ref (m.a i)) (.ref b) vu) Q E s := by
  obtain ⟨o, ws, xs, es, ep, e1, r, pw, _, _, _, _, hd, z, dd, hh⟩ := dic_at I rh e
  have hl : kvs.length = xs.length := by rw [← r.length]; exact Paired.length pw
  refine wpAny_setItem_heap (hsz := by rw [← hl]; exact z) (nk_room hu) (key_is I.hok ek rk) dd fun h' dd' hs => ?_
  rw [stored_eq dd.nodup] at dd'
  obtain ⟨r', pw'⟩ := put_rel ek rk rx rv r pw
  have hz' : (putW NK b v ws).length ≤ sizeLine := by
    have := putW_len NK b v ws
    have := r.length
    omega
  have hh' : ∀ y ∈ putX NK b vu xs, y.1.hash X.w = hk y.1 := by
    have key : ∀ l : Xx, (∀ y ∈ l, y.1.hash X.w = hk y.1) → ∀ y ∈ putX NK b vu l, y.1.hash X.w = hk y.1 := by
      intro l
      induction l with
      | nil =>
        intro _ y hy
        have : y = (NK, b, vu) := by simpa [putX] using hy
        subst this
        exact hash_key ek
      | cons c l ih =>
        intro hc y hy
        obtain ⟨j, c, t⟩ := c
        unfold putX at hy
        split at hy
        · rcases List.mem_cons.mp hy with rfl | hy
          · exact hc (j, c, t) (List.mem_cons_self ..)
          · exact hc y (List.mem_cons_of_mem _ hy)
        · rcases List.mem_cons.mp hy with rfl | hy
          · exact hc (j, c, t) (List.mem_cons_self ..)
          · exact ih (fun z hz => hc z (List.mem_cons_of_mem _ hz)) y hy
    exact key xs hh
  obtain ⟨o', ho', ok'⟩ := dx_back hd hz' pw' hh' dd'
  obtain ⟨l, rh'⟩ := rh.putD e hfr o' r'
  exact q _ _ (d_write I (by rw [e1]; exact True.intro) hs ⟨o', ho'⟩ (ok' _)) l rh'
theorem kd_clear {Q : Value → Shared → Prop} (I : L2.Inv X pins σ H s) (rh : RH X.K C m h H) (e : h.get i = some (.dic kvs)) (hfr : i ∉ h.locks) (q : ∀ s' H', L2.Inv X pins σ H' s' → Le h m H (h.set i (.dic [])) m H' → RH X.K C m (h.set i (.dic [])) H' → Q .none s') :
    wpAny (model X.prog X.w) A (call (.builtin "dict.clear") [.ref (m.a i)]) Q E s := by
  obtain ⟨o, ws, xs, es, ep, e1, r, pw, d0, d1, d2, d3, hd, z, dd, hh⟩ := dic_at I rh e
  have hl : kvs.length = xs.length := by rw [← r.length]; exact Paired.length pw
  have hes : es.size = xs.length := by rw [← Array.length_toList, d3, List.length_map]
  refine call_meetsIn PySem.F.slot_dict_clear dd.typeIs PySem.F.entry_dict_clear (PySem.F.args_dict_clear_1 _) (meets_dict_clear_raw (m.a i)) ⟨es, ep, ⟨o, d0, d1, d2⟩, by omega, fun h' hr' hs => ?_⟩
  obtain ⟨o', ho', hx', hdat'⟩ := hr'
  obtain ⟨l, rh'⟩ := rh.putD e hfr o' (ls := []) (ws := []) .nil
  exact q _ _ (d_write (t' := s.toks) I (by rw [e1]; exact True.intro) hs ⟨o', ho'⟩ (dxo_ok ho' hd ⟨Nat.zero_le _, #[], ep + 1, [], hx', hdat', rfl, .nil, List.nodup_nil⟩)) l rh'
/-- a new dict is laid -/
theorem kd_laid {h' : Heap} {tk : Nat} {ws : Wx} {xs : Xx} (I : L2.Inv X pins σ H s) (rh : RH X.K C m h H) (r : RKv m h.size H kvs ws) (pw : PWx ws xs) (hz : ws.length ≤ sizeLine) (hh : ∀ x ∈ xs, x.1.hash X.w = hk x.1)
    (dd : h'.DictOfH (nestedKind X.prog X.w) s.heap.objs.size xs) (k : ∀ b u, s.heap.get? b = some u → h'.get? b = some u) :
    ∃ H', L2.Inv X pins σ H' { s with heap := h', toks := tk } ∧ Le h m H (h.push (.dic kvs)) (m.ext h.size s.heap.objs.size s.heap.objs.size) H' ∧ RH X.K C (m.ext h.size s.heap.objs.size s.heap.objs.size) (h.push (.dic kvs)) H' := by
  have hm : (s.heap.objs.size == sysModules) = false := beq_eq_false_iff_ne.mpr (Nat.ne_of_gt I.big)
  obtain ⟨o', ho', ok'⟩ := dx_back hm hz pw hh dd
  obtain ⟨l, rh'⟩ := rh.newD (I.hok.fresh (Nat.le_refl _)) o' r
  exact ⟨_, I.laid (a := s.heap.objs.size) (t' := tk) k (Nat.le_refl _) (ok' _), l, rh'⟩
theorem kd_new {kx : List (Option Expr)} {Q : Value → Shared → Prop} {pos : Pos} {env : PySem.Env} (I : L2.Inv X pins σ H s) (rh : RH X.K C m h H)
    (q : ∀ s' H', L2.Inv X pins σ H' s' → Le h m H (h.push (.dic [])) (m.ext h.size s.heap.objs.size s.heap.objs.size) H' → RH X.K C (m.ext h.size s.heap.objs.size s.heap.objs.size) (h.push (.dic [])) H' → Q (.ref s.heap.objs.size) s') :
    wpAny (model X.prog X.w) A (eval (.Dict [] [] pos) env) Q E s := by
  refine wpAny_Dict_empty ?_
  obtain ⟨H', I', l, rh'⟩ := kd_laid (tk := s.toks) I rh (kvs := []) (ws := []) (xs := []) .nil .nil (Nat.zero_le _) (fun x hx => nomatch hx) (Heap.DictOfH.new s.heap) (fun _ _ q => Heap.get?_push_of_some _ q)
  exact q _ H' I' l rh'
theorem kd_copy {Q : Value → Shared → Prop} (hu : A.units + 10 < cLine) (I : L2.Inv X pins σ H s) (rh : RH X.K C m h H) (e : h.get i = some (.dic kvs)) (ha : apart kvs = true)
    (q : ∀ s' H', L2.Inv X pins σ H' s' → Le h m H (h.push (.dic kvs)) (m.ext h.size s.heap.objs.size s.heap.objs.size) H' → RH X.K C (m.ext h.size s.heap.objs.size s.heap.objs.size) (h.push (.dic kvs)) H' → Q (.ref s.heap.objs.size) s') :
    wpAny (model X.prog X.w) A (call (.type "dict") [.ref (m.a i)]) Q E s := by
  obtain ⟨o, ws, xs, es, ep, e1, r, pw, d0, d1, d2, d3, hd, z, dd, hh⟩ := dic_at I rh e
  have hl : kvs.length = xs.length := by rw [← r.length]; exact Paired.length pw
  have hap : (xs.map fun x => (nestedKind X.prog X.w).hash x.1).Nodup := by
    unfold apart at ha
    rw [hashes_of r pw] at ha
    have e2 : (xs.map fun x => (nestedKind X.prog X.w).hash x.1) = xs.map fun x => hk x.1 := List.map_congr_left fun x hx => hh x hx
    rw [e2]
    exact nodI_ok ha
  have hty : ∀ x ∈ xs, s.TypeIs (.ref x.2.1) "tuple" := fun x hx => by
    obtain ⟨_, _, _, _, _, _, _, his, _⟩ := id dd
    obtain ⟨y, _⟩ := his x hx
    generalize x.1 = kk at y
    cases y with
    | tup h1 h2 _ _ => exact ⟨_, h1, h2⟩
  refine callType_codes (Q₁ := fun obj s₁ => obj = .ref s.heap.objs.size ∧ s₁ = { s with heap := s.heap.push { cls := .type "dict", data := .dict #[] } }) PySem.F.kt_called_dict (PySem.F.kt_typeCall_dict_1 _) PySem.F.entry_dict_init (kt_code_dict_new _ ⟨rfl, rfl⟩) ?_
  rintro obj s₁ ⟨rfl, rfl⟩
  have hnew : (s.heap.push { cls := .type "dict", data := .dict #[] }).DictOfH (nestedKind X.prog X.w) s.heap.objs.size [] := Heap.DictOfH.new s.heap
  have hT : Shared.TypeIs { s with heap := s.heap.push { cls := .type "dict", data := .dict #[] } } (.ref s.heap.objs.size) "dict" := ⟨_, Heap.get?_push_size _ rfl, rfl⟩
  have k0 : ∀ b o, s.heap.get? b = some o → (s.heap.push { cls := .type "dict", data := .dict #[] }).get? b = some o := fun b o e => Heap.get?_push_of_some _ e
  refine ⟨hT, PySem.F.args_dict_init_2 _ _, ?_⟩
  unfold Builtin.«dict.__init__»
  refine wpAny_bind ?_
  unfold Builtin.Dict.selfAndRest
  refine wpAny_bind (wpAny_notOrdered_dict hT ?_)
  show wpAny _ _ (pure (s.heap.objs.size, [Value.ref (m.a i)])) _ _ _
  refine wpAny_pure ?_
  have hne : s.heap.objs.size ≠ m.a i := fun z => by
    have := Heap.lt_size d0
    rw [← z] at this
    exact absurd this (Nat.lt_irrefl _)
  have dd2 : (s.heap.push { cls := .type "dict", data := .dict #[] }).DictOfH (nestedKind X.prog X.w) (m.a i) xs := dd.at' (fun o q => k0 _ _ q) fun y hy => by
    obtain ⟨_, _, _, _, _, _, _, his, _⟩ := id dd
    exact ⟨NestedIs.at (fun b o vs n q _ => k0 _ _ q) _ _ (his y hy).1, (his y hy).2⟩
  refine updateFrom_dictH (A := A.in1) (.none) (show A.in1.in1.units + 8 < cLine by have : A.in1.in1.units = A.units + 1 + 1 := rfl; omega) hne hd hnew dd2 (.inr ⟨fun x hx => ?_, hap⟩) (by simp only [List.length_nil]; omega) fun h' hd' ho' hs => ?_
  · obtain ⟨o, h1, h2⟩ := hty x hx
    exact ⟨o, k0 _ _ h1, h2⟩
  · rw [storedAllH_nil_of_nodup xs dd.nodup] at hd'
    obtain ⟨H', I', l, rh'⟩ := kd_laid (tk := s.toks) I rh r pw (by rw [r.length]; exact z) hh hd' fun b u q => (hs.2 b (Nat.ne_of_lt (Heap.lt_size q))).trans (k0 _ _ q)
    exact ⟨rfl, q _ H' I' l rh'⟩
end
end Ev
end

section
set_option Elab.async false
set_option linter.all false
set_option maxRecDepth 100000
/-! Ev: None looked up in a dict with tuples as keys. -/
namespace Ev
open PySem PySem.Spec PyProof.Rows L2

abbrev hNone : Int := reduceHash 0xFCA86420
section
variable {prog : Program} {w : World} {A : Around} {E : Value → Shared → Prop} {s : Shared} {d : Addr} {o : Obj} {es : Array DictEntry} {ep : Nat}
theorem hash_none {Q : Int → Shared → Prop} (hu : A.units + 1 < cLine) (h : Q hNone { s with toks := s.toks + 1 }) : wpAny (model prog w) A (pyHash .none) Q E s :=
  pyHash_key (prog := prog) (w := w) .none .none A s Q .none (by simp only [NestedKey.depth]; omega) h
theorem places_nil (hn : ∀ i (hi : i < es.size), es[i].hash ≠ hNone) : placesWithHash es.size (fun i => es[i]?.map (·.hash)) hNone = [] := by
  unfold placesWithHash
  rw [List.filter_eq_nil_iff]
  intro i hi
  have hi' : i < es.size := by simpa using hi
  show ¬ ((Option.map (fun x => x.hash) es[i]? == some hNone) = true)
  rw [Array.getElem?_eq_getElem hi']
  simpa using hn i hi'
theorem find_none {Q : Option Nat → Shared → Prop} (ho : s.heap.get? d = some o) (hd : o.data = .dict es ep) (hn : ∀ i (hi : i < es.size), es[i].hash ≠ hNone) (h : Q none s) : wpAny (model prog w) A (dictFind d .none hNone) Q E s := by
  unfold dictFind
  try with_reducible refine wpAny_holding ?_
  refine wpAny_bind (wpAny_dictEntries ho hd ?_)
  dsimp only
  rw [places_nil hn]
  rw [if_pos (by rfl)]
  refine wpAny_bind ?_
  first
    | exact wpAny_pure (wpAny_pure h)
    | exact wpAny_pure h
    | (rw [List.forIn_nil]; exact wpAny_pure (wpAny_pure h))
theorem get_none {Q : Option Value → Shared → Prop} (hu : A.units + 1 < cLine) (ho : s.heap.get? d = some o) (hd : o.data = .dict es ep) (hn : ∀ i (hi : i < es.size), es[i].hash ≠ hNone) (h : Q none { s with toks := s.toks + 1 }) : wpAny (model prog w) A (dictGet d .none) Q E s := by
  unfold dictGet
  try with_reducible refine wpAny_holding ?_
  refine wpAny_bind (hash_none hu (wpAny_bind (find_none (s := { s with toks := s.toks + 1 }) ho hd hn (wpAny_pure h))))
theorem contains_none {Q : Bool → Shared → Prop} (hu : A.units + 2 < cLine) (hs : (d == sysModules) = false) (ho : s.heap.get? d = some o) (hx : o.ExactDict) (hd : o.data = .dict es ep) (hn : ∀ i (hi : i < es.size), es[i].hash ≠ hNone) (h : Q false { s with toks := s.toks + 1 }) :
    wpAny (model prog w) A (contains (.ref d) .none) Q E s := by
  have hT : s.TypeIs (.ref d) "dict" := ⟨o, ho, hx.1⟩
  refine wpAny_contains_slot hT F.slot_dict_contains ?_
  refine call_meetsIn F.slot_dict_contains hT F.entry_dict_contains (F.args_dict_contains_2 _ _) (S := fun A' R s' => A' = A ∧ s' = s ∧ R (.ok (.ret (.bool false))) { s with toks := s.toks + 1 }) (fun A' R s' hS => ?_) ⟨rfl, rfl, wpAny_truthy_bool h⟩
  obtain ⟨rfl, rfl, hq⟩ := hS
  show wpAny _ _ (dictGet d .none >>= _) _ _ _
  refine wpAny_bind (get_none (by have : A'.in1.units = A'.units + 1 := rfl; omega) ho hd hn ?_)
  show wpAny _ _ (Builtin.Dict.pendingKey? d .none >>= _) _ _ _
  exact wpAny_bind (wpAny_pendingKey_other hs (wpAny_pure hq))
theorem dget_none {x : Value} {Q : Value → Shared → Prop} (hu : A.units + 2 < cLine) (hs : (d == sysModules) = false) (ho : s.heap.get? d = some o) (hx : o.ExactDict) (hd : o.data = .dict es ep) (hn : ∀ i (hi : i < es.size), es[i].hash ≠ hNone) (h : Q x { s with toks := s.toks + 1 }) :
    wpAny (model prog w) A (call (.builtin "dict.get") [.ref d, .none, x]) Q E s := by
  have hT : s.TypeIs (.ref d) "dict" := ⟨o, ho, hx.1⟩
  refine call_meetsIn F.slot_dict_get hT F.entry_dict_get (F.args_dict_get_3 _ _ _) (S := fun A' R s' => A' = A ∧ s' = s ∧ R (.ok (.ret x)) { s with toks := s.toks + 1 }) (fun A' R s' hS => ?_) ⟨rfl, rfl, h⟩
  obtain ⟨rfl, rfl, hq⟩ := hS
  show wpAny _ _ (dictGet d .none >>= _) _ _ _
  refine wpAny_bind (get_none (by have : A'.in1.units = A'.units + 1 := rfl; omega) ho hd hn ?_)
  show wpAny _ _ (Builtin.Dict.missed d .none >>= _) _ _ _
  exact wpAny_bind (wpAny_missed_other hs (wpAny_pure hq))
theorem dget_none1 {Q : Value → Shared → Prop} (hu : A.units + 2 < cLine) (hs : (d == sysModules) = false) (ho : s.heap.get? d = some o) (hx : o.ExactDict) (hd : o.data = .dict es ep) (hn : ∀ i (hi : i < es.size), es[i].hash ≠ hNone) (h : Q .none { s with toks := s.toks + 1 }) :
    wpAny (model prog w) A (call (.builtin "dict.get") [.ref d, .none]) Q E s := by
  have hT : s.TypeIs (.ref d) "dict" := ⟨o, ho, hx.1⟩
  refine call_meetsIn F.slot_dict_get hT F.entry_dict_get (F.args_dict_get_2 _ _) (S := fun A' R s' => A' = A ∧ s' = s ∧ R (.ok (.ret .none)) { s with toks := s.toks + 1 }) (fun A' R s' hS => ?_) ⟨rfl, rfl, h⟩
  obtain ⟨rfl, rfl, hq⟩ := hS
  show wpAny _ _ (dictGet d .none >>= _) _ _ _
  refine wpAny_bind (get_none (by have : A'.in1.units = A'.units + 1 := rfl; omega) ho hd hn ?_)
  show wpAny _ _ (Builtin.Dict.missed d .none >>= _) _ _ _
  exact wpAny_bind (wpAny_missed_other hs (wpAny_pure hq))
end
section
variable {X : Cx} {C : CT} {pins : List (Addr × Obj)} {σ : L2.St} {H : Hp} {s : Shared} {h : Mem} {m : Mp} {i : Nat} {kvs : List (PV × PV)} {A : Around} {E : Value → Shared → Prop}
theorem none_apart (I : L2.Inv X pins σ H s) (rh : RH X.K C m h H) (e : h.get i = some (.dic kvs)) (nf : noneFree kvs = true) : ∃ o es ep, s.heap.get? (m.a i) = some o ∧ o.ExactDict ∧ o.data = .dict es ep ∧ ((m.a i) == sysModules) = false ∧ ∀ j (hj : j < es.size), es[j].hash ≠ hNone := by
  obtain ⟨o, ws, xs, es, ep, e1, r, pw, d0, d1, d2, d3, hd, z, dd, hh⟩ := dic_at I rh e
  refine ⟨o, es, ep, d0, d1, d2, hd, fun j hj => ?_⟩
  unfold noneFree at nf
  rw [hashes_of r pw] at nf
  simp only at nf
  cases ei : inI hNone (xs.map fun x => hk x.1) with
  | true =>
    have ei' : inI (reduceHash 0xFCA86420) (xs.map fun x => hk x.1) = true := ei
    rw [ei'] at nf
    cases nf
  | false =>
    intro hz
    have hj' : j < xs.length := by
      have := congrArg List.length d3
      rw [List.length_map, Array.length_toList] at this
      omega
    have ee : es[j] = enN xs[j] := by
      have z : es.toList[j]? = (xs.map enN)[j]? := by rw [d3]
      rw [Array.getElem?_toList, Array.getElem?_eq_getElem hj, List.getElem?_map, List.getElem?_eq_getElem hj'] at z
      exact Option.some.inj z
    rw [ee] at hz
    have : inI hNone (xs.map fun x => hk x.1) = true := inI_iff.mpr (List.mem_map.mpr ⟨xs[j], List.getElem_mem hj', hz⟩)
    rw [ei] at this
    cases this
theorem kd_inNone {Q : Value → Shared → Prop} (hu : A.units + 2 < cLine) (I : L2.Inv X pins σ H s) (rh : RH X.K C m h H) (e : h.get i = some (.dic kvs)) (nf : noneFree kvs = true) (q : ∀ s', L2.Inv X pins σ H s' → Q (.bool false) s') :
    wpAny (model X.prog X.w) A (compareOp .In .none (.ref (m.a i))) Q E s := by
  obtain ⟨o, es, ep, ho, hx, hd, hs, hn⟩ := none_apart I rh e nf
  show wpAny _ _ (do return .bool (← contains (.ref (m.a i)) .none)) Q E s
  exact wpAny_bind (contains_none hu hs ho hx hd hn (wpAny_pure (q _ (I.tok _))))
theorem kd_notInNone {Q : Value → Shared → Prop} (hu : A.units + 2 < cLine) (I : L2.Inv X pins σ H s) (rh : RH X.K C m h H) (e : h.get i = some (.dic kvs)) (nf : noneFree kvs = true) (q : ∀ s', L2.Inv X pins σ H s' → Q (.bool true) s') :
    wpAny (model X.prog X.w) A (compareOp .NotIn .none (.ref (m.a i))) Q E s := by
  obtain ⟨o, es, ep, ho, hx, hd, hs, hn⟩ := none_apart I rh e nf
  show wpAny _ _ (do return .bool (!(← contains (.ref (m.a i)) .none))) Q E s
  exact wpAny_bind (contains_none hu hs ho hx hd hn (wpAny_pure (q _ (I.tok _))))
theorem kd_getNone {Q : Value → Shared → Prop} (hu : A.units + 2 < cLine) (I : L2.Inv X pins σ H s) (rh : RH X.K C m h H) (e : h.get i = some (.dic kvs)) (nf : noneFree kvs = true) (q : ∀ s', L2.Inv X pins σ H s' → Q .none s') :
    wpAny (model X.prog X.w) A (call (.builtin "dict.get") [.ref (m.a i), .none]) Q E s := by
  obtain ⟨o, es, ep, ho, hx, hd, hs, hn⟩ := none_apart I rh e nf
  exact dget_none1 hu hs ho hx hd hn (q _ (I.tok _))
theorem kd_getNone2 {du : Value} {Q : Value → Shared → Prop} (hu : A.units + 2 < cLine) (I : L2.Inv X pins σ H s) (rh : RH X.K C m h H) (e : h.get i = some (.dic kvs)) (nf : noneFree kvs = true) (q : ∀ s', L2.Inv X pins σ H s' → Q du s') :
    wpAny (model X.prog X.w) A (call (.builtin "dict.get") [.ref (m.a i), .none, du]) Q E s := by
  obtain ⟨o, es, ep, ho, hx, hd, hs, hn⟩ := none_apart I rh e nf
  exact dget_none hu hs ho hx hd hn (q _ (I.tok _))
end
end Ev
end

section
set_option Elab.async false
set_option linter.all false
set_option maxRecDepth 100000
/-! Ev: lists and tuples alike as sources: walked, counted, in pairs. -/
namespace Ev
open PySem PySem.Spec PyProof.Rows L2

/-- a list (true), a tuple (false) -/
def Sq (K : PySem.W.Frag) (b : Bool) (H : Hp) (a : Addr) (xs : List V) : Prop := match b with
  | true => SqL K H a xs
  | false => SqT K H a xs
def SqH (b : Bool) (h : Heap) (a : Addr) (its : Array Value) : Prop := match b with
  | true => h.IsList a its
  | false => h.IsTuple a its
def SqI (b : Bool) (h : Heap) (it a : Addr) (i : Nat) : Prop := match b with
  | true => h.IsListIter it a i
  | false => h.IsTupleIter it a i
def sqO (b : Bool) (a : Addr) : Obj := match b with
  | true => { cls := .type "list_iterator", data := .fields #[.ref a, .int 0 0] }
  | false => { cls := .type "tuple_iterator", data := .fields #[.ref a, .int 0 0] }
theorem sq_begins (b : Bool) (a : Addr) (its : Array Value) : Begins (.ref a) (sqO b a) fun h => SqH b h a its := by
  cases b
  · exact begins_tuple a its
  · exact begins_list a its
theorem sqO_iter {b : Bool} {h : Heap} {it a : Addr} (e : h.get? it = some (sqO b a)) : SqI b h it a 0 := by
  cases b
  · exact ⟨_, e, rfl, rfl⟩
  · exact ⟨_, e, rfl, rfl⟩
theorem SqI.at {b : Bool} {h h' : Heap} {it a : Addr} {i : Nat} (r : SqI b h it a i) (k : ∀ o, h.get? it = some o → h'.get? it = some o) : SqI b h' it a i := by
  cases b
  · exact Heap.IsTupleIter.at r k
  · exact Heap.IsListIter.at r k
theorem SqI.live {b : Bool} {h : Heap} {it a : Addr} {i : Nat} (r : SqI b h it a i) : ∃ o, h.get? it = some o ∧ ∀ v, o.data ≠ .cell v := by
  cases b
  · obtain ⟨o, e, _, d⟩ := r
    exact ⟨o, e, fun v q => by rw [d] at q; cases q⟩
  · obtain ⟨o, e, _, d⟩ := r
    exact ⟨o, e, fun v q => by rw [d] at q; cases q⟩
theorem ne_nat {a b : Nat} (h : a ≠ b) : @Ne Addr a b := h
theorem SqH.lt {b : Bool} {h : Heap} {a : Addr} {its : Array Value} (r : SqH b h a its) : @LT.lt Nat _ a h.objs.size := by
  cases b
  · obtain ⟨o, e, _⟩ := r
    exact Heap.lt_size e
  · obtain ⟨o, e, _⟩ := r
    exact Heap.lt_size e
theorem sq_draws {prog : Program} {w : World} {A : Around} (hh : A.handled = none) (b : Bool) (it a : Addr) (hne : a ≠ it) (its : Array Value) :
    Draws prog w A it [it, a] its.size (fun i v => its[i]? = some v) (fun i h => SqI b h it a i ∧ SqH b h a its) := by
  cases b
  · exact Draws.tuple hh it a hne its
  · exact Draws.list hh it a hne its
section
variable {X : Cx} {pins : List (Addr × Obj)} {σ : L2.St} {H : Hp} {s : Shared} {b : Bool} {a : Addr} {xs ys : List V}
theorem sq_inv (I : Inv X pins σ H s) (h : Sq X.K b H a xs) : ∃ its : List Value, Vals xs its ∧ SqH b s.heap a its.toArray ∧ xs.length ≤ sizeLine := by
  cases b
  · obtain ⟨its, r, p, z⟩ := I.tuple h
    exact ⟨its, r, p, z⟩
  · obtain ⟨its, r, p, z⟩ := I.list h
    exact ⟨its, r, p.isList, z⟩
theorem sq_inj (I : Inv X pins σ H s) (h : Sq X.K b H a xs) (h' : Sq X.K b H a ys) : xs = ys := by
  cases b
  · exact I.tuple_inj h h'
  · exact I.list_inj h h'
end

/-! ### for x in s -/
def Itq (K : PySem.W.Frag) (b : Bool) (a : Addr) : It :=
  ⟨fun i H => ∃ (xs : List V) (x : V), Sq K b H a xs ∧ xs[i]? = some x, fun i H v H' => H' = H ∧ ∀ xs, Sq K b H a xs → xs[i]? = some v, fun i H => ∃ xs : List V, Sq K b H a xs ∧ xs.length ≤ i⟩
def iSq (K : PySem.W.Frag) (tl : TE) : TI := fun σ H R => tl σ H fun x H1 => ∃ b a xs, x = .ref a ∧ Sq K b H1 a xs ∧ R (Itq K b a) H1
theorem pi_sq {X : Cx} {tg l : Expr} {tl : TE} (hl : PE X l tl) : PI X tg l (iSq X.K tl) := by
  refine ⟨fun pins s σ H R I h => ?_⟩
  refine thn (hl.run pins s σ H _ I h) fun v s1 ⟨x, H1, I1, r1, q1⟩ => ?_
  obtain ⟨b, a, xs, e, hq, q⟩ := q1
  subst e
  cases r1
  cases b
  · obtain ⟨its, rv, p, hz⟩ := I1.tuple hq
    refine wpAny_pyIter_tuple (show s1.heap.IsTuple a its.toArray from p) ?_
    refine ⟨s1.heap.objs.size, [s1.heap.objs.size], _, _, H1, rfl, I1.kept (t' := s1.toks) fun b o e => Heap.get?_push_of_some _ e, turn_tuple a _, ⟨_, Heap.get?_push_size _ rfl, rfl, rfl⟩, fun b hb => ?_, q⟩
    have e : b = s1.heap.objs.size := by simpa using hb
    subst e
    exact I1.fpOk (Nat.le_refl _) (I1.hok.fresh (Nat.le_refl _))
  · obtain ⟨its, rv, p, hz⟩ := I1.list hq
    refine wpAny_pyIter_list p.isList ?_
    refine ⟨s1.heap.objs.size, [s1.heap.objs.size], _, _, H1, rfl, I1.kept (t' := s1.toks) fun b o e => Heap.get?_push_of_some _ e, turn_list a _, ⟨_, Heap.get?_push_size _ rfl, rfl, rfl⟩, fun b hb => ?_, q⟩
    have e : b = s1.heap.objs.size := by simpa using hb
    subst e
    exact I1.fpOk (Nat.le_refl _) (I1.hok.fresh (Nat.le_refl _))

/-! ### enumerate(s) -/
theorem meets_enumerate_newS {v : Value} {o : Obj} {H : Heap → Prop} (B : Begins v o H) :
    Meets (Builtin.«enumerate.__new__» ⟨[.type "enumerate", v], []⟩) (fun _ R s => H s.heap ∧
      R (.ok (.ret (.ref (s.heap.push o).objs.size))) { s with heap := (s.heap.push o).push { cls := .type "enumerate", data := .fields #[.none, .bool false, .ref s.heap.objs.size, rawInt 0, .none, .none] } }) :=
  .of_wp fun prog w A R s h => by
    obtain ⟨hp, g, d, tk, os⟩ := s; obtain ⟨h1, h⟩ := h
    have hsub := sub_enumerate
    have q1 : ∀ {A' : Around} {E : Value → Shared → Prop} {Q : Value → Shared → Prop}, Q (.ref hp.objs.size) ⟨hp.push o, g, d, tk, os⟩ → wpAny (model prog w) A' (pyIter v) Q E ⟨hp, g, d, tk, os⟩ :=
      fun q => B.iter prog w _ _ ⟨hp, g, d, tk, os⟩ _ h1 q
    wp_walk
    refine wpAny_stack_any fun st => wpAny_pure ?_
    split
    · rename_i c _ _ _ _ _
      cases (c == Value.type "enumerate")
      · wp_walk using q1
        exact ⟨_, rfl, h⟩
      · wp_walk using q1
        exact ⟨_, rfl, h⟩
    · wp_walk using q1
      exact ⟨_, rfl, h⟩
theorem enum_beginsS {prog : Program} {w : World} {A : Around} {E : Value → Shared → Prop} {s : Shared} {v : Value} {o : Obj} {H : Heap → Prop} {Q : Value → Shared → Prop} (B : Begins v o H) (h1 : H s.heap)
    (h : ∀ h', IsEnum h' (s.heap.objs.size + 1) s.heap.objs.size 0 .none → h'.get? s.heap.objs.size = some o → h'.objs.size = s.heap.objs.size + 2 →
      (∀ b o, s.heap.get? b = some o → h'.get? b = some o) → Q (.ref (s.heap.objs.size + 1)) { s with heap := h' }) :
    wpAny (model prog w) A (call (.type "enumerate") [v]) Q E s := by
  refine callType_new F.called_enumerate (by decide) (F.typeCall_enumerate_1 _) (F.newCall_enumerate_1 _) (fun obj => F.args_object_init_2 obj _) F.entry_enumerate_new
    (meets_enumerate_newS B) ⟨h1, ?_⟩
  have hz : (s.heap.push o).objs.size = s.heap.objs.size + 1 := Heap.size_push ..
  show _ ∧ _
  rw [hz]
  have he : IsEnum ((s.heap.push o).push { cls := .type "enumerate", data := .fields #[.none, .bool false, .ref s.heap.objs.size, rawInt 0, .none, .none] }) (s.heap.objs.size + 1) s.heap.objs.size 0 .none := by
    have := Heap.get?_push_size (s.heap.push o) (o := { cls := .type "enumerate", data := .fields #[.none, .bool false, .ref s.heap.objs.size, rawInt 0, .none, .none] }) rfl
    rw [hz] at this; exact this
  refine ⟨⟨_, he, rfl⟩, h _ he (Heap.get?_push_of_some _ (Heap.get?_push_size _ B.free)) (by rw [Heap.size_push, hz]) fun b o x => Heap.get?_push_of_some _ (Heap.get?_push_of_some _ x)⟩
def Iteq (K : PySem.W.Frag) (b : Bool) (a : Addr) : It :=
  ⟨fun i H => ∃ (xs : List V) (x : V), Sq K b H a xs ∧ xs[i]? = some x, fun i H v H' => ∃ T x, v = .ref T ∧ H T = none ∧ H' = upd H T (.tup [.int (i : Nat), x]) ∧ ∀ xs, Sq K b H a xs → xs[i]? = some x, fun i H => ∃ xs : List V, Sq K b H a xs ∧ xs.length ≤ i⟩
theorem turn_enumS {P : Program} {w : World} {K : PySem.W.Frag} {elts : List Expr} {kk : Nat} {tpos : Pos} (b : Bool) (a e it : Addr) :
    Turn P w K (.Tuple elts kk tpos) (Iteq K b a) [e, it] e (fun i h => (∃ old, IsEnum h e it ((i : Nat) : Int) old) ∧ SqI b h it a i ∧ e ≠ it ∧ a ≠ it ∧ e ≠ a) where
  mem := by simp
  obj := fun i h st c hb => by
    obtain ⟨⟨old, he⟩, hi, _⟩ := st
    have e' : c = e ∨ c = it := by simpa using hb
    rcases e' with z | z
    · rw [z]; exact ⟨_, he, fun v q => nomatch q⟩
    · rw [z]; exact hi.live
  keep := fun i h h' st k => by
    obtain ⟨⟨old, he⟩, hi, hne⟩ := st
    exact ⟨⟨old, k e (by simp) _ he⟩, hi.at fun o q => k it (by simp) o q, hne⟩
  item := by
    intro X hP hw hK hc i pins s σ H E I hf st hg
    subst hP hw hK
    obtain ⟨⟨old, he⟩, hit, hne, hai, hea⟩ := st
    obtain ⟨xs, x, hq, hx⟩ := hg
    obtain ⟨its, rv, p, hz⟩ := sq_inv I hq
    obtain ⟨u, hu, ru⟩ := rv.get hx
    have hel : e < s.heap.objs.size := Heap.lt_size he
    have hil : it < s.heap.objs.size := by obtain ⟨_, q, _⟩ := hit.live; exact Heap.lt_size q
    have hlt : i < its.toArray.size := by
      have : i < its.length := by
        cases Nat.lt_or_ge i its.length with
        | inl l => exact l
        | inr l => rw [List.getElem?_eq_none l] at hu; cases hu
      simpa using this
    refine wpAny_pyNext_enum_itemD (sq_draws (by exact I.ok.hd hc) b it a hai its.toArray) he ⟨hit, p⟩ hlt hne (by simp [hne, hea]) fun x' h' tk hPx ho hst' hT hsz hk => ?_
    have ex : x' = u := by
      have : its.toArray[i]? = some u := by simpa using hu
      rw [this] at hPx
      exact (Option.some.inj hPx).symm
    subst ex
    refine ⟨_, rfl, wpAny_letOwnedTupleGo_enum (s := { s with heap := h', toks := tk + 1 }) ho fun h'' he' sb => ?_⟩
    have hT2 : h''.get? s.heap.objs.size = some { cls := .type "tuple", data := .seq #[.int i tk, x'] } := (sb.2 _ (Nat.ne_of_gt hel)).trans hT
    have new : ObjOk X.prog X.w (upd H s.heap.objs.size (.tup [.int (i : Nat), x])) h'' s.heap.objs.size (.tup [.int (i : Nat), x]) :=
      ⟨by show 2 ≤ sizeLine; decide, [.int i tk, x'], .cons ⟨_, rfl⟩ (.cons ru .nil), ⟨_, hT2, rfl, _, rfl⟩⟩
    have I1 : Inv X pins σ (upd H s.heap.objs.size (.tup [.int (i : Nat), x])) { s with heap := h'', toks := tk + 1 } :=
      I.turnedNew (ch := [e, it]) (fun b ob hb q => (sb.2 b (fun z => hb (by simp [z]))).trans (hk b ob (fun z => hb (by simp [z])) (fun z => hb (by simp [z])) q)) hf (Nat.le_refl _) new
    refine ⟨.ref s.heap.objs.size, _, I1, rfl, ⟨_, x, rfl, I.hok.fresh (Nat.le_refl _), rfl, fun ys hy => by rw [sq_inj I hy hq]; exact hx⟩, ⟨⟨x', ?_⟩, hst'.1.at fun o q => (sb.2 it (Ne.symm hne)).trans q, hne, hai, hea⟩, fun b hb => ?_⟩
    · have e1 : ((i + 1 : Nat) : Int) = (i : Int) + 1 := by omega
      rw [e1]; exact he'
    · have hb' : b < s.heap.objs.size := by
        have e' : b = e ∨ b = it := by simpa using hb
        rcases e' with z | z
        · rw [z]; exact hel
        · rw [z]; exact hil
      rw [upd_ne (Nat.ne_of_lt hb')]
      exact (hf b hb).1
  done := by
    intro X hP hw hK hc i pins s σ H E I hf st hg
    subst hP hw hK
    obtain ⟨⟨old, he⟩, hit, hne, hai, hea⟩ := st
    obtain ⟨xs, hq, hx⟩ := hg
    obtain ⟨its, rv, p, hz⟩ := sq_inv I hq
    obtain ⟨f0, f1, f2, f3, f4, f5⟩ := hf it (by simp)
    have hl := rv.length
    cases b with
    | true => exact wpAny_pyNext_enum_end (I.ok.hd hc) he hit p (by simp; omega) fun h' eb => ⟨rfl, I.turned (t' := s.toks) (fun b o hb q => eb b o hb q) f0 f1 f3 f4 f5⟩
    | false =>
      have hT : s.TypeIs (.ref e) "enumerate" := ⟨_, he, rfl⟩
      unfold pyNext
      refine wpAny_bind (wpAny_attempt (wpAny_callSpecial?_slot (name := Str.ofString "__next__") hT F.slot_enumerate_next
        (wpAny_call_entry F.slot_enumerate_next hT F.entry_enumerate_next ?_ (F.args_enumerate_next_1 _))))
      show wpAny _ _ (field (.ref e) 2 >>= _) _ _ _
      refine wpAny_bind (wpAny_field he rfl (x := .ref it) rfl ?_)
      refine wpAny_bind (wpAny_nextOf_tuple_end (by exact I.ok.hd hc) hit p (by simp; omega) fun h' x he' hx' => ?_)
      obtain ⟨o, ho, hcl⟩ := hx'
      refine wpAny_bind (wpAny_isInstance (T := "StopIteration") (b := true) ⟨o, ho, hcl⟩ isSubtype_stop ?_)
      exact wpAny_pure ⟨rfl, I.turned (t' := s.toks) (fun b o hb q => he' b o hb q) f0 f1 f3 f4 f5⟩
  self := fun A i s Q E st h => by
    obtain ⟨⟨_, he⟩, _⟩ := st
    exact wpAny_pyIter_enum he h
def iEnumS (K : PySem.W.Frag) (ta : TA) : TI := fun σ H R => ta σ H fun vs H1 => ∃ b a xs, vs = [.ref a] ∧ Sq K b H1 a xs ∧ R (Iteq K b a) H1
theorem pi_enumS {X : Cx} {e : Expr} {ta : TA} {p pos tpos : Pos} {elts : List Expr} {kk : Nat} (hg : Gl X "enumerate") (hm : X.mg "enumerate" = none) (ha : PA X [e] ta) (hs : starEach [e] X.env = [(false, eval e X.env)] := by rfl) :
    PI X (.Tuple elts kk tpos) (.Call (.Name "enumerate" p) [e] [] pos) (iEnumS X.K ta) := by
  refine ⟨fun pins s σ H R I h => ?_⟩
  refine Call_ (ld_blt I hg hm boot_enumerate (PyProof.Rows.callWith_type1 (thn (ha.run pos pins s σ H _ I h) fun us s1 ⟨vs, H1, I1, r1, q1⟩ => ?_) hs rfl))
  obtain ⟨b, a, xs, ex, hq, q⟩ := q1
  subst ex
  cases r1 with
  | cons r rr =>
    cases rr
    cases r
    obtain ⟨its, rv, p', hz⟩ := sq_inv I1 hq
    refine enum_beginsS (sq_begins b a its.toArray) p' fun h' he ho hsz hk => wpAny_pyIter_enum he ?_
    have I2 : Inv X pins σ H1 { s1 with heap := h' } := I1.kept (t' := s1.toks) hk
    have hal := p'.lt
    refine ⟨s1.heap.objs.size + 1, [s1.heap.objs.size + 1, s1.heap.objs.size], _, _, H1, rfl, I2, turn_enumS b a (s1.heap.objs.size + 1) s1.heap.objs.size, ⟨⟨.none, he⟩, sqO_iter ho, Nat.succ_ne_self _, Nat.ne_of_lt hal, ne_nat (by omega)⟩, fun b hb => ?_, q⟩
    have e' : b = s1.heap.objs.size + 1 ∨ b = s1.heap.objs.size := by simpa using hb
    have hle : s1.heap.objs.size ≤ b := by
      rcases e' with z | z
      · rw [z]; exact Nat.le_add_right _ _
      · rw [z]; exact Nat.le_refl _
    exact I1.fpOk hle (I1.hok.fresh hle)

/-! ### zip(s, t) -/
def ItzS (K : PySem.W.Frag) (b1 b2 : Bool) (a b : Addr) : It :=
  ⟨fun i H => ∃ (xs ys : List V) (x y : V), Sq K b1 H a xs ∧ Sq K b2 H b ys ∧ xs[i]? = some x ∧ ys[i]? = some y,
    fun i H v H' => ∃ T x y, v = .ref T ∧ H T = none ∧ H' = upd H T (.tup [x, y]) ∧ (∀ xs, Sq K b1 H a xs → xs[i]? = some x) ∧ ∀ ys, Sq K b2 H b ys → ys[i]? = some y,
    fun i H => ∃ xs ys : List V, Sq K b1 H a xs ∧ Sq K b2 H b ys ∧ i ≤ xs.length ∧ i ≤ ys.length ∧ (i = xs.length ∨ i = ys.length)⟩
theorem turn_zipS {P : Program} {w : World} {K : PySem.W.Frag} {elts : List Expr} {kk : Nat} {tpos : Pos} {b1 b2 : Bool} {a b z TI TO i1 i2 : Addr} (D : ZipSep2 z TI TO i1 i2 [i1, a] [i2, b]) :
    Turn P w K (.Tuple elts kk tpos) (ItzS K b1 b2 a b) [z, TI, TO, i1, i2] z (fun i h => IsZip h z TI TO .none ∧ IsTupOf2 h TI (.ref i1) (.ref i2) ∧ (∃ x y, IsTupOf2 h TO x y) ∧ SqI b1 h i1 a i ∧ SqI b2 h i2 b i ∧ a ≠ i1 ∧ b ≠ i2) where
  mem := by simp
  obj := fun i h st c hc => by
    obtain ⟨hz, hTI, ⟨x, y, hTO⟩, h1, h2, _⟩ := st
    have e' : c = z ∨ c = TI ∨ c = TO ∨ c = i1 ∨ c = i2 := by simpa using hc
    rcases e' with q | q | q | q | q
    · rw [q]; exact ⟨_, hz, fun v q => nomatch q⟩
    · rw [q]; exact ⟨_, hTI, fun v q => nomatch q⟩
    · rw [q]; exact ⟨_, hTO, fun v q => nomatch q⟩
    · rw [q]; exact h1.live
    · rw [q]; exact h2.live
  keep := fun i h h' st k => by
    obtain ⟨hz, hTI, ⟨x, y, hTO⟩, h1, h2, n⟩ := st
    exact ⟨k z (by simp) _ hz, k TI (by simp) _ hTI, ⟨x, y, k TO (by simp) _ hTO⟩, h1.at fun o q => k i1 (by simp) o q, h2.at fun o q => k i2 (by simp) o q, n⟩
  item := by
    intro X hP hw hK hc i pins s σ H E I hf st hg
    subst hP hw hK
    obtain ⟨hz, hTI, ⟨x0, y0, hTO⟩, h1, h2, n1, n2⟩ := st
    obtain ⟨xs, ys, x, y, hqx, hqy, hx, hy⟩ := hg
    obtain ⟨its, rv, p, _⟩ := sq_inv I hqx
    obtain ⟨its2, rv2, p2, _⟩ := sq_inv I hqy
    obtain ⟨u, hu, ru⟩ := rv.get hx
    obtain ⟨u2, hu2, ru2⟩ := rv2.get hy
    have hzl : z < s.heap.objs.size := Heap.lt_size hz
    have lt_of : ∀ (l : List Value) (v : Value), l[i]? = some v → i < l.toArray.size := fun l v e => by
      cases Nat.lt_or_ge i l.length with
      | inl q => simpa using q
      | inr q => rw [List.getElem?_eq_none q] at e; cases e
    refine wpAny_pyNext_zipD2_item D (sq_draws (by exact I.ok.hd hc) b1 i1 a n1 its.toArray) (sq_draws (by exact I.ok.hd hc) b2 i2 b n2 its2.toArray) hz hTI hTO ⟨h1, p⟩ ⟨h2, p2⟩ (lt_of _ _ hu) (lt_of _ _ hu2)
      fun x1 x2 h' tk y1 y2 z' TO' st1 st2 hT hsz hk => ?_
    have e1 : x1 = u := by
      have : its.toArray[i]? = some u := by simpa using hu
      rw [this] at y1
      exact (Option.some.inj y1).symm
    have e2 : x2 = u2 := by
      have : its2.toArray[i]? = some u2 := by simpa using hu2
      rw [this] at y2
      exact (Option.some.inj y2).symm
    subst e1 e2
    refine ⟨_, rfl, wpAny_letOwnedTupleGo_zip (s := { s with heap := h', toks := tk }) z' fun h'' z'' sb => ?_⟩
    have hT2 : h''.get? s.heap.objs.size = some { cls := .type "tuple", data := .seq #[x1, x2] } := (sb.2 _ (Nat.ne_of_gt hzl)).trans hT
    have new : ObjOk X.prog X.w (upd H s.heap.objs.size (.tup [x, y])) h'' s.heap.objs.size (.tup [x, y]) :=
      ⟨by show 2 ≤ sizeLine; decide, [x1, x2], .cons ru (.cons ru2 .nil), ⟨_, hT2, rfl, _, rfl⟩⟩
    have I1 : Inv X pins σ (upd H s.heap.objs.size (.tup [x, y])) { s with heap := h'', toks := tk } :=
      I.turnedNew (t' := tk) (ch := [z, TI, TO, i1, i2]) (fun c o hb q => (sb.2 c (fun q' => hb (by simp [q']))).trans (hk c o (fun q' => hb (by simp [q'])) (fun q' => hb (by simp [q'])) (fun q' => hb (by simp [q'])) (fun q' => hb (by simp [q'])) q)) hf (Nat.le_refl _) new
    refine ⟨.ref s.heap.objs.size, _, I1, rfl, ⟨_, x, y, rfl, I.hok.fresh (Nat.le_refl _), rfl, fun l hl => by rw [sq_inj I hl hqx]; exact hx, fun l hl => by rw [sq_inj I hl hqy]; exact hy⟩, ⟨z'', ?_, ⟨x1, x2, ?_⟩, ?_, ?_, n1, n2⟩, fun c hcm => ?_⟩
    · exact (sb.2 _ D.TIz).trans (hk _ _ D.TIz D.TITO D.TIi1 D.TIi2 hTI)
    · exact (sb.2 _ D.TOz).trans TO'
    · exact st1.1.at fun o q => (sb.2 _ D.zi1.symm).trans q
    · exact st2.1.at fun o q => (sb.2 _ D.zi2.symm).trans q
    · have hlt : c < s.heap.objs.size := by
        have e' : c = z ∨ c = TI ∨ c = TO ∨ c = i1 ∨ c = i2 := by simpa using hcm
        rcases e' with q | q | q | q | q
        · rw [q]; exact hzl
        · rw [q]; exact Heap.lt_size hTI
        · rw [q]; exact Heap.lt_size hTO
        · rw [q]; obtain ⟨_, e1, _⟩ := h1.live; exact Heap.lt_size e1
        · rw [q]; obtain ⟨_, e2, _⟩ := h2.live; exact Heap.lt_size e2
      rw [upd_ne (Nat.ne_of_lt hlt)]
      exact (hf c hcm).1
  done := by
    intro X hP hw hK hc i pins s σ H E I hf st hg
    subst hP hw hK
    obtain ⟨hz, hTI, ⟨x0, y0, hTO⟩, h1, h2, n1, n2⟩ := st
    obtain ⟨xs, ys, hqx, hqy, le1, le2, hend⟩ := hg
    obtain ⟨its, rv, p, _⟩ := sq_inv I hqx
    obtain ⟨its2, rv2, p2, _⟩ := sq_inv I hqy
    have l1 := rv.length
    have l2 := rv2.length
    have q1 : its.toArray.size = xs.length := by simp; omega
    have q2 : its2.toArray.size = ys.length := by simp; omega
    exact wpAny_pyNext_zipD2_end D (sq_draws (by exact I.ok.hd hc) b1 i1 a n1 its.toArray) (sq_draws (by exact I.ok.hd hc) b2 i2 b n2 its2.toArray) hz hTI hTO ⟨h1, p⟩ ⟨h2, p2⟩ (by omega) (by omega) (by omega) fun h' tk hk => ⟨rfl, I.turnedL (t' := tk) (ch := [z, TI, TO, i1, i2]) (fun c o hb q =>
      hk c o (fun q' => hb (by simp [q'])) (fun q' => hb (by simp [q'])) (fun q' => hb (by simp [q'])) (fun q' => hb (by simp [q'])) q) hf⟩
  self := fun A i s Q E st h => wpAny_pyIter_zip st.1 h
def iZipS (K : PySem.W.Frag) (ta : TA) : TI := fun σ H R => ta σ H fun vs H1 => ∃ b1 b2 a b xs ys, vs = [.ref a, .ref b] ∧ Sq K b1 H1 a xs ∧ Sq K b2 H1 b ys ∧ R (ItzS K b1 b2 a b) H1
theorem pi_zipS {X : Cx} {e e2 : Expr} {ta : TA} {p pos tpos : Pos} {elts : List Expr} {kk : Nat} (hg : Gl X "zip") (hm : X.mg "zip" = none) (ha : PA X [e, e2] ta)
    (hs : starEach [e, e2] X.env = (false, eval e X.env) :: starEach [e2] X.env := by rfl) (hpl : (backTo pos (starEach [e2] X.env)).any (·.1) = false := by rfl) :
    PI X (.Tuple elts kk tpos) (.Call (.Name "zip" p) [e, e2] [] pos) (iZipS X.K ta) := by
  refine ⟨fun pins s σ H R I h => ?_⟩
  refine Call_ (ld_blt I hg hm PyProof.Rows.boot_zip (PyProof.Rows.callWith_type1 (thn (ha.run pos pins s σ H _ I h) fun us s1 ⟨vs, H1, I1, r1, q1⟩ => ?_) hs hpl))
  obtain ⟨b1, b2, a, b, xs, ys, ex, hqx, hqy, q⟩ := q1
  subst ex
  cases r1 with
  | cons r rr =>
    cases rr with
    | cons r' rr =>
      cases rr
      cases r
      cases r'
      obtain ⟨its, rv, p1, _⟩ := sq_inv I1 hqx
      obtain ⟨its2, rv2, p2, _⟩ := sq_inv I1 hqy
      have la := p1.lt
      have lb := p2.lt
      refine zip_begins2 (sq_begins b1 a its.toArray) (sq_begins b2 b its2.toArray) p1 p2 fun h' hz hTI hTO h1 h2 hsz hk => wpAny_pyIter_zip hz ?_
      have I2 : Inv X pins σ H1 { s1 with heap := h' } := I1.kept (t' := s1.toks) hk
      refine ⟨s1.heap.objs.size + 4, [s1.heap.objs.size + 4, s1.heap.objs.size + 2, s1.heap.objs.size + 3, s1.heap.objs.size, s1.heap.objs.size + 1], _, _, H1, rfl, I2, turn_zipS ?_, ⟨hz, hTI, ⟨_, _, hTO⟩, sqO_iter h1, sqO_iter h2, Nat.ne_of_lt la, ne_nat (by omega)⟩, fun c hcm => ?_, q⟩
      · constructor <;> (try simp only [List.mem_cons, List.not_mem_nil, or_false, not_or]) <;> first | exact ne_nat (by omega) | exact ⟨ne_nat (by omega), ne_nat (by omega)⟩ | exact .inl rfl | simp
      · have e' : c = s1.heap.objs.size + 4 ∨ c = s1.heap.objs.size + 2 ∨ c = s1.heap.objs.size + 3 ∨ c = s1.heap.objs.size ∨ c = s1.heap.objs.size + 1 := by simpa using hcm
        have hle : s1.heap.objs.size ≤ c := by
          rcases e' with q | q | q | q | q
          · rw [q]; exact Nat.le_add_right _ _
          · rw [q]; exact Nat.le_add_right _ _
          · rw [q]; exact Nat.le_add_right _ _
          · rw [q]; exact Nat.le_refl _
          · rw [q]; exact Nat.le_add_right _ _
        exact I1.fpOk hle (I1.hok.fresh hle)
end Ev
end

section
set_option Elab.async false
set_option linter.all false
set_option maxRecDepth 100000
/-! Ev: walks over dicts. -/
namespace Ev
open PySem PySem.Spec PyProof.Rows L2

def ItkX (d : Addr) (o : Obj) : It :=
  ⟨fun i H => ∃ ws, H d = some (DxO d o ws) ∧ i < ws.length, fun i H x H' => H' = H ∧ ∀ ws, H d = some (DxO d o ws) → ∃ q, ws[i]? = some q ∧ x = .ref q.2.1, fun i H => ∃ ws, H d = some (DxO d o ws) ∧ ws.length ≤ i⟩
def ItvX (d : Addr) (o : Obj) : It :=
  ⟨fun i H => ∃ ws, H d = some (DxO d o ws) ∧ i < ws.length, fun i H x H' => H' = H ∧ ∀ ws, H d = some (DxO d o ws) → ∃ q, ws[i]? = some q ∧ x = q.2.2, fun i H => ∃ ws, H d = some (DxO d o ws) ∧ ws.length ≤ i⟩
def ItiX (d : Addr) (o : Obj) : It :=
  ⟨fun i H => ∃ ws, H d = some (DxO d o ws) ∧ i < ws.length, fun i H x H' => ∃ T k v, x = .ref T ∧ H T = none ∧ H' = upd H T (.tup [.ref k, v]) ∧ ∀ ws, H d = some (DxO d o ws) → ∃ q, ws[i]? = some q ∧ k = q.2.1 ∧ v = q.2.2,
    fun i H => ∃ ws, H d = some (DxO d o ws) ∧ ws.length ≤ i⟩
theorem pwx_get : ∀ {ws : Wx} {xs : Xx} {i : Nat} {y : NestedKey × Addr × Value}, PWx ws xs → xs[i]? = some y → ∃ q, ws[i]? = some q ∧ q.2.1 = y.2.1 ∧ RelV q.2.2 y.2.2
  | _, _, _, _, .nil, e => by simp at e
  | _, _, 0, y, .cons r _, e => by simp at e; subst e; exact ⟨_, rfl, r.2.1, r.2.2⟩
  | _, _, i + 1, y, .cons _ t, e => by
    obtain ⟨q, h1, h2⟩ := pwx_get (i := i) t (by simpa using e)
    exact ⟨q, by simpa using h1, h2⟩
section
variable {X : Cx} {pins : List (Addr × Obj)} {σ : L2.St} {H : Hp} {s : Shared} {d : Addr} {o : Obj} {ws : Wx}
/-- the raw entries of a dict that is known -/
theorem dx_raw (I : Inv X pins σ H s) (e : H d = some (DxO d o ws)) : ∃ es ep, s.heap.get? d = some o ∧ (d == sysModules) = false ∧ o.ExactDict ∧ o.data = .dict es ep ∧ es.size = ws.length ∧
    ∀ ws', H d = some (DxO d o ws') → ∀ i (hi : i < es.size), ∃ q, ws'[i]? = some q ∧ es[i].key = .ref q.2.1 ∧ RelV q.2.2 es[i].val := by
  have key : ∀ ws', H d = some (DxO d o ws') → s.heap.get? d = some o ∧ (d == sysModules) = false ∧ DxF o ws' := fun ws' e' => (show ObjOk X.prog X.w H s.heap d (DxO d o ws') from I.hok _ _ e').1
  obtain ⟨h1, h2, h3, es, ep, xs, d1, d2, d3, d4, d5⟩ := key ws e
  have hl : es.size = ws.length := by
    have := congrArg List.length d3
    rw [List.length_map, Array.length_toList] at this
    rw [this]
    exact (Paired.length d4).symm
  refine ⟨es, ep, h1, h2, d1, d2, hl, fun ws' e' i hi => ?_⟩
  obtain ⟨_, _, _, es', ep', xs', _, c2, c3, c4, _⟩ := key ws' e'
  obtain ⟨rfl, rfl⟩ := dict_ep d2 c2
  have hi' : i < xs'.length := by
    have := congrArg List.length c3
    rw [List.length_map, Array.length_toList] at this
    omega
  obtain ⟨q, q1, q2, q3⟩ := pwx_get c4 (List.getElem?_eq_getElem hi')
  have ee : es'[i] = enN xs'[i] := by
    have z : es'.toList[i]? = (xs'.map enN)[i]? := by rw [c3]
    rw [Array.getElem?_toList, Array.getElem?_eq_getElem hi, List.getElem?_map, List.getElem?_eq_getElem hi'] at z
    exact Option.some.inj z
  refine ⟨q, q1, ?_, ?_⟩
  · rw [ee]
    show Value.ref _ = _
    rw [q2]
  · rw [ee]
    exact q3
end
section
variable {P : Program} {w : World} {K : PySem.W.Frag} {tg : Expr} {d : Addr} {o : Obj} {es : Array DictEntry} {ep : Nat}
theorem turn_keysX (it : Addr) (hod : o.data = .dict es ep) : Turn P w K tg (ItkX d o) [it] it (fun i h => h.IsKeyIter it d i es.size ep) where
  mem := by simp
  obj := fun i h st b hb => by
    have e : b = it := by simpa using hb
    subst e
    obtain ⟨oi, e, c, dd⟩ := st
    exact ⟨oi, e, fun v z => by rw [dd] at z; cases z⟩
  keep := fun i h h' st k => st.at fun oi e => k it (by simp) oi e
  item := by
    intro X hP hw hK hc i pins s σ H E I hf st hg
    subst hP hw hK
    obtain ⟨ws, hd, hi⟩ := hg
    obtain ⟨f0, f1, f2, f3, f4, f5⟩ := hf it (by simp)
    obtain ⟨es', ep', hgd, hs, hx, hdt, hsz, ent⟩ := dx_raw I hd
    obtain ⟨rfl, rfl⟩ := dict_ep hod hdt
    have hi' : i < es'.size := by omega
    obtain ⟨q, hq, hk, hv⟩ := ent ws hd i hi'
    refine next_key_item st hgd hdt rfl (Array.getElem?_eq_getElem hi') fun h' st' sb => ?_
    have I1 : Inv X pins σ H { s with heap := h' } := I.turned (t' := s.toks) (fun b ob hb e => (sb.2 b hb).trans e) f0 f1 f3 f4 f5
    obtain ⟨oi, e, c, dd⟩ := id st'
    refine ⟨es'[i].key, rfl, go_of (s := { s with heap := h' }) e c dd (by decide) ⟨.ref q.2.1, H, I1, hk, ⟨rfl, fun ws' e' => ?_⟩, st', fun b hb => (hf b hb).1⟩⟩
    obtain ⟨q', hq', hk', _⟩ := ent ws' e' i hi'
    rw [hk] at hk'
    have hk' : Value.ref q.2.1 = Value.ref q'.2.1 := hk'
    injection hk' with hk'
    exact ⟨q', hq', by rw [hk']⟩
  done := by
    intro X hP hw hK hc i pins s σ H E I hf st hg
    subst hP hw hK
    obtain ⟨ws, hd, hi⟩ := hg
    obtain ⟨f0, f1, f2, f3, f4, f5⟩ := hf it (by simp)
    obtain ⟨es', ep', hgd, hs, hx, hdt, hsz, ent⟩ := dx_raw I hd
    obtain ⟨rfl, rfl⟩ := dict_ep hod hdt
    exact next_key_end (I.ok.hd hc) st hgd hdt rfl (by omega) fun h' eb => ⟨rfl, I.turned (t' := s.toks) (fun b ob hb e => eb b ob hb e) f0 f1 f3 f4 f5⟩
  self := fun A i s Q E st h => by
    refine wpAny_pyIter_slot st.typeIs F.slot_dict_keyiterator_iter (wpAny_call_entry F.slot_dict_keyiterator_iter st.typeIs F.entry_dict_keyiterator_iter ?_ (F.args_dict_keyiterator_iter_1 _))
    show wpAny _ _ (ret (.ref it)) _ _ s
    exact wpAny_pure ⟨_, rfl, "dict_keyiterator", _, st.typeIs, F.slot_dict_keyiterator_next.lookup, h⟩
theorem turn_valsX (it : Addr) (hod : o.data = .dict es ep) : Turn P w K tg (ItvX d o) [it] it (fun i h => h.IsValIter it d i es.size ep) where
  mem := by simp
  obj := fun i h st b hb => by
    have e : b = it := by simpa using hb
    subst e
    obtain ⟨oi, e, c, dd⟩ := st
    exact ⟨oi, e, fun v z => by rw [dd] at z; cases z⟩
  keep := fun i h h' st k => st.at fun oi e => k it (by simp) oi e
  item := by
    intro X hP hw hK hc i pins s σ H E I hf st hg
    subst hP hw hK
    obtain ⟨ws, hd, hi⟩ := hg
    obtain ⟨f0, f1, f2, f3, f4, f5⟩ := hf it (by simp)
    obtain ⟨es', ep', hgd, hs, hx, hdt, hsz, ent⟩ := dx_raw I hd
    obtain ⟨rfl, rfl⟩ := dict_ep hod hdt
    have hi' : i < es'.size := by omega
    obtain ⟨q, hq, hk, hv⟩ := ent ws hd i hi'
    refine wpAny_pyNext_values_item_raw st ⟨o, hgd, hx, hdt⟩ hi' fun h' st' sb => ?_
    have I1 : Inv X pins σ H { s with heap := h' } := I.turned (t' := s.toks) (fun b ob hb e => (sb.2 b hb).trans e) f0 f1 f3 f4 f5
    obtain ⟨oi, e, c, dd⟩ := id st'
    refine ⟨es'[i].val, rfl, go_of (s := { s with heap := h' }) e c dd (by decide) ⟨q.2.2, H, I1, hv, ⟨rfl, fun ws' e' => ?_⟩, st', fun b hb => (hf b hb).1⟩⟩
    obtain ⟨q', hq', _, hv'⟩ := ent ws' e' i hi'
    exact ⟨q', hq', RelV.inj hv hv'⟩
  done := by
    intro X hP hw hK hc i pins s σ H E I hf st hg
    subst hP hw hK
    obtain ⟨ws, hd, hi⟩ := hg
    obtain ⟨f0, f1, f2, f3, f4, f5⟩ := hf it (by simp)
    obtain ⟨es', ep', hgd, hs, hx, hdt, hsz, ent⟩ := dx_raw I hd
    obtain ⟨rfl, rfl⟩ := dict_ep hod hdt
    exact wpAny_pyNext_values_end_raw (I.ok.hd hc) st ⟨o, hgd, hx, hdt⟩ (by omega) fun h' eb => ⟨rfl, I.turned (t' := s.toks) (fun b ob hb e => eb b ob hb e) f0 f1 f3 f4 f5⟩
  self := fun A i s Q E st h => wpAny_pyIter_valiter st h
theorem turn_itemsX {elts : List Expr} {kk : Nat} {tpos : Pos} (it : Addr) (hod : o.data = .dict es ep) :
    Turn P w K (.Tuple elts kk tpos) (ItiX d o) [it] it (fun i h => ∃ ok ov, IsItemIter h it d i es.size ep ok ov) where
  mem := by simp
  obj := fun i h st b hb => by
    have e : b = it := by simpa using hb
    subst e
    obtain ⟨ok, ov, e⟩ := st
    exact ⟨_, e, fun v z => nomatch z⟩
  keep := fun i h h' st k => let ⟨ok, ov, e⟩ := st; ⟨ok, ov, k it (by simp) _ e⟩
  item := by
    intro X hP hw hK hc i pins s σ H E I hf st hg
    subst hP hw hK
    obtain ⟨ws, hd, hi⟩ := hg
    obtain ⟨es', ep', hgd, hs, hx, hdt, hsz, ent⟩ := dx_raw I hd
    obtain ⟨rfl, rfl⟩ := dict_ep hod hdt
    have hi' : i < es'.size := by omega
    obtain ⟨q, hq, hk, hv⟩ := ent ws hd i hi'
    obtain ⟨ok, ov, he⟩ := st
    have hlt : it < s.heap.objs.size := Heap.lt_size he
    refine wpAny_pyNext_items_item_raw he ⟨o, hgd, hx, hdt⟩ hi' fun h' ho hT hz hkk => ?_
    refine ⟨_, rfl, wpAny_letOwnedTupleGo_items (s := { s with heap := h' }) ho fun h'' he' sb => ?_⟩
    have hT2 : h''.get? s.heap.objs.size = some { cls := .type "tuple", data := .seq #[es'[i].key, es'[i].val] } := (sb.2 _ (Nat.ne_of_gt hlt)).trans hT
    have new : ObjOk X.prog X.w (upd H s.heap.objs.size (.tup [.ref q.2.1, q.2.2])) h'' s.heap.objs.size (.tup [.ref q.2.1, q.2.2]) :=
      ⟨by show 2 ≤ sizeLine; decide, [es'[i].key, es'[i].val], .cons hk (.cons hv .nil), ⟨_, hT2, rfl, _, rfl⟩⟩
    have I1 : Inv X pins σ (upd H s.heap.objs.size (.tup [.ref q.2.1, q.2.2])) { s with heap := h'' } :=
      I.turnedNew (t' := s.toks) (ch := [it]) (fun b ob hb e => (sb.2 b (by simpa using hb)).trans (hkk b ob (by simpa using hb) e)) hf (Nat.le_refl _) new
    refine ⟨.ref s.heap.objs.size, _, I1, rfl, ⟨_, q.2.1, q.2.2, rfl, I.hok.fresh (Nat.le_refl _), rfl, fun ws' e' => ?_⟩, ⟨_, _, he'⟩, fun b hb => ?_⟩
    · obtain ⟨q', hq', hk', hv'⟩ := ent ws' e' i hi'
      rw [hk] at hk'
      have hk' : Value.ref q.2.1 = Value.ref q'.2.1 := hk'
      injection hk' with hk'
      exact ⟨q', hq', hk', RelV.inj hv hv'⟩
    · have e : b = it := by simpa using hb
      rw [e, upd_ne (Nat.ne_of_lt hlt)]
      exact (hf it (by simp)).1
  done := by
    intro X hP hw hK hc i pins s σ H E I hf st hg
    subst hP hw hK
    obtain ⟨ws, hd, hi⟩ := hg
    obtain ⟨f0, f1, f2, f3, f4, f5⟩ := hf it (by simp)
    obtain ⟨es', ep', hgd, hs, hx, hdt, hsz, ent⟩ := dx_raw I hd
    obtain ⟨rfl, rfl⟩ := dict_ep hod hdt
    obtain ⟨ok, ov, he⟩ := st
    exact wpAny_pyNext_items_end_raw (I.ok.hd hc) he ⟨o, hgd, hx, hdt⟩ (by omega) fun h' eb => ⟨rfl, I.turned (t' := s.toks) (fun b ob hb e => eb b ob hb e) f0 f1 f3 f4 f5⟩
  self := fun A i s Q E st h => let ⟨_, _, e⟩ := st; PySem.W.kcp_self e h
end
/-! ### for x in e: a list, a tuple, a dict -/
def iAnyX (K : PySem.W.Frag) (tl : TE) : TI := fun σ H R => tl σ H fun x H1 => (∃ b a xs, x = .ref a ∧ Ev.Sq K b H1 a xs ∧ R (Ev.Itq K b a) H1) ∨ ∃ d o ws, x = .ref d ∧ H1 d = some (DxO d o ws) ∧ R (ItkX d o) H1
def iItemsX (td : TE) : TI := fun σ H R => td σ H fun x H1 => ∃ d o ws, x = .ref d ∧ H1 d = some (DxO d o ws) ∧ R (ItiX d o) H1
def iValsX (td : TE) : TI := fun σ H R => td σ H fun x H1 => ∃ d o ws, x = .ref d ∧ H1 d = some (DxO d o ws) ∧ R (ItvX d o) H1
section
variable {X : Cx} {tg e : Expr} {td : TE} {apos cpos : Pos}
theorem pi_anyX (he : PE X e td) : PI X tg e (iAnyX X.K td) := by
  refine ⟨fun pins s σ H R I h => ?_⟩
  refine thn (he.run pins s σ H _ I h) fun u s1 ⟨x, H1, I1, rx, q1⟩ => ?_
  rcases q1 with ⟨b, a, xs, ex, hq, q⟩ | ⟨d, o, ws, ex, hd, q⟩
  · subst ex
    cases rx
    cases b
    · obtain ⟨its, rv, p, hz⟩ := I1.tuple hq
      exact wpAny_pyIter_tuple (show s1.heap.IsTuple a its.toArray from p) (pi_one (tk := s1.toks) I1 _ (turn_tuple a _) ⟨_, Heap.get?_push_size _ rfl, rfl, rfl⟩ q)
    · obtain ⟨its, rv, p, hz⟩ := I1.list hq
      exact wpAny_pyIter_list p.isList (pi_one (tk := s1.toks) I1 _ (turn_list a _) ⟨_, Heap.get?_push_size _ rfl, rfl, rfl⟩ q)
  · subst ex
    obtain rfl : u = Value.ref d := rx
    obtain ⟨es, ep, hgd, hs, hx, hdt, hsz, ent⟩ := dx_raw I1 hd
    exact iter_keys hs hgd hx hdt (pi_one (tk := s1.toks) I1 _ (turn_keysX _ hdt) ⟨_, Heap.get?_push_size _ rfl, rfl, rfl⟩ q)
theorem pi_itemsX {elts : List Expr} {kk : Nat} {tpos : Pos} (he : PE X e td) (hbase : attributeBase e "items" X.env (eval e X.env) = eval e X.env) (hline : (apos.endLine == cpos.line) = true) :
    PI X (.Tuple elts kk tpos) (.Call (.Attribute e "items" apos) [] [] cpos) (iItemsX td) := by
  refine ⟨fun pins s σ H R I h => ?_⟩
  refine wpAny_Call_method (T := "dict") (id := "dict.items") hbase rfl hline F.plainAttrs_dict F.slot_dict_items F.type_dict_items (thn (he.run pins s σ H _ I h) fun u s1 ⟨x, H1, I1, rx, d, o, ws, ex, hd, q⟩ => ?_)
  subst ex
  obtain rfl : u = Value.ref d := rx
  obtain ⟨es, ep, hgd, hs, hx, hdt, hsz, ent⟩ := dx_raw I1 hd
  refine ⟨⟨o, hgd, hx.1⟩, fun b q => by cases q; exact ⟨o, hgd, hx.2.1⟩, ?_⟩
  have I2 : Inv X pins σ H1 { s1 with heap := s1.heap.push { cls := .type "dict_items", data := .fields #[.ref d] } } := I1.kept (t' := s1.toks) fun b ob q => Heap.get?_push_of_some _ q
  have fin : wpAny (model X.prog X.w) X.A (pyIter (.ref s1.heap.objs.size)) (PIE X pins σ (.Tuple elts kk tpos) R) X.xe { s1 with heap := s1.heap.push { cls := .type "dict_items", data := .fields #[.ref d] } } := by
    refine wpAny_pyIter_items_raw (d := d) ⟨_, Heap.get?_push_size _ rfl, rfl, rfl⟩ ⟨o, Heap.get?_push_of_some _ hgd, hx, hdt⟩ (pi_one (tk := s1.toks) I2 _ (turn_itemsX _ hdt) ⟨.none, .none, ?_⟩ q)
    exact Heap.get?_push_size _ rfl
  show wpAny _ _ (callWith cpos (.builtin "dict.items") [.ref d] [] []) _ X.xe s1
  exact method_meetsIn F.slot_dict_items F.entry_dict_items rfl (PySem.evalArgs_none ⟨rfl, ⟨o, hgd, hx.1⟩, F.args_dict_items_1 _, _, meets_dict_items_raw d hs, ⟨es, ep, o, hgd, hx, hdt⟩, fin⟩)
theorem pi_valsX (he : PE X e td) (hbase : attributeBase e "values" X.env (eval e X.env) = eval e X.env) (hline : (apos.endLine == cpos.line) = true) :
    PI X tg (.Call (.Attribute e "values" apos) [] [] cpos) (iValsX td) := by
  refine ⟨fun pins s σ H R I h => ?_⟩
  refine wpAny_Call_method (T := "dict") (id := "dict.values") hbase rfl hline F.plainAttrs_dict F.slot_dict_values F.type_dict_values (thn (he.run pins s σ H _ I h) fun u s1 ⟨x, H1, I1, rx, d, o, ws, ex, hd, q⟩ => ?_)
  subst ex
  obtain rfl : u = Value.ref d := rx
  obtain ⟨es, ep, hgd, hs, hx, hdt, hsz, ent⟩ := dx_raw I1 hd
  refine ⟨⟨o, hgd, hx.1⟩, fun b q => by cases q; exact ⟨o, hgd, hx.2.1⟩, ?_⟩
  have I2 : Inv X pins σ H1 { s1 with heap := s1.heap.push { cls := .type "dict_values", data := .fields #[.ref d] } } := I1.kept (t' := s1.toks) fun b ob q => Heap.get?_push_of_some _ q
  have fin : wpAny (model X.prog X.w) X.A (pyIter (.ref s1.heap.objs.size)) (PIE X pins σ tg R) X.xe { s1 with heap := s1.heap.push { cls := .type "dict_values", data := .fields #[.ref d] } } := by
    refine wpAny_pyIter_values_raw (d := d) ⟨_, Heap.get?_push_size _ rfl, rfl, rfl⟩ ⟨o, Heap.get?_push_of_some _ hgd, hx, hdt⟩ (pi_one (tk := s1.toks) I2 _ (turn_valsX _ hdt) ⟨_, Heap.get?_push_size _ rfl, rfl, rfl⟩ q)
  show wpAny _ _ (callWith cpos (.builtin "dict.values") [.ref d] [] []) _ X.xe s1
  exact method_meetsIn F.slot_dict_values F.entry_dict_values rfl (PySem.evalArgs_none ⟨rfl, ⟨o, hgd, hx.1⟩, F.args_dict_values_1 _, _, meets_dict_values_raw d hs, ⟨es, ep, o, hgd, hx, hdt⟩, fin⟩)
end
end Ev
end

section
set_option Elab.async false
set_option linter.all false
set_option maxRecDepth 100000
/-! Ev: what it means that a piece of the evaluator tells what a piece of the text does. -/
namespace Ev
open PySem PySem.Spec PyProof.Rows L2

/-- how an exception lies -/
def RX (p : Pl) (m : Mp) (z : Nat) (H : Hp) (x : Exc) (cls : Value) (d : Option Addr) : Prop := cls = p.X x.cls ∧ match x.arg with
  | none => True
  | some v => ∃ a u, d = some a ∧ H a = some (.xd [(p.xf x.cls, u)]) ∧ RP m z H v u

def Post (K : PySem.W.Frag) (p : Pl) {α β : Type} (R : Mp → Nat → Hp → α → β → Prop) (E : XK) (h : Mem) (m : Mp) (H : Hp) (r : Res α) (Q : β → Hp → Prop) : Prop := match r with
  | .ok a h' => ∀ m' H' b, Le h m H h' m' H' → RH K p.C m' h' H' → R m' h'.size H' a b → Q b H'
  | .err x h' => ∀ m' H' cls d, Le h m H h' m' H' → RH K p.C m' h' H' → RX p m' h'.size H' x cls d → E cls d H'
  | .bad => False
section
variable {K : PySem.W.Frag} {p : Pl} {α β γ δ : Type} {R : Mp → Nat → Hp → α → β → Prop} {S : Mp → Nat → Hp → γ → δ → Prop} {E E' : XK} {h h1 : Mem} {m m1 : Mp} {H H1 : Hp} {r : Res α} {Q Q' : β → Hp → Prop}
theorem Post.shift (hp : Post K p R E h m H r Q) (l : Le h m H h1 m1 H1) : Post K p R E h1 m1 H1 r Q := by
  cases r with
  | ok a h' => exact fun m' H' b l' => hp m' H' b (l.trans l')
  | err x h' => exact fun m' H' cls d l' => hp m' H' cls d (l.trans l')
  | bad => exact hp
theorem Post.mono (hp : Post K p R E h m H r Q) (k : ∀ b H', Q b H' → Q' b H') : Post K p R E h m H r Q' := by
  cases r with
  | ok a h' => exact fun m' H' b l' rh rr => k _ _ (hp m' H' b l' rh rr)
  | err x h' => exact hp
  | bad => exact hp
theorem Post.bind {f : α → Mem → Res γ} {Q : δ → Hp → Prop} (hp : Post K p S E h m H (r.bind f) Q) :
    Post K p R E h m H r (fun b H1 => ∃ a h1 m1, Le h m H h1 m1 H1 ∧ RH K p.C m1 h1 H1 ∧ R m1 h1.size H1 a b ∧ Post K p S E h1 m1 H1 (f a h1) Q) := by
  cases r with
  | ok a h1 => exact fun m1 H1 b l rh rr => ⟨a, h1, m1, l, rh, rr, hp.shift l⟩
  | err x h' => exact hp
  | bad => exact hp
theorem Post.bind' {f : α → Mem → Res γ} {Q : δ → Hp → Prop} {Q2 : β → Hp → Prop} (hp : Post K p S E h m H (r.bind f) Q)
    (k : ∀ b H1 a h1 m1, Le h m H h1 m1 H1 → RH K p.C m1 h1 H1 → R m1 h1.size H1 a b → Post K p S E h1 m1 H1 (f a h1) Q → Q2 b H1) : Post K p R E h m H r Q2 :=
  hp.bind.mono fun b H1 ⟨a, h1, m1, l, rh, rr, q⟩ => k b H1 a h1 m1 l rh rr q
end
/-- a def's promise: what the evaluator says -/
def spF (K : PySem.W.Frag) (p : Pl) (c : Calls) (f : Nat) : Sp := fun vs H Q E => ∃ h m args, RH K p.C m h H ∧ RPs m h.size H args vs ∧ Post K p RP E h m H (c f args h) Q

/-! ### the text's tables -/
structure GT where
  tab : List Fd
  fns : List (Str × Nat)
  cls : List (Str × Nat)
  slots : List (Nat × Str × Nat)
  props : List (Nat × Str × Nat)
  meths : List (Nat × Str × Nat)
  /-- class, its __init__, how many slots -/
  inits : List (Nat × Nat × Nat)
  cints : List (Str × Int)
  /-- of an instance of the first class: is it of the second -/
  isis : List (Nat × Nat × Bool)
  free : List Str
  /-- classes with an own __iter__: the slot whose list it walks -/
  its : List (Nat × Nat)
  eqs : List Nat
  lss : List Nat
/-- a scope: the names by slot, the scope as it runs, which names' cells were made at the entry -/
structure Sc where
  N : List Str
  scope : Scope
  fn : Str → Bool
  /-- a def whose text holds lambdas or generator expressions: where its lambdas stand -/
  lam : Option (List (Nat × Nat))
  /-- the memory is told anew ahead of each statement -/
  re : Bool
structure PropAt (K : PySem.W.Frag) (C : Addr) (f : Str) (g : Addr) : Prop where
  ex : ∃ q, PySem.W.findIn K (.ref C) f = some (some (.ref q)) ∧ PySem.W.specialIn K (.ref q) "__get__" = some (some (.builtin "property.__get__")) ∧ PySem.W.takesIn K (.ref q) = some true ∧ ∃ rest, PySem.W.recIn K q "property" = some (.ref g :: rest)
/-- an own __iter__: it tells an iterator over the list in the slot i -/
def ItFn (P : Program) (w : World) (K : PySem.W.Frag) (mg : Str → Option Value) (base : Heap) (g C : Addr) (i : Nat) : Prop :=
  ∀ (A : Around) (outer : List PySem.Env) (s : Shared) (H : Hp) (a dx l : Addr) (sl : List (Option V)) (xs : List V) (Q : VK), Room 3 A → Env0 P w K mg base A outer s H → SlX.Slt H a C dx sl → sl[i]? = some (some (.ref l)) → SqL K H l xs →
    (∀ it, H it = none → s.heap.objs.size ≤ it → Q (.ref it) (upd H it (ItO l it 0))) → codeAny (model P w) A (.call (.ref g) ⟨[.ref a], []⟩) (CR (CX P w) outer P w H s Q fun _ _ _ => False) s
structure ItAt (P : Program) (w : World) (K : PySem.W.Frag) (mg : Str → Option Value) (base : Heap) (C : Addr) (i : Nat) : Prop where
  ex : ∃ g, Meth K C "__iter__" g ∧ ItFn P w K mg base g C i
structure GOk (G : GT) (p : Pl) (P : Program) (w : World) (K : PySem.W.Frag) (mg : Str → Option Value) (base : Heap) (k : Nat) : Prop where
  fn : ∀ f d, nthF G.tab f = some d → FnR P w K mg base (CX P w) (6 * k) (p.F f) (spF K p (callD G.tab k) f) ∧ PySem.W.keepIn K (.ref (p.F f)) = true
  gl : ∀ x f, (x, f) ∈ G.fns → mg x = some (.ref (p.F f))
  cl : ∀ x c, (x, c) ∈ G.cls → mg x = some (.ref (p.C c)) ∧ SlX.SCls K (p.C c)
  inj : ∀ x y b c, (x, b) ∈ G.cls → (y, c) ∈ G.cls → b ≠ c → p.C b ≠ p.C c
  sl : ∀ c f i, (c, f, i) ∈ G.slots → SlX.SCls K (p.C c) ∧ ∃ q, SlX.Slot1 K (p.C c) f q i
  pr : ∀ c f g, (c, f, g) ∈ G.props → SlX.SCls K (p.C c) ∧ PropAt K (p.C c) f (p.F g)
  me : ∀ c f g, (c, f, g) ∈ G.meths → SlX.SCls K (p.C c) ∧ Meth K (p.C c) f (p.F g)
  isi : ∀ x c, (x, c) ∈ G.cls → SlX.SIsi K (p.C c) ∧ (∀ T ∈ ["int", "bool", "str", "tuple", "list"], PySem.W.kitOne K (.ref (p.C c)) (.type T) = some false) ∧
    ∀ T ∈ ["NoneType", "bool", "int", "str", "tuple", "list", "dict"], PySem.W.kitOne K (.type T) (.ref (p.C c)) = some false
  iso : ∀ j i b, (j, i, b) ∈ G.isis → (∃ x, (x, j) ∈ G.cls) ∧ PySem.W.kitOne K (.ref (p.C j)) (.ref (p.C i)) = some b
  ini : ∀ c f n, (c, f, n) ∈ G.inits → Mk K (p.C c) (p.F f)
  cint : ∀ x i, (x, i) ∈ G.cints → ∃ t, mg x = some (.int i t)
  free : ∀ x, x ∈ G.free → mg x = none
  tbu : ∀ a b, a ∈ p.C.tb → b ∈ p.C.tb → a.at_ = b.at_ → a = b
  itr : ∀ c i, (c, i) ∈ G.its → ItAt P w K mg base (p.C c) i
  nfi : ∀ b y c, b ∈ G.eqs → (y, c) ∈ G.cls → PySem.W.notFirst K (p.C b) (.ref (p.C c)) = true
  lsi : ∀ c, c ∈ G.lss → PySem.W.findIn K (.ref (p.C c)) "__len__" = some none ∧ PySem.W.findIn K (.ref (p.C c)) "__length_hint__" = some none
/-- where lambdas and generator expressions can be made -/
structure LamAt (p : Pl) (k : Nat) (X : Cx) (ls : List (Nat × Nat)) : Prop where
  ex : ∃ c P, X.env.code = .ref c ∧ LamX.TabB X.base X.mg c P ∧ (⟨P, X.env.qual ++ "<lambda>", ls⟩ : Tb) ∈ p.C.tb
  room : Room (6 * k + 5) X.A
  fr : X.stack = X.env :: X.outer
/-- the context of a body or a comprehension's block -/
structure ECx (G : GT) (p : Pl) (k : Nat) (sc : Sc) (W : WX) (X : Cx) : Prop where
  g : GOk G p X.prog X.w X.K X.mg X.base k
  nd : X.N.Nodup
  n : X.N = sc.N
  sco : X.env.scope = sc.scope
  fn : X.fn = sc.fn
  calm : X.calm = true
  room : Room (6 * k + 3) X.A
  tk : Takes X W
  po : PassesOwn (model X.prog X.w) X.A X.env X.xe
  lam : ∀ ls, sc.lam = some ls → LamAt p k X ls

/-! ### readings -/
def teOf (K : PySem.W.Frag) (p : Pl) (W : WX) (c : Calls) (f : XE) : TE := fun σ H Q => ∃ s h m, RH K p.C m h H ∧ RE m h.size H s σ ∧ Post K p RP (fun cls d H' => W cls d σ H') h m H (f c s h) Q
def RB (m : Mp) (z : Nat) (H : Hp) (a b : Bool) : Prop := a = b
def ttOf (K : PySem.W.Frag) (p : Pl) (W : WX) (c : Calls) (f : XT) : TT := fun σ H Q => ∃ s h m, RH K p.C m h H ∧ RE m h.size H s σ ∧ Post K p RB (fun cls d H' => W cls d σ H') h m H (f c s h) Q
def taOf (K : PySem.W.Frag) (p : Pl) (W : WX) (c : Calls) (f : XA) : TA := fun σ H Q => ∃ s h m, RH K p.C m h H ∧ RE m h.size H s σ ∧ Post K p RPs (fun cls d H' => W cls d σ H') h m H (f c s h) Q
/-- an expression whose value is a list (or tuple) of these items; what stands there is not the memory's, or is locked while it is used -/
def RL (K : PySem.W.Frag) (m : Mp) (z : Nat) (H : Hp) (xs : List PV) (v : V) : Prop := ∃ a vs, v = .ref a ∧ SqL K H a vs ∧ RPs m z H xs vs
def tlOf (K : PySem.W.Frag) (p : Pl) (W : WX) (c : Calls) (f : XA) : TE := fun σ H Q => ∃ s h m, RH K p.C m h H ∧ RE m h.size H s σ ∧ Post K p (RL K) (fun cls d H' => W cls d σ H') h m H (f c s h) Q
def PostS (K : PySem.W.Frag) (p : Pl) (W : WX) (D : Ends) (h : Mem) (m : Mp) (H : Hp) (r : SR) : Prop := match r with
  | .nx s' h' => ∀ m' H' σ', Le h m H h' m' H' → RH K p.C m' h' H' → RE m' h'.size H' s' σ' → D.nx σ' H'
  | .rt v h' => ∀ m' H' v', Le h m H h' m' H' → RH K p.C m' h' H' → RP m' h'.size H' v v' → D.rt v' H'
  | .bk s' h' => ∀ m' H' σ', Le h m H h' m' H' → RH K p.C m' h' H' → RE m' h'.size H' s' σ' → D.bk σ' H'
  | .ct s' h' => ∀ m' H' σ', Le h m H h' m' H' → RH K p.C m' h' H' → RE m' h'.size H' s' σ' → D.ct σ' H'
  | .er x s' h' => ∀ m' H' σ' cls d, Le h m H h' m' H' → RH K p.C m' h' H' → RE m' h'.size H' s' σ' → RX p m' h'.size H' x cls d → W cls d σ' H'
  | .bad => False
def tsOf (K : PySem.W.Frag) (p : Pl) (W : WX) (c : Calls) (f : XS) : TS := fun D σ H => ∃ s h m, RH K p.C m h H ∧ RE m h.size H s σ ∧ PostS K p W D h m H (f c s h)
def tgOf (K : PySem.W.Frag) (p : Pl) (W : WX) (c : Calls) (f : XG) : TG := fun v σ H Q => ∃ s h m x, RH K p.C m h H ∧ RE m h.size H s σ ∧ RP m h.size H x v ∧
  Post K p RE (fun cls d H' => W cls d σ H') h m H (f c x s h) Q

section
variable (G : GT) (p : Pl) (sc : Sc)
def SE (e : Expr) (f : XE) : Prop := ∀ k W X, ECx G p k sc W X → PE X e (teOf X.K p W (callD G.tab k) f)
def SL (e : Expr) (f : XA) : Prop := ∀ k W X, ECx G p k sc W X → PE X e (tlOf X.K p W (callD G.tab k) f)
def ST (e : Expr) (f : XT) : Prop := ∀ k W X, ECx G p k sc W X → PT X e (ttOf X.K p W (callD G.tab k) f)
def SA (es : List Expr) (f : XA) : Prop := ∀ k W X, ECx G p k sc W X → PA X es (taOf X.K p W (callD G.tab k) f)
def SG (e : Expr) (f : XG) : Prop := ∀ k W X, ECx G p k sc W X → PG X e (tgOf X.K p W (callD G.tab k) f)
def SS (e : Stmt) (f : XS) : Prop := ∀ k W X, ECx G p k sc W X → PS X e (tsOf X.K p W (callD G.tab k) f)
def SSs (e : List Stmt) (f : XS) : Prop := ∀ k W X, ECx G p k sc W X → PSs X e (tsOf X.K p W (callD G.tab k) f)
end

/-! ### weakening -/
theorem PE.imp {X : Cx} {e : Expr} {t t' : TE} (h : PE X e t) (k : ∀ σ H Q, t' σ H Q → t σ H Q) : PE X e t' := ⟨fun pins s σ H Q I hq => h.run pins s σ H Q I (k σ H Q hq)⟩
theorem PT.imp {X : Cx} {e : Expr} {t t' : TT} (h : PT X e t) (k : ∀ σ H Q, t' σ H Q → t σ H Q) : PT X e t' := ⟨fun pins s σ H Q I hq => h.run pins s σ H Q I (k σ H Q hq)⟩
theorem PA.imp {X : Cx} {e : List Expr} {t t' : TA} (h : PA X e t) (k : ∀ σ H Q, t' σ H Q → t σ H Q) : PA X e t' := ⟨fun pos pins s σ H Q I hq => h.run pos pins s σ H Q I (k σ H Q hq)⟩
theorem PS.imp {X : Cx} {e : Stmt} {t t' : TS} (h : PS X e t) (k : ∀ D σ H, t' D σ H → t D σ H) : PS X e t' := ⟨fun pins s σ H D I hq => h.run pins s σ H D I (k D σ H hq)⟩
theorem PSs.imp {X : Cx} {e : List Stmt} {t t' : TS} (h : PSs X e t) (k : ∀ D σ H, t' D σ H → t D σ H) : PSs X e t' := ⟨fun pins s σ H D I hq => h.run pins s σ H D I (k D σ H hq)⟩
theorem PG.imp {X : Cx} {e : Expr} {t t' : TG} (h : PG X e t) (k : ∀ v σ H Q, t' v σ H Q → t v σ H Q) : PG X e t' := ⟨fun pins s σ H v u Q I r hq => h.run pins s σ H v u Q I r (k v σ H Q hq)⟩

/-- a bind that begins a reading -/
theorem te_bind {K : PySem.W.Frag} {p : Pl} {W : WX} {c : Calls} {f : XE} {g : PV → Mem → Res γ} {R : Mp → Nat → Hp → γ → δ → Prop} {s : Env} {h : Mem} {m : Mp} {σ : L2.St} {H : Hp} {Q : δ → Hp → Prop} {Q2 : VK} (rh : RH K p.C m h H) (re : RE m h.size H s σ)
    (hp : Post K p R (fun cls d H' => W cls d σ H') h m H ((f c s h).bind g) Q)
    (k : ∀ v H1 a h1 m1, Le h m H h1 m1 H1 → RH K p.C m1 h1 H1 → RE m1 h1.size H1 s σ → RP m1 h1.size H1 a v → Post K p R (fun cls d H' => W cls d σ H') h1 m1 H1 (g a h1) Q → Q2 v H1) : teOf K p W c f σ H Q2 :=
  ⟨s, h, m, rh, re, hp.bind' fun b H1 a h1 m1 l rh1 rr q => k b H1 a h1 m1 l rh1 (re.mono l) rr q⟩
theorem tl_bind {K : PySem.W.Frag} {p : Pl} {W : WX} {c : Calls} {f : XA} {g : List PV → Mem → Res γ} {R : Mp → Nat → Hp → γ → δ → Prop} {s : Env} {h : Mem} {m : Mp} {σ : L2.St} {H : Hp} {Q : δ → Hp → Prop} {Q2 : VK} (rh : RH K p.C m h H) (re : RE m h.size H s σ)
    (hp : Post K p R (fun cls d H' => W cls d σ H') h m H ((f c s h).bind g) Q)
    (k : ∀ v H1 a h1 m1, Le h m H h1 m1 H1 → RH K p.C m1 h1 H1 → RE m1 h1.size H1 s σ → RL K m1 h1.size H1 a v → Post K p R (fun cls d H' => W cls d σ H') h1 m1 H1 (g a h1) Q → Q2 v H1) : tlOf K p W c f σ H Q2 :=
  ⟨s, h, m, rh, re, hp.bind' fun b H1 a h1 m1 l rh1 rr q => k b H1 a h1 m1 l rh1 (re.mono l) rr q⟩
theorem ta_bind {K : PySem.W.Frag} {p : Pl} {W : WX} {c : Calls} {f : XA} {g : List PV → Mem → Res γ} {R : Mp → Nat → Hp → γ → δ → Prop} {s : Env} {h : Mem} {m : Mp} {σ : L2.St} {H : Hp} {Q : δ → Hp → Prop} {Q2 : List V → Hp → Prop} (rh : RH K p.C m h H) (re : RE m h.size H s σ)
    (hp : Post K p R (fun cls d H' => W cls d σ H') h m H ((f c s h).bind g) Q)
    (k : ∀ v H1 a h1 m1, Le h m H h1 m1 H1 → RH K p.C m1 h1 H1 → RE m1 h1.size H1 s σ → RPs m1 h1.size H1 a v → Post K p R (fun cls d H' => W cls d σ H') h1 m1 H1 (g a h1) Q → Q2 v H1) : taOf K p W c f σ H Q2 :=
  ⟨s, h, m, rh, re, hp.bind' fun b H1 a h1 m1 l rh1 rr q => k b H1 a h1 m1 l rh1 (re.mono l) rr q⟩
theorem tt_bind {K : PySem.W.Frag} {p : Pl} {W : WX} {c : Calls} {f : XT} {g : Bool → Mem → Res γ} {R : Mp → Nat → Hp → γ → δ → Prop} {s : Env} {h : Mem} {m : Mp} {σ : L2.St} {H : Hp} {Q : δ → Hp → Prop} {Q2 : Bool → Hp → Prop} (rh : RH K p.C m h H) (re : RE m h.size H s σ)
    (hp : Post K p R (fun cls d H' => W cls d σ H') h m H ((f c s h).bind g) Q)
    (k : ∀ v H1 h1 m1, Le h m H h1 m1 H1 → RH K p.C m1 h1 H1 → RE m1 h1.size H1 s σ → Post K p R (fun cls d H' => W cls d σ H') h1 m1 H1 (g v h1) Q → Q2 v H1) : ttOf K p W c f σ H Q2 :=
  ⟨s, h, m, rh, re, hp.bind' fun b H1 a h1 m1 l rh1 rr q => by
    have e : a = b := rr
    subst e
    exact k a H1 h1 m1 l rh1 (re.mono l) q⟩
end Ev
end

section
set_option Elab.async false
set_option linter.all false
set_option maxRecDepth 100000
/-! Ev: names, constants, operators, comparisons, bools. -/
namespace Ev
open PySem PySem.Spec PyProof.Rows L2

section
variable {G : GT} {p : Pl} {sc : Sc}
theorem glob_of {k : Nat} {W : WX} {X : Cx} (cx : ECx G p k sc W X) {x : Str} (h : sc.scope.names.lookup x = some .globalImplicit) : Gl X x := by
  show X.env.scope.names.lookup x = _
  rw [cx.sco]; exact h
theorem se_var {i : Nat} {x : Str} {pos : Pos} (hN : sc.N[i]? = some x) (hv : Vis sc.scope x) (hd : (x == ("__debug__" : Str)) = false) (hcd : (x == ("__classdict__" : Str)) = false) : SE G p sc (.Name x pos) (eVar i) := by
  intro k W X cx
  refine PE.imp (pe_var (i := i) (by rw [cx.n]; exact hN) (by rw [cx.sco]; exact hv) hd hcd) ?_
  rintro σ H Q ⟨s, h, m, rh, re, hp⟩
  rcases e : s[i]? with _ | _ | v <;> simp only [eVar, e] at hp
  · exact hp.elim
  · exact hp.elim
  · obtain ⟨v', e', r⟩ := re.at_ i v e
    exact ⟨v', e', hp m H v' rh.refl rh r⟩
theorem se_int {i : Int} {j : Nat} {pos : Pos} : SE G p sc (.Constant (.int i) j pos) (eC (.int i)) := fun k W X cx =>
  PE.imp pe_int fun σ H Q ⟨s, h, m, rh, re, hp⟩ => hp m H _ rh.refl rh (.int i)
theorem se_bl {i : Bool} {j : Nat} {pos : Pos} : SE G p sc (.Constant (.bool i) j pos) (eC (.bl i)) := fun k W X cx =>
  PE.imp pe_bl fun σ H Q ⟨s, h, m, rh, re, hp⟩ => hp m H _ rh.refl rh (.bl i)
theorem se_str {i : Str} {j : Nat} {pos : Pos} : SE G p sc (.Constant (.str i) j pos) (eC (.str i)) := fun k W X cx =>
  PE.imp pe_str fun σ H Q ⟨s, h, m, rh, re, hp⟩ => hp m H _ rh.refl rh (.str i)
theorem se_non {j : Nat} {pos : Pos} : SE G p sc (.Constant .none j pos) (eC .non) := fun k W X cx =>
  PE.imp pe_non fun σ H Q ⟨s, h, m, rh, re, hp⟩ => hp m H _ rh.refl rh .non
theorem se_gint {x : Str} {i : Int} {pos : Pos} (hg : sc.scope.names.lookup x = some .globalImplicit) (hi : (x, i) ∈ G.cints) (hd : (x == ("__debug__" : Str)) = false) : SE G p sc (.Name x pos) (eC (.int i)) := fun k W X cx => by
  obtain ⟨t, e⟩ := cx.g.cint x i hi
  exact PE.imp (pe_glob (v := .int i) (glob_of cx hg) e ⟨t, rfl⟩ hd) fun σ H Q ⟨s, h, m, rh, re, hp⟩ => hp m H _ rh.refl rh (.int i)

/-! ### operators by values -/
/-- two values: what the evaluator's function says -/
def rV2 (K : PySem.W.Frag) (p : Pl) (f : PV → PV → Mem → Res PV) : R2 := fun x y H Q => ∃ (a b : PV) (h : Mem) (m : Mp), RH K p.C m h H ∧ RP m h.size H a x ∧ RP m h.size H b y ∧ Post K p RP (fun _ _ _ => False) h m H (f a b h) Q
/-- no error comes from f -/
def Pure {α : Type} (r : Res α) : Prop := ∀ x h, r ≠ .err x h
theorem Post.noerr {K : PySem.W.Frag} {α β : Type} {R : Mp → Nat → Hp → α → β → Prop} {E E' : XK} {h : Mem} {m : Mp} {H : Hp} {r : Res α} {Q : β → Hp → Prop} (pr : Pure r) (hp : Post K p R E h m H r Q) : Post K p R E' h m H r Q := by
  cases r with
  | ok a h' => exact hp
  | err x h' => exact absurd rfl (pr x h')
  | bad => exact hp
theorem se_bin2 {a b : Expr} {fa fb : XE} {op : Operator} {f : PV → PV → Mem → Res PV} {pos : Pos} (pr : ∀ x y h, Pure (f x y h)) (ho : ∀ X : Cx, OpR X (binaryOp op) (rV2 X.K p f)) (ha : SE G p sc a fa) (hb : SE G p sc b fb) :
    SE G p sc (.BinOp a op b pos) (fun c s h => (fa c s h).bind fun x h1 => (fb c s h1).bind fun y h2 => f x y h2) := by
  intro k W X cx
  refine PE.imp (pe_op (ho X) (ha k W X cx) (hb k W X cx)) ?_
  rintro σ H Q ⟨s, h, m, rh, re, hp⟩
  refine te_bind rh re hp fun v H1 a h1 m1 l1 rh1 re1 ra hp1 => ?_
  refine te_bind rh1 re1 hp1 fun u H2 b h2 m2 l2 rh2 re2 rb hp2 => ?_
  exact ⟨a, b, h2, m2, rh2, ra.mono l2, rb, hp2.noerr (pr _ _ _)⟩
end
section
variable {X : Cx} {p : Pl}
theorem sub_ok : OpR X (binaryOp .Sub) (rV2 X.K p (binop .sub)) := by
  rintro pins s σ H x y v u Q I rx ry ⟨a, b, h, m, rh, ra, rb, hp⟩
  cases a <;> first | exact hp.elim | skip
  cases b <;> first | exact hp.elim | skip
  rename_i i j
  rw [ra.int_inv] at rx
  rw [rb.int_inv] at ry
  exact op_sub pins s σ H _ _ v u Q I rx ry ⟨i, j, rfl, rfl, hp m H _ rh.refl rh (.int _)⟩
theorem cnd_post {K : PySem.W.Frag} {α β : Type} {R : Mp → Nat → Hp → α → β → Prop} {E : XK} {h : Mem} {m : Mp} {H : Hp} {r : Res α} {b : Bool} {Q : β → Hp → Prop} (hp : Post K p R E h m H (cnd b r .bad) Q) : b = true ∧ Post K p R E h m H r Q := by
  cases b with
  | true => exact ⟨rfl, hp⟩
  | false => exact hp.elim
theorem fdiv_ok : OpR X (binaryOp .FloorDiv) (rV2 X.K p (binop .fdiv)) := by
  rintro pins s σ H x y v u Q I rx ry ⟨a, b, h, m, rh, ra, rb, hp⟩
  cases a <;> first | exact hp.elim | skip
  cases b <;> first | exact hp.elim | skip
  rename_i i j
  rw [ra.int_inv] at rx
  rw [rb.int_inv] at ry
  obtain ⟨c1, hp⟩ := cnd_post hp
  obtain ⟨c2, hp⟩ := cnd_post hp
  exact op_fdivW pins s σ H _ _ v u Q I rx ry ⟨i, j, rfl, rfl, ⟨ilt_iff.mp c1, blt_iff.mp c2⟩, hp m H _ rh.refl rh (.int _)⟩
theorem mod_ok : OpR X (binaryOp .Mod) (rV2 X.K p (binop .mod)) := by
  rintro pins s σ H x y v u Q I rx ry ⟨a, b, h, m, rh, ra, rb, hp⟩
  cases a <;> first | exact hp.elim | skip
  cases b <;> first | exact hp.elim | skip
  rename_i i j
  rw [ra.int_inv] at rx
  rw [rb.int_inv] at ry
  obtain ⟨c1, hp⟩ := cnd_post hp
  exact op_mod pins s σ H _ _ v u Q I rx ry ⟨i, j, rfl, rfl, ilt_iff.mp c1, hp m H _ rh.refl rh (.int _)⟩
theorem pow_ok : OpR X (binaryOp .Pow) (rV2 X.K p (binop .pow)) := by
  rintro pins s σ H x y v u Q I rx ry ⟨a, b, h, m, rh, ra, rb, hp⟩
  cases a <;> first | exact hp.elim | skip
  cases b <;> first | exact hp.elim | skip
  rename_i i j
  rw [ra.int_inv] at rx
  rw [rb.int_inv] at ry
  obtain ⟨c1, hp⟩ := cnd_post hp
  obtain ⟨c2, hp⟩ := cnd_post hp
  obtain ⟨c3, hp⟩ := cnd_post hp
  rw [ile_eq, decide_eq_true_iff] at c1 c2
  have c3 := lt64_iff.mp c3
  exact op_pow pins s σ H _ _ v u Q I rx ry ⟨i, j, rfl, rfl, ⟨c1, by omega, by omega⟩, hp m H _ rh.refl rh (.int _)⟩
theorem listOf_ref {h : Mem} {n : Nat} {xs : List PV} (e : listOf h (.ref n) = some xs) : h.get n = some (.lst xs) := by
  have e : (match h.get n with
    | some (.lst xs) => some xs
    | _ => none) = some xs := e
  split at e
  · rename_i ys eq
    cases e
    exact eq
  · cases e
theorem listOf_is {h : Mem} {x : PV} {xs : List PV} (e : listOf h x = some xs) : ∃ n, x = .ref n := by
  cases x <;> first | exact ⟨_, rfl⟩ | cases e
/-- the answer is a new tuple -/
theorem post_newT {K : PySem.W.Frag} {E : XK} {h : Mem} {m : Mp} {H : Hp} {xs : List PV} {vs : List V} {Q : VK} {q : Addr} (rh : RH K p.C m h H) (hq : H q = none) (rs : RPs m h.size H xs vs)
    (hp : Post K p RP E h m H (.ok (.tup xs) h) Q) : Q (.ref q) (upd H q (.tup vs)) := by
  obtain ⟨l, rh'⟩ := rh.tmp (u := .tup vs) hq
  exact hp _ _ _ l rh' (.tup upd_same (rs.mono l))
/-- the answer is a new list -/
theorem post_newL {K : PySem.W.Frag} {E : XK} {h : Mem} {m : Mp} {H : Hp} {xs : List PV} {vs : List V} {Q : VK} {q : Addr} (rh : RH K p.C m h H) (hq : H q = none) (rs : RPs m h.size H xs vs)
    (hp : Post K p RP E h m H (.ok (.ref h.size) (h.push (.lst xs))) Q) : Q (.ref q) (upd H q (.lst vs)) := by
  obtain ⟨l, rh'⟩ := rh.newL hq rs
  have r : RP (m.ext h.size q q) (h.push (.lst xs)).size (upd H q (.lst vs)) (.ref h.size) (.ref ((m.ext h.size q q).a h.size)) := .ref (by simp)
  rw [Mp.ext_a] at r
  exact hp _ _ _ l rh' r
theorem mul_ok : OpR X (binaryOp .Mult) (rV2 X.K p (binop .mul)) := by
  rintro pins s σ H x y v u Q I rx ry ⟨a, b, h, m, rh, ra, rb, hp⟩
  cases b <;> first | exact hp.elim | skip
  rename_i j
  rw [rb.int_inv] at ry
  cases a <;> first | exact hp.elim | skip
  · rename_i i
    rw [ra.int_inv] at rx
    replace hp : Post X.K p RP (fun _ _ _ => False) h m H (cnd (lt64 i) (.ok (.int (i * j)) h) (cnd (lt64 j) (.ok (.int (i * j)) h) .bad)) Q := hp
    have fin : ∀ (c : CMul i j), Post X.K p RP (fun _ _ _ => False) h m H (.ok (.int (i * j)) h) Q → wpAny (model X.prog X.w) X.A (binaryOp .Mult v u) (EP X pins σ Q) X.xe s := fun c hp =>
      op_mul pins s σ H _ _ v u Q I rx ry ⟨i, j, rfl, rfl, c, hp m H _ rh.refl rh (.int _)⟩
    cases e : lt64 i with
    | true =>
      rw [e] at hp
      exact fin (.inl (lt64_iff.mp e)) hp
    | false =>
      rw [e] at hp
      obtain ⟨c, hp⟩ := cnd_post hp
      exact fin (.inr (lt64_iff.mp c)) hp
  · rename_i n
    replace hp : Post X.K p RP (fun _ _ _ => False) h m H (match listOf h (.ref n) with
      | some xs => cnd (ile 0 j) (cnd (ilt j 65536) (cnd (fitsN (xs.length * j.toNat)) (.ok (.ref h.size) (h.push (.lst (List.replicate j.toNat xs).flatten))) .bad) .bad) .bad
      | none => .bad) Q := hp
    cases e0 : listOf h (.ref n) with
    | none => rw [e0] at hp; exact hp.elim
    | some xs =>
      rw [e0] at hp
      have e := listOf_ref e0
      obtain ⟨c1, hp⟩ := cnd_post hp
      obtain ⟨c2, hp⟩ := cnd_post hp
      obtain ⟨c3, hp⟩ := cnd_post hp
      rw [ile_eq, decide_eq_true_iff] at c1
      rw [ilt_iff] at c2
      have c3 : xs.length * j.toNat ≤ 65536 := by unfold fitsN at c3; rwa [Nat.ble_eq] at c3
      obtain ⟨d, vs, ev, rs⟩ := rh.obj n _ e
      rw [ra.ref_inv.1] at rx
      have hl := rs.length
      have hsl : sizeLine = 16777216 := by decide
      have hbd : vs.length * j.toNat ≤ sizeLine := by rw [hl, hsl]; omega
      refine op_rep pins s σ H _ _ v u Q I rx ry ⟨m.a n, j, vs, rfl, rfl, ev, by omega, by omega, hbd, fun q hq => ?_⟩
      have rr : RPs m h.size H (List.replicate j.toNat xs).flatten (List.replicate j.toNat vs).flatten := by
        generalize j.toNat = jn
        induction jn with
        | zero => exact .nil
        | succ jn ih =>
          rw [List.replicate_succ, List.replicate_succ, List.flatten_cons, List.flatten_cons]
          exact rs.append ih
      exact post_newL rh hq rr hp
theorem listOf_str {h : Mem} {x : Str} : listOf h (.str x) = none := rfl
theorem add_ok : OpR X (binaryOp .Add) (rV2 X.K p (binop .add)) := by
  rintro pins s σ H x y v u Q I rx ry ⟨a, b, h, m, rh, ra, rb, hp⟩
  cases a <;> first | exact hp.elim | skip
  · rename_i i
    cases b <;> first | exact hp.elim | skip
    rename_i j
    rw [ra.int_inv] at rx
    rw [rb.int_inv] at ry
    exact op_add pins s σ H _ _ v u Q I rx ry ⟨i, j, rfl, rfl, hp m H _ rh.refl rh (.int _)⟩
  · rename_i i
    cases b <;> first | exact hp.elim | skip
    rename_i j
    rw [ra.str_inv] at rx
    rw [rb.str_inv] at ry
    obtain ⟨c1, hp⟩ := cnd_post hp
    have hsl : sizeLine = 16777216 := by decide
    have c1 : i.length + j.length ≤ 65536 := by unfold fitsN at c1; rwa [Nat.ble_eq] at c1
    exact op_add_str pins s σ H _ _ v u Q I rx ry ⟨i, j, rfl, rfl, by omega, hp m H _ rh.refl rh (.str _)⟩
  · rename_i xs
    cases b <;> first | exact hp.elim | skip
    rename_i ys
    obtain ⟨p1, vs, rfl, e1, r1⟩ := ra.tup_inv
    obtain ⟨p2, ws, rfl, e2, r2⟩ := rb.tup_inv
    obtain ⟨c1, hp⟩ := cnd_post hp
    have c1 := fits_le c1
    rw [List.length_append] at c1
    refine op_catA pins s σ H _ _ v u Q I rx ry ⟨p1, p2, vs, ws, rfl, rfl, SqT.of e1, SqT.of e2, by rw [r1.length, r2.length]; exact c1, ?_⟩
    refine ⟨fun z => ?_, fun _ z => ?_, fun _ _ q hq => post_newT rh hq (r1.append r2) hp⟩
    · subst z
      cases r1
      exact hp m H _ rh.refl rh (.tup e2 r2)
    · subst z
      cases r2
      rw [List.append_nil] at hp
      exact hp m H _ rh.refl rh (.tup e1 r1)
  · rename_i n
    replace hp : Post X.K p RP (fun _ _ _ => False) h m H (match listOf h (.ref n) with
      | some xs => match listOf h b with
        | some ys => cnd (fits (xs ++ ys)) (.ok (.ref h.size) (h.push (.lst (xs ++ ys)))) .bad
        | none => .bad
      | none => .bad) Q := hp
    cases e0 : listOf h (.ref n) with
    | none => rw [e0] at hp; exact hp.elim
    | some xs =>
      rw [e0] at hp
      cases e1 : listOf h b with
      | none =>
        simp only [e1] at hp
        exact hp.elim
      | some ys =>
        simp only [e1] at hp
        obtain ⟨n', rfl⟩ := listOf_is e1
        obtain ⟨c1, hp⟩ := cnd_post hp
        have c1 := fits_le c1
        rw [List.length_append] at c1
        obtain ⟨_, vs, ev, rs⟩ := rh.obj n _ (listOf_ref e0)
        obtain ⟨_, ws, ew, rs'⟩ := rh.obj n' _ (listOf_ref e1)
        rw [ra.ref_inv.1] at rx
        rw [rb.ref_inv.1] at ry
        refine op_cat pins s σ H _ _ v u Q I rx ry ⟨m.a n, m.a n', vs, ws, rfl, rfl, ev, ew, by rw [rs.length, rs'.length]; exact c1, fun q hq => ?_⟩
        exact post_newL rh hq (rs.append rs') hp
end
end Ev
end

section
set_option Elab.async false
set_option linter.all false
set_option maxRecDepth 100000
/-! Ev: comparisons, tests. -/
namespace Ev
open PySem PySem.Spec PyProof.Rows L2

section
variable {K : PySem.W.Frag} {p : Pl} {m : Mp} {h : Mem} {H : Hp}
theorem toD_go {f : PV → Option PyData} {z : Nat} (ih : ∀ x v d, RP m z H x v → f x = some d → Dp K H v d) : ∀ {xs : List PV} {vs : List V} {ds : List PyData}, RPs m z H xs vs → toD.go f xs = some ds → DpAll K H vs ds
  | _, _, ds, .nil, e => by
    have e : some [] = some ds := e
    cases e
    exact .nil
  | x :: xs, _, ds, .cons r rs, e => by
    unfold toD.go at e
    cases e1 : f x with
    | none => rw [e1] at e; cases e
    | some d =>
      rw [e1] at e
      cases e2 : toD.go f xs with
      | none => simp only [e2] at e; cases e
      | some es =>
        simp only [e2] at e
        cases e
        exact .cons (ih _ _ _ r e1) (toD_go ih rs e2)
theorem toD_dp (rh : RH K p.C m h H) : ∀ (n : Nat) (x : PV) (v : V) (d : PyData), RP m h.size H x v → toD h n x = some d → Dp K H v d
  | 0, _, _, _, _, e => by cases e
  | n + 1, x, v, d, r, e => by
    have ih := toD_dp rh n
    cases x with
    | non => rw [r.non_inv]; cases e; exact .non
    | bl b => rw [r.bl_inv]; cases e; exact .bl b
    | int i => rw [r.int_inv]; cases e; exact .int i
    | str s => rw [r.str_inv]; cases e; exact .str s
    | tup xs =>
      obtain ⟨a, vs, rfl, ea, rs⟩ := r.tup_inv
      have e : (toD.go (toD h n) xs).map PyData.tuple = some d := e
      cases e1 : toD.go (toD h n) xs with
      | none => rw [e1] at e; cases e
      | some ds =>
        rw [e1] at e
        cases e
        exact .tup (SqT.of ea) (toD_go ih rs e1)
    | ref i =>
      rw [r.ref_inv.1]
      have e : (match h.get i with
        | some (.lst xs) => (toD.go (toD h n) xs).map PyData.list
        | some (.scr xs) => (toD.go (toD h n) xs).map PyData.list
        | _ => none) = some d := e
      have fin : ∀ xs, h.get i = some (.lst xs) ∨ h.get i = some (.scr xs) → (toD.go (toD h n) xs).map PyData.list = some d → Dp K H (.ref (m.a i)) d := fun xs hx e => by
        obtain ⟨vs, hs, rs⟩ := rh.sqL hx
        cases e1 : toD.go (toD h n) xs with
        | none => rw [e1] at e; cases e
        | some ds =>
          rw [e1] at e
          cases e
          exact .lst hs (toD_go ih rs e1)
      split at e
      · rename_i xs hx; exact fin xs (.inl hx) e
      · rename_i xs hx; exact fin xs (.inr hx) e
      · cases e
end
section
variable {X : Cx} {p : Pl}
/-- a comparison by what the evaluator says -/
def rC (K : PySem.W.Frag) (p : Pl) (f : PV → PV → Mem → Option Bool) : R2 := fun x y H Q => ∃ (a b : PV) (h : Mem) (m : Mp) (c : Bool), RH K p.C m h H ∧ RP m h.size H a x ∧ RP m h.size H b y ∧ f a b h = some c ∧ Q (.bl c) H
theorem eqv_some {h : Mem} {x y : PV} {c : Bool} (e : eqv h x y = some c) : ∃ d d', toD h 8 x = some d ∧ toD h 8 y = some d' ∧ SeqAt.shaped d = true ∧ SeqAt.shaped d' = true ∧ c = PyData.eqv d d' := by
  unfold eqv at e
  cases e1 : toD h 8 x with
  | none => rw [e1] at e; cases e
  | some d =>
    cases e2 : toD h 8 y with
    | none => rw [e1] at e; simp only [e2] at e; cases e
    | some d' =>
      rw [e1] at e
      simp only [e2] at e
      cases s1 : SeqAt.shaped d with
      | false => rw [s1] at e; cases e
      | true =>
        cases s2 : SeqAt.shaped d' with
        | false => rw [s1, s2] at e; cases e
        | true =>
          rw [s1, s2] at e
          exact ⟨d, d', rfl, rfl, s1, s2, (Option.some.inj e).symm⟩
theorem eq_ok (hu : X.A.units + 64 < cLine) : OpR X (compareOp .Eq) (rC X.K p (cmpop .eq)) := by
  rintro pins s σ H x y v u Q I rx ry ⟨a, b, h, m, c, rh, ra, rb, e, q⟩
  obtain ⟨d, d', e1, e2, s1, s2, rfl⟩ := eqv_some e
  exact op_eqD hu pins s σ H x y v u Q I rx ry ⟨d, d', toD_dp rh _ _ _ _ ra e1, toD_dp rh _ _ _ _ rb e2, s1, s2, q⟩
theorem onot_some {o : Option Bool} {c : Bool} (e : onot o = some c) : ∃ b, o = some b ∧ c = !b := by
  cases o with
  | none => cases e
  | some b =>
    have e : some (bnot b) = some c := e
    rw [bnot_eq] at e
    exact ⟨b, rfl, (Option.some.inj e).symm⟩
theorem ne_ok (hu : X.A.units + 64 < cLine) : OpR X (compareOp .NotEq) (rC X.K p (cmpop .ne)) := by
  rintro pins s σ H x y v u Q I rx ry ⟨a, b, h, m, c, rh, ra, rb, e, q⟩
  obtain ⟨c', e', rfl⟩ := onot_some e
  obtain ⟨d, d', e1, e2, s1, s2, rfl⟩ := eqv_some e'
  exact op_neD hu pins s σ H x y v u Q I rx ry ⟨d, d', toD_dp rh _ _ _ _ ra e1, toD_dp rh _ _ _ _ rb e2, s1, s2, q⟩
theorem icmp_some {f : Int → Int → Bool} {x y : PV} {c : Bool} (e : icmp f x y = some c) : ∃ i j, x = .int i ∧ y = .int j ∧ c = f i j := by
  cases x <;> first | cases e | skip
  rename_i i
  cases y <;> first | cases e | skip
  rename_i j
  exact ⟨i, j, rfl, rfl, rfl⟩
theorem intsOf_ok {m : Mp} {z : Nat} {H : Hp} : ∀ {xs : List PV} {vs : List V} {is : List Int}, RPs m z H xs vs → intsOf xs = some is → vs = is.map V.int
  | [], _, is, .nil, e => by cases e; rfl
  | x :: xs, _, is, .cons r rs, e => by
    cases x <;> first | cases e | skip
    rename_i i
    cases e1 : intsOf xs with
    | none => simp only [intsOf, e1] at e; cases e
    | some js =>
      simp only [intsOf, e1] at e
      cases e
      rw [r.int_inv, intsOf_ok rs e1]
      rfl
theorem lt_ok (hu : X.A.units < cLine) : OpR X (compareOp .Lt) (rC X.K p (cmpop .lt)) := by
  rintro pins s σ H x y v u Q I rx ry ⟨a, b, h, m, c, rh, ra, rb, e, q⟩
  replace e : ltV a b = some c := e
  cases a <;> first | (cases e; done) | skip
  · rename_i i0
    replace e : icmp ilt (.int i0) b = some c := e
    obtain ⟨i, j, e1, rfl, rfl⟩ := icmp_some e
    cases e1
    rw [ra.int_inv] at rx
    rw [rb.int_inv] at ry
    exact op_lt pins s σ H _ _ v u Q I rx ry ⟨i0, j, rfl, rfl, by show Q (V.bl (decide (i0 < j))) H; rw [← ilt_eq]; exact q⟩
  · rename_i xs
    cases b <;> first | (cases e; done) | skip
    rename_i ys
    replace e : (match intsOf xs with
      | some is => match intsOf ys with
        | some js => some (HT.lexLt is js)
        | none => none
      | none => none) = some c := e
    cases e1 : intsOf xs with
    | none => rw [e1] at e; cases e
    | some is =>
      rw [e1] at e
      cases e2 : intsOf ys with
      | none => simp only [e2] at e; cases e
      | some js =>
        simp only [e2] at e
        cases e
        obtain ⟨a1, vs, rfl, ea, rs⟩ := ra.tup_inv
        obtain ⟨a2, ws, rfl, eb, rs'⟩ := rb.tup_inv
        rw [intsOf_ok rs e1] at ea
        rw [intsOf_ok rs' e2] at eb
        exact op_ltT hu pins s σ H _ _ v u Q I rx ry ⟨a1, a2, is, js, rfl, rfl, SqT.of ea, SqT.of eb, q⟩
theorem le_ok : OpR X (compareOp .LtE) (rC X.K p (cmpop .le)) := by
  rintro pins s σ H x y v u Q I rx ry ⟨a, b, h, m, c, rh, ra, rb, e, q⟩
  obtain ⟨i, j, rfl, rfl, rfl⟩ := icmp_some e
  rw [ra.int_inv] at rx
  rw [rb.int_inv] at ry
  exact op_le pins s σ H _ _ v u Q I rx ry ⟨i, j, rfl, rfl, by show Q (V.bl (decide (i ≤ j))) H; rw [← ile_eq]; exact q⟩
theorem gt_ok : OpR X (compareOp .Gt) (rC X.K p (cmpop .gt)) := by
  rintro pins s σ H x y v u Q I rx ry ⟨a, b, h, m, c, rh, ra, rb, e, q⟩
  obtain ⟨i, j, rfl, rfl, rfl⟩ := icmp_some e
  rw [ra.int_inv] at rx
  rw [rb.int_inv] at ry
  exact op_gt pins s σ H _ _ v u Q I rx ry ⟨i, j, rfl, rfl, by show Q (V.bl (decide (j < i))) H; rw [← ilt_eq]; exact q⟩
theorem ge_ok : OpR X (compareOp .GtE) (rC X.K p (cmpop .ge)) := by
  rintro pins s σ H x y v u Q I rx ry ⟨a, b, h, m, c, rh, ra, rb, e, q⟩
  obtain ⟨i, j, rfl, rfl, rfl⟩ := icmp_some e
  rw [ra.int_inv] at rx
  rw [rb.int_inv] at ry
  exact op_ge pins s σ H _ _ v u Q I rx ry ⟨i, j, rfl, rfl, by show Q (V.bl (decide (j ≤ i))) H; rw [← ile_eq]; exact q⟩
theorem RP.non_iff {m : Mp} {z : Nat} {H : Hp} {x : PV} {v : V} (r : RP m z H x v) : isNon x = decide (v = .non) := by
  cases r <;> simp [isNon]
theorem is_ok : OpR X (compareOp .Is) (rC X.K p (cmpop .is_)) := by
  rintro pins s σ H x y v u Q I rx ry ⟨a, b, h, m, c, rh, ra, rb, e, q⟩
  replace e : isV a b = some c := e
  cases b <;> first | (cases e; done) | skip
  · rw [rb.non_inv] at ry
    have : c = decide (x = .non) := by
      rw [← ra.non_iff]
      exact (Option.some.inj e).symm
    subst this
    exact op_isN pins s σ H _ _ v u Q I rx ry ⟨rfl, q⟩
  · rename_i b
    cases a <;> first | (cases e; done) | skip
    rename_i a
    rw [ra.bl_inv] at rx
    rw [rb.bl_inv] at ry
    have : c = decide (a = b) := by
      rw [← beqB_eq]
      exact (Option.some.inj e).symm
    subst this
    exact op_is_bl pins s σ H _ _ v u Q I rx ry ⟨a, b, rfl, rfl, q⟩
theorem isnot_ok : OpR X (compareOp .IsNot) (rC X.K p (cmpop .isnot)) := by
  rintro pins s σ H x y v u Q I rx ry ⟨a, b, h, m, c, rh, ra, rb, e, q⟩
  obtain ⟨c', e', rfl⟩ := onot_some e
  clear e
  have e : isV a b = some c' := e'
  clear e'
  cases b <;> first | (cases e; done) | skip
  · rw [rb.non_inv] at ry
    have : c' = decide (x = .non) := by
      rw [← ra.non_iff]
      exact (Option.some.inj e).symm
    subst this
    exact op_notN pins s σ H _ _ v u Q I rx ry ⟨rfl, q⟩
  · rename_i b
    cases a <;> first | (cases e; done) | skip
    rename_i a
    rw [ra.bl_inv] at rx
    rw [rb.bl_inv] at ry
    have : c' = decide (a = b) := by
      rw [← beqB_eq]
      exact (Option.some.inj e).symm
    subst this
    exact op_isnot_bl pins s σ H _ _ v u Q I rx ry ⟨a, b, rfl, rfl, q⟩
end

/-! ### dicts: what is under a key -/
section
variable {m : Mp} {z : Nat} {H : Hp}
end
section
variable {X : Cx} {p : Pl}
theorem inL_some {h : Mem} {x : PV} {xs : List PV} {c : Bool} (e : inL h x xs = some c) : ∃ d ds, toD h 8 x = some d ∧ toD.go (toD h 7) xs = some ds ∧ SeqAt.shaped d = true ∧ SeqAt.shaped (.list ds) = true ∧ c = ds.any fun z => PyData.eqv z d := by
  unfold inL at e
  cases e1 : toD h 8 x with
  | none => rw [e1] at e; cases e
  | some d =>
    cases e2 : toD.go (toD h 7) xs with
    | none => rw [e1] at e; simp only [e2] at e; cases e
    | some ds =>
      rw [e1] at e
      simp only [e2] at e
      cases s1 : SeqAt.shaped d with
      | false => rw [s1] at e; cases e
      | true =>
        cases s2 : SeqAt.shaped (.list ds) with
        | false => rw [s1, s2] at e; cases e
        | true =>
          rw [s1, s2] at e
          exact ⟨d, ds, rfl, rfl, s1, s2, (Option.some.inj e).symm⟩
theorem in_core (hu : X.A.units + 65 < cLine) {pins : List (Addr × Obj)} {s : Shared} {σ : L2.St} {H : Hp} {x y : V} {v u : Value} {a b : PV} {h : Mem} {m : Mp} {c : Bool} {neg : Bool} {Q : VK} (I : L2.Inv X pins σ H s) (rx : RelV x v) (ry : RelV y u)
    (rh : RH X.K p.C m h H) (ra : RP m h.size H a x) (rb : RP m h.size H b y) (e : inV h a b = some c) (q : Q (.bl (if neg then !c else c)) H) : wpAny (model X.prog X.w) X.A (compareOp (if neg then .NotIn else .In) v u) (EP X pins σ Q) X.xe s := by
  cases b <;> first | (cases e; done) | skip
  rename_i i
  rw [rb.ref_inv.1] at ry
  replace e : (match h.get i with
    | some (.lst xs) => inL h a xs
    | some (.dic kvs) => inD a kvs
    | _ => none) = some c := e
  split at e
  · rename_i xs hx
    obtain ⟨d, ds, e1, e2, s1, s2, rfl⟩ := inL_some e
    obtain ⟨_, vs, ev, rs⟩ := rh.obj i _ hx
    have dd : Dp X.K H (.ref (m.a i)) (.list ds) := .lst (SqL.of ev) (toD_go (toD_dp rh 7) rs e2)
    cases neg with
    | false => exact op_inD hu pins s σ H _ _ v u Q I rx ry ⟨d, ds, toD_dp rh _ _ _ _ ra e1, dd, s1, s2, q⟩
    | true => exact op_notInD hu pins s σ H _ _ v u Q I rx ry ⟨d, ds, toD_dp rh _ _ _ _ ra e1, dd, s1, s2, q⟩
  · rename_i kvs hx
    have ke : (a = .non ∧ noneFree kvs = true ∧ c = false) ∨ cnd (isTKey a) (some (match dlook a kvs with | some _ => true | none => false)) none = some c := by
      unfold inD at e
      cases a <;> first | exact .inr e | skip
      cases nf : noneFree kvs with
      | true => rw [nf] at e; cases e; exact .inl ⟨rfl, rfl, rfl⟩
      | false => rw [nf] at e; cases e
    rcases ke with ⟨ea, nf, ec⟩ | e
    · subst ea ec
      rw [ra.non_inv] at rx
      obtain rfl : v = Value.none := rx
      obtain rfl : u = Value.ref (m.a i) := ry
      cases neg with
      | false => exact kd_inNone (by omega) I rh hx nf fun s' I' => ⟨.bl false, H, I', rfl, q⟩
      | true => exact kd_notInNone (by omega) I rh hx nf fun s' I' => ⟨.bl true, H, I', rfl, q⟩
    cases et : isTKey a with
    | false => rw [et] at e; cases e
    | true =>
      rw [et] at e
      obtain ⟨ks, ek⟩ := isTKey_ok et
      obtain ⟨bb, rfl⟩ := key_ref ra ek
      have hc : c = (dlook a kvs).isSome := by
        have e : some (match dlook a kvs with | some _ => true | none => false) = some c := e
        cases e
        cases dlook a kvs <;> rfl
      subst hc
      obtain rfl : u = Value.ref (m.a i) := ry
      obtain rfl : v = Value.ref bb := rx
      cases neg with
      | false => exact kd_in (by omega) I rh hx ra ek fun s' I' => ⟨.bl (dlook a kvs).isSome, H, I', rfl, q⟩
      | true => exact kd_notIn (by omega) I rh hx ra ek fun s' I' => ⟨.bl (!(dlook a kvs).isSome), H, I', rfl, q⟩
  · cases e
theorem in_ok (hu : X.A.units + 65 < cLine) : OpR X (compareOp .In) (rC X.K p (cmpop .in_)) := by
  rintro pins s σ H x y v u Q I rx ry ⟨a, b, h, m, c, rh, ra, rb, e, q⟩
  exact in_core (p := p) (neg := false) hu I rx ry rh ra rb e q
theorem notin_ok (hu : X.A.units + 65 < cLine) : OpR X (compareOp .NotIn) (rC X.K p (cmpop .notin)) := by
  rintro pins s σ H x y v u Q I rx ry ⟨a, b, h, m, c, rh, ra, rb, e, q⟩
  obtain ⟨c', e', rfl⟩ := onot_some e
  exact in_core (p := p) (neg := true) hu I rx ry rh ra rb e' q
/-- each operator of comparisons -/
def coOf : CmpOp → Option CO
  | .Eq => some .eq
  | .NotEq => some .ne
  | .Lt => some .lt
  | .LtE => some .le
  | .Gt => some .gt
  | .GtE => some .ge
  | .Is => some .is_
  | .IsNot => some .isnot
  | .In => some .in_
  | .NotIn => some .notin
theorem cmp_ok (hu : X.A.units + 65 < cLine) {op : CmpOp} {o : CO} (e : coOf op = some o) : OpR X (compareOp op) (rC X.K p (cmpop o)) := by
  cases op <;> cases e
  · exact eq_ok (by omega)
  · exact ne_ok (by omega)
  · exact lt_ok (by omega)
  · exact le_ok
  · exact gt_ok
  · exact ge_ok
  · exact is_ok
  · exact isnot_ok
  · exact in_ok hu
  · exact notin_ok hu
end
end Ev
end

section
set_option Elab.async false
set_option linter.all false
set_option maxRecDepth 100000
/-! Ev: comparisons, bools, displays, subscripts. -/
namespace Ev
open PySem PySem.Spec PyProof.Rows L2

section
variable {G : GT} {p : Pl} {sc : Sc} {a b d : Expr} {fa fb fd : XE} {pos : Pos}
theorem hu_cx {k : Nat} {W : WX} {X : Cx} (cx : ECx G p k sc W X) : X.A.units + 200 < cLine := by
  have := cx.room.un
  omega
theorem ofO_post {K : PySem.W.Frag} {α β : Type} {R : Mp → Nat → Hp → α → β → Prop} {E : XK} {h h' : Mem} {m : Mp} {H : Hp} {o : Option α} {Q : β → Hp → Prop} (hp : Post K p R E h m H (ofO o h') Q) : ∃ c, o = some c ∧ Post K p R E h m H (.ok c h') Q := by
  cases o with
  | none => exact hp.elim
  | some c => exact ⟨c, rfl, hp⟩
theorem map_bl {o : Option Bool} {x : PV} (e : o.map PV.bl = some x) : ∃ c, o = some c ∧ x = .bl c := by
  cases o with
  | none => cases e
  | some c => cases e; exact ⟨c, rfl, rfl⟩
/-- two values compared -/
theorem cmp_read {K : PySem.W.Frag} {W : WX} {c : Calls} {o : CO} {σ : L2.St} {H : Hp} {s : Env} {h : Mem} {m : Mp} {Q : VK} (rh : RH K p.C m h H) (re : RE m h.size H s σ)
    (hp : Post K p RP (fun cls d H' => W cls d σ H') h m H (eCmp o fa fb c s h) Q) : tOp (rC K p (cmpop o)) (teOf K p W c fa) (teOf K p W c fb) σ H Q := by
  refine te_bind rh re hp fun v H1 x h1 m1 l1 rh1 re1 ra hp1 => ?_
  refine te_bind rh1 re1 hp1 fun u H2 y h2 m2 l2 rh2 re2 rb hp2 => ?_
  obtain ⟨w, e0, hp2⟩ := ofO_post hp2
  obtain ⟨c, e, rfl⟩ := map_bl e0
  exact ⟨x, y, h2, m2, c, rh2, ra.mono l2, rb, e, hp2 m2 H2 _ rh2.refl rh2 (.bl c)⟩
theorem se_cmp {op : CmpOp} {o : CO} (eo : coOf op = some o) (ha : SE G p sc a fa) (hb : SE G p sc b fb) (hm : behindInMarks op b = false) : SE G p sc (.Compare a [op] [b] pos) (eCmp o fa fb) := fun k W X cx =>
  PE.imp (pe_cmpR (cmp_ok (p := p) (by have := hu_cx cx; omega) eo) (ha k W X cx) (hb k W X cx) hm) fun σ H Q ⟨s, h, m, rh, re, hp⟩ => cmp_read rh re hp
theorem tE_post {K : PySem.W.Frag} {E : XK} {h : Mem} {m : Mp} {H : Hp} {r : Res PV} {Q : Bool → Hp → Prop} (hp : Post K p RB E h m H (r.bind fun x h1 => match x with
    | .bl b => .ok b h1
    | _ => .bad) Q) : Post K p RP E h m H r (fun v H' => ∃ c, v = .bl c ∧ Q c H') :=
  hp.bind' fun v H1 x h1 m1 l rh1 rx hp1 => by
    cases x <;> first | exact hp1.elim | skip
    rename_i c
    exact ⟨c, rx.bl_inv, hp1 m1 H1 c rh1.refl rh1 rfl⟩
theorem st_cmp {op : CmpOp} {o : CO} (eo : coOf op = some o) (ha : SE G p sc a fa) (hb : SE G p sc b fb) (hm : behindInMarks op b = false) : ST G p sc (.Compare a [op] [b] pos) (tE (eCmp o fa fb)) := fun k W X cx =>
  PT.imp (pt_cmpR (cmp_ok (p := p) (by have := hu_cx cx; omega) eo) (ha k W X cx) (hb k W X cx) hm) fun σ H Q ⟨s, h, m, rh, re, hp⟩ => cmp_read rh re (tE_post hp)
theorem st_val {e : Expr} {f : XE} (he : ∀ (X : Cx) whole, isTrue e X.env whole = (do let v ← whole; standAt e.pos; holding [v] (truthy v))) (h : SE G p sc e f) : ST G p sc e (tE f) := fun k W X cx =>
  PT.imp (pt_val (h k W X cx) (he X)) fun σ H Q ⟨s, h, m, rh, re, hp⟩ => ⟨s, h, m, rh, re, tE_post hp⟩
/-- a < b < d -/
theorem chain_read {K : PySem.W.Frag} {W : WX} {c : Calls} {o o' : CO} {σ : L2.St} {H : Hp} {s : Env} {h : Mem} {m : Mp} {Q : VK} (rh : RH K p.C m h H) (re : RE m h.size H s σ)
    (hp : Post K p RP (fun cls d H' => W cls d σ H') h m H (eChain o o' fa fb fd c s h) Q) : tChain (rC K p (cmpop o)) (rC K p (cmpop o')) (teOf K p W c fa) (teOf K p W c fb) (teOf K p W c fd) σ H Q := by
  refine te_bind rh re hp fun v H1 x h1 m1 l1 rh1 re1 ra hp1 => ?_
  refine te_bind rh1 re1 hp1 fun u H2 y h2 m2 l2 rh2 re2 rb hp2 => ?_
  cases e : cmpop o x y h2 with
  | none => simp only [e] at hp2; exact hp2.elim
  | some t =>
    simp only [e] at hp2
    refine ⟨x, y, h2, m2, t, rh2, ra.mono l2, rb, e, t, rfl, ?_⟩
    cases t with
    | false => exact hp2 m2 H2 _ rh2.refl rh2 (.bl false)
    | true =>
      refine te_bind rh2 re2 hp2 fun w H3 z h3 m3 l3 rh3 re3 rz hp3 => ?_
      obtain ⟨w', e0, hp3⟩ := ofO_post hp3
      obtain ⟨c, e', rfl⟩ := map_bl e0
      exact ⟨y, z, h3, m3, c, rh3, rb.mono l3, rz, e', hp3 m3 H3 _ rh3.refl rh3 (.bl c)⟩
theorem se_chain {op op' : CmpOp} {o o' : CO} (eo : coOf op = some o) (eo' : coOf op' = some o') (ha : SE G p sc a fa) (hb : SE G p sc b fb) (hd : SE G p sc d fd) (hm : behindInMarks op b = false) (hm' : behindInMarks op' d = false) :
    SE G p sc (.Compare a [op, op'] [b, d] pos) (eChain o o' fa fb fd) := fun k W X cx =>
  PE.imp (pe_chain (cmp_ok (p := p) (by have := hu_cx cx; omega) eo) (cmp_ok (p := p) (by have := hu_cx cx; omega) eo') (ha k W X cx) (hb k W X cx) (hd k W X cx) (by exact hm')) fun σ H Q ⟨s, h, m, rh, re, hp⟩ => chain_read rh re hp
theorem st_chain {op op' : CmpOp} {o o' : CO} (eo : coOf op = some o) (eo' : coOf op' = some o') (ha : SE G p sc a fa) (hb : SE G p sc b fb) (hd : SE G p sc d fd) (hm : behindInMarks op b = false) (hm' : behindInMarks op' d = false) :
    ST G p sc (.Compare a [op, op'] [b, d] pos) (tE (eChain o o' fa fb fd)) := fun k W X cx =>
  PT.imp (pt_chain (cmp_ok (p := p) (by have := hu_cx cx; omega) eo) (cmp_ok (p := p) (by have := hu_cx cx; omega) eo') (ha k W X cx) (hb k W X cx) (hd k W X cx) (by exact hm')) fun σ H Q ⟨s, h, m, rh, re, hp⟩ => chain_read rh re (tE_post hp)

/-! ### and, or, not, if -/
def SW (G : GT) (p : Pl) (sc : Sc) (e : Expr) (f : XT) : Prop := ∀ k W X, ECx G p k sc W X → PW X e (ttOf X.K p W (callD G.tab k) f)
theorem PW.imp {X : Cx} {e : Expr} {t t' : TT} (h : PW X e t) (k : ∀ σ H Q, t' σ H Q → t σ H Q) : PW X e t' := ⟨fun wh pins s σ H Q I hq => h.run wh pins s σ H Q I (k σ H Q hq)⟩
theorem sw_one {op : BoolOp} {t : XT} (h : ST G p sc a t) : SW G p sc (.BoolOp op [a] pos) t := fun k W X cx => by
  cases op with
  | And => exact pw_and1 (h k W X cx)
  | Or => exact pw_or1 (h k W X cx)
theorem sw_and {t u : XT} {rest : List Expr} (ha : ST G p sc a t) (hb : SW G p sc (.BoolOp .And (b :: rest) pos) u) : SW G p sc (.BoolOp .And (a :: b :: rest) pos) (tAnd t u) := fun k W X cx =>
  PW.imp (pw_and (ha k W X cx) (hb k W X cx)) fun σ H Q ⟨s, h, m, rh, re, hp⟩ => tt_bind rh re hp fun v H1 h1 m1 l1 rh1 re1 hp1 => by
    cases v with
    | true => exact ⟨s, h1, m1, rh1, re1, hp1⟩
    | false => exact hp1 m1 H1 false rh1.refl rh1 rfl
theorem sw_or {t u : XT} {rest : List Expr} (ha : ST G p sc a t) (hb : SW G p sc (.BoolOp .Or (b :: rest) pos) u) : SW G p sc (.BoolOp .Or (a :: b :: rest) pos) (tOr t u) := fun k W X cx =>
  PW.imp (pw_or (ha k W X cx) (hb k W X cx)) fun σ H Q ⟨s, h, m, rh, re, hp⟩ => tt_bind rh re hp fun v H1 h1 m1 l1 rh1 re1 hp1 => by
    cases v with
    | false => exact ⟨s, h1, m1, rh1, re1, hp1⟩
    | true => exact hp1 m1 H1 true rh1.refl rh1 rfl
theorem st_w {e : Expr} {t : XT} (h : SW G p sc e t) : ST G p sc e t := fun k W X cx => (h k W X cx).pt
theorem st_not {t : XT} (h : ST G p sc a t) : ST G p sc (.UnaryOp .Not a pos) (tNot t) := fun k W X cx =>
  PT.imp (pt_not (h k W X cx)) fun σ H Q ⟨s, h, m, rh, re, hp⟩ => tt_bind rh re hp fun v H1 h1 m1 l1 rh1 re1 hp1 => hp1 m1 H1 _ rh1.refl rh1 (by show bnot v = !v; exact bnot_eq v)
theorem se_one {op : BoolOp} (h : SE G p sc a fa) : SE G p sc (.BoolOp op [a] pos) fa := fun k W X cx => pe_one (h k W X cx)
theorem se_and {rest : List Expr} (ha : SE G p sc a fa) (hb : SE G p sc (.BoolOp .And (b :: rest) pos) fb) : SE G p sc (.BoolOp .And (a :: b :: rest) pos) (eAnd fa fb) := fun k W X cx =>
  PE.imp (pe_and (ha k W X cx) (hb k W X cx)) fun σ H Q ⟨s, h, m, rh, re, hp⟩ => te_bind rh re hp fun v H1 x h1 m1 l1 rh1 re1 ra hp1 => by
    cases x <;> first | exact hp1.elim | skip
    rename_i t
    refine ⟨t, ra.bl_inv, ?_⟩
    cases t with
    | true => exact ⟨s, h1, m1, rh1, re1, hp1⟩
    | false => exact hp1 m1 H1 _ rh1.refl rh1 (.bl false)
theorem se_or {rest : List Expr} (ha : SE G p sc a fa) (hb : SE G p sc (.BoolOp .Or (b :: rest) pos) fb) : SE G p sc (.BoolOp .Or (a :: b :: rest) pos) (eOr fa fb) := fun k W X cx =>
  PE.imp (pe_or (ha k W X cx) (hb k W X cx)) fun σ H Q ⟨s, h, m, rh, re, hp⟩ => te_bind rh re hp fun v H1 x h1 m1 l1 rh1 re1 ra hp1 => by
    cases x <;> first | exact hp1.elim | skip
    rename_i t
    refine ⟨t, ra.bl_inv, ?_⟩
    cases t with
    | true => exact hp1 m1 H1 _ rh1.refl rh1 (.bl true)
    | false => exact ⟨s, h1, m1, rh1, re1, hp1⟩
theorem se_not (ha : SE G p sc a fa) : SE G p sc (.UnaryOp .Not a pos) (eNot fa) := fun k W X cx =>
  PE.imp (pe_not (ha k W X cx)) fun σ H Q ⟨s, h, m, rh, re, hp⟩ => te_bind rh re hp fun v H1 x h1 m1 l1 rh1 re1 ra hp1 => by
    cases x <;> first | exact hp1.elim | skip
    rename_i t
    refine ⟨t, ra.bl_inv, ?_⟩
    have r := hp1 m1 H1 (.bl (!t)) rh1.refl rh1
    rw [bnot_eq] at r
    exact r (.bl _)
theorem se_neg {i : Int} {j : Nat} {pos' : Pos} : SE G p sc (.UnaryOp .USub (.Constant (.int i) j pos') pos) (eC (.int (-i))) := fun k W X cx =>
  PE.imp (pe_un un_neg pe_int) fun σ H Q ⟨s, h, m, rh, re, hp⟩ => ⟨i, rfl, hp m H _ rh.refl rh (.int _)⟩
theorem se_if {c : Expr} {t : XT} (hc : ST G p sc c t) (ha : SE G p sc a fa) (hb : SE G p sc b fb) : SE G p sc (.IfExp c a b pos) (eIf t fa fb) := fun k W X cx =>
  PE.imp (pe_ifExp (hc k W X cx) (ha k W X cx) (hb k W X cx)) fun σ H Q ⟨s, h, m, rh, re, hp⟩ => tt_bind rh re hp fun v H1 h1 m1 l1 rh1 re1 hp1 => by
    cases v with
    | true => exact ⟨s, h1, m1, rh1, re1, hp1⟩
    | false => exact ⟨s, h1, m1, rh1, re1, hp1⟩

/-! ### argument lists, displays -/
def notStar : Expr → Bool
  | .Starred _ _ => false
  | _ => true
theorem star_no {e : Expr} {es : List Expr} {env : PySem.Env} (h : notStar e = true) : starEach (e :: es) env = (false, eval e env) :: starEach es env := by
  cases e <;> first | rfl | cases h
def noStars : List Expr → Bool
  | [] => true
  | e :: es => match notStar e with | true => noStars es | false => false
theorem noStars_cons {e : Expr} {es : List Expr} (h : noStars (e :: es) = true) : notStar e = true ∧ noStars es = true := by
  unfold noStars at h
  cases q : notStar e with
  | true => rw [q] at h; exact ⟨rfl, h⟩
  | false => rw [q] at h; cases h
theorem stars_plain {pos : Pos} {env : PySem.Env} : ∀ {es : List Expr}, noStars es = true → (backTo pos (starEach es env)).any (·.1) = false
  | [], _ => rfl
  | e :: es, h => by
    obtain ⟨h1, h2⟩ := noStars_cons h
    rw [star_no h1]
    show (false || (backTo pos (starEach es env)).any (·.1)) = false
    rw [stars_plain h2]
    rfl
theorem sa_nil : SA G p sc [] aNil := fun k W X cx => PA.imp pa_nil fun σ H Q ⟨s, h, m, rh, re, hp⟩ => hp m H _ rh.refl rh .nil
theorem sa_cons {es : List Expr} {l : XA} (hs : notStar a = true) (ha : SE G p sc a fa) (hr : SA G p sc es l) : SA G p sc (a :: es) (aCons fa l) := fun k W X cx =>
  PA.imp (pa_cons (ha k W X cx) (hr k W X cx) (star_no hs)) fun σ H Q ⟨s, h, m, rh, re, hp⟩ => te_bind rh re hp fun v H1 x h1 m1 l1 rh1 re1 ra hp1 =>
    ta_bind rh1 re1 hp1 fun vs H2 xs h2 m2 l2 rh2 re2 rs hp2 => hp2 m2 H2 _ rh2.refl rh2 (.cons (ra.mono l2) rs)
theorem se_tup {es : List Expr} {l : XA} {x1} (h : SA G p sc es l) : SE G p sc (.Tuple es x1 pos) (eTup l) := fun k W X cx =>
  PE.imp (pe_tup (h k W X cx)) fun σ H Q ⟨s, h, m, rh, re, hp⟩ => ta_bind rh re hp fun vs H1 xs h1 m1 l1 rh1 re1 rs hp1 => by
    obtain ⟨c, hp1⟩ := cnd_post hp1
    exact ⟨by rw [rs.length]; exact fits_le c, fun q hq => post_newT rh1 hq rs hp1⟩
end

/-! ### new lists -/
/-- behind an expression that makes a new list: it stands at a, which no one knows -/
def PostL (K : PySem.W.Frag) (p : Pl) (E : XK) (h : Mem) (m : Mp) (H : Hp) (r : Res (List PV)) (Q : VK) : Prop := match r with
  | .ok xs h' => ∀ m' H' a vs, Le h m H h' m' H' → RH K p.C m' h' H' → H a = none → H' a = some (.lst vs) → (∀ n, n < h'.size → a ≠ m'.a n ∧ a ≠ m'.d n) → RPs m' h'.size H' xs vs → Q (.ref a) H'
  | .err x h' => ∀ m' H' cls d, Le h m H h' m' H' → RH K p.C m' h' H' → RX p m' h'.size H' x cls d → E cls d H'
  | .bad => False
def tnOf (K : PySem.W.Frag) (p : Pl) (W : WX) (c : Calls) (f : XA) : TE := fun σ H Q => ∃ s h m, RH K p.C m h H ∧ RE m h.size H s σ ∧ PostL K p (fun cls d H' => W cls d σ H') h m H (f c s h) Q
/-- an expression that makes a new list -/
def SN (G : GT) (p : Pl) (sc : Sc) (e : Expr) (f : XA) : Prop := ∀ k W X, ECx G p k sc W X → PE X e (tnOf X.K p W (callD G.tab k) f)
theorem Le.fresh {h h' : Mem} {m m' : Mp} {H H' : Hp} (l : Le h m H h' m' H') {a : Addr} (e : H' a = none) : H a = none := by
  cases q : H a with
  | none => rfl
  | some o =>
    exfalso
    by_cases k : ∀ n, n < h.size → a ≠ m.a n ∧ a ≠ m.d n
    · by_cases nt : ∃ ps, o = .tbl ps
      · obtain ⟨ps, rfl⟩ := nt
        obtain ⟨ps', e'⟩ := l.tbls a ps q k
        rw [e'] at e; cases e
      · rw [l.frame a o q k fun ps z => nt ⟨ps, z⟩] at e; cases e
    · apply k
      intro j hj
      exact ⟨fun w => (l.old j hj).1 (by rw [← w]; exact e), fun w => (l.old j hj).2 (by rw [← w]; exact e)⟩
section
variable {K : PySem.W.Frag} {p : Pl} {E : XK} {h h' : Mem} {m m' : Mp} {H H' : Hp} {xs : List PV} {vs : List V} {a : Addr}
/-- the memory takes a list that no one knew -/
theorem Le.adopt (l : Le h m H h' m' H') (rh : RH K p.C m' h' H') (hn : H a = none) (e : H' a = some (.lst vs)) (na : ∀ n, n < h'.size → a ≠ m'.a n ∧ a ≠ m'.d n) (rs : RPs m' h'.size H' xs vs) :
    Le h m H (h'.push (.lst xs)) (m'.ext h'.size a a) H' ∧ RH K p.C (m'.ext h'.size a a) (h'.push (.lst xs)) H' := by
  have kp : ∀ n, n < h'.size → (m'.ext h'.size a a).a n = m'.a n ∧ (m'.ext h'.size a a).d n = m'.d n := fun n hn => ⟨Mp.ext_a_ne (by omega), Mp.ext_d_ne (by omega)⟩
  -- a step that leaves the heap as it is
  have st : Lw h'.size m' H' (h'.push (.lst xs)).size (m'.ext h'.size a a) H' := ⟨by rw [Mem.size_push]; omega, kp, fun _ _ e => e⟩
  refine ⟨⟨Nat.le_trans l.le (by rw [Mem.size_push]; omega), l.lk, l.ld, fun n hn => (Mem.get_push_old _ (rh.lok n (by rw [l.lk]; exact hn))).trans (l.lkd n hn), l.lkh, fun n hn => ?_, l.frame, l.tbls, l.tups, fun n h1 h2 => ?_, l.old⟩, fun n hn => ?_, fun n o e' => ?_, fun i j hi hj ne => ?_, fun n hn => Nat.lt_succ_of_lt (rh.lok n hn), fun n hn => Nat.lt_succ_of_lt (rh.lod n hn), rh.tab.adopt e nfx_lst⟩
  · have q := kp n (Nat.lt_of_lt_of_le hn l.le)
    rw [q.1, q.2]
    exact l.keep n hn
  · rw [Mem.size_push] at h2
    by_cases q : n = h'.size
    · subst q
      rw [Mp.ext_a, Mp.ext_d]
      exact ⟨hn, hn⟩
    · have q' := kp n (by omega)
      rw [q'.1, q'.2]
      exact l.new n h1 (by omega)
  · rw [Mem.size_push] at hn
    by_cases q : n = h'.size
    · subst q; exact ⟨_, Mem.get_push_new _ _⟩
    · obtain ⟨o, eo⟩ := rh.all n (by omega)
      exact ⟨o, Mem.get_push eo⟩
  · by_cases q : n = h'.size
    · subst q
      rw [Mem.get_push_new] at e'
      cases e'
      exact ⟨by rw [Mp.ext_a, Mp.ext_d], vs, by rw [Mp.ext_a]; exact e, rs.weak st⟩
    · have hl : n < h'.size := by
        have := Mem.get_lt e'
        rw [Mem.size_push] at this; omega
      rw [Mem.get_push_old _ hl] at e'
      exact (rh.obj n o e').weak st hl rfl rfl
  · rw [Mem.size_push] at hi hj
    by_cases qi : i = h'.size
    · subst qi
      have q := kp j (by omega)
      rw [Mp.ext_a, Mp.ext_d, q.1, q.2]
      have := na j (by omega)
      exact ⟨this.1, this.2, this.1, this.2⟩
    · by_cases qj : j = h'.size
      · subst qj
        have q := kp i (by omega)
        rw [Mp.ext_a, Mp.ext_d, q.1, q.2]
        have := na i (by omega)
        exact ⟨this.1.symm, this.1.symm, this.2.symm, this.2.symm⟩
      · have q := kp i (by omega)
        have q' := kp j (by omega)
        rw [q.1, q.2, q'.1, q'.2]
        exact rh.inj i j (by omega) (by omega) ne
end
section
variable {G : GT} {p : Pl} {sc : Sc} {a : Expr} {f : XA} {pos : Pos}
/-- l, kept in the memory -/
theorem se_new (hn : SN G p sc a f) : SE G p sc a (eNew f) := fun k W X cx => PE.imp (hn k W X cx) fun σ H Q ⟨s, h, m, rh, re, hp⟩ => ⟨s, h, m, rh, re, by
  have hp : Post X.K p RP (fun cls d H' => W cls d σ H') h m H ((f (callD G.tab k) s h).bind fun xs h1 => cnd (fits xs) (.ok (.ref h1.size) (h1.push (.lst xs))) .bad) Q := hp
  cases e : f (callD G.tab k) s h with
  | bad => rw [e] at hp; exact hp
  | err x h1 => rw [e] at hp; exact hp
  | ok xs h1 =>
    rw [e] at hp
    obtain ⟨_, hp⟩ := cnd_post hp
    intro m1 H1 q vs l rh1 hn he na rs
    obtain ⟨l', rh'⟩ := l.adopt rh1 hn he na rs
    have r : RP (m1.ext h1.size q q) (h1.push (.lst xs)).size H1 (.ref h1.size) (.ref ((m1.ext h1.size q q).a h1.size)) := .ref (by simp)
    rw [Mp.ext_a] at r
    exact hp _ _ _ l' rh' r⟩
/-- l, used at once -/
theorem sl_new (hn : SN G p sc a f) : SL G p sc a f := fun k W X cx => PE.imp (hn k W X cx) fun σ H Q ⟨s, h, m, rh, re, hp⟩ => ⟨s, h, m, rh, re, by
  cases e : f (callD G.tab k) s h with
  | bad => rw [e] at hp; exact hp
  | err x h1 => rw [e] at hp; exact hp
  | ok xs h1 =>
    rw [e] at hp
    exact fun m1 H1 q vs l rh1 hn he na rs => hp _ _ _ l rh1 ⟨q, vs, rfl, SqL.of he, rs⟩⟩
/-- a value that is a list or a tuple -/
theorem itemsOf_ok {K : PySem.W.Frag} {C : CT} {h : Mem} {m : Mp} {H : Hp} {x : PV} {v : V} {xs : List PV} (rh : RH K C m h H) (r : RP m h.size H x v) (e : itemsOf h x = some xs) : ∃ a vs, v = .ref a ∧ (SqL K H a vs ∨ H a = some (.tup vs)) ∧ RPs m h.size H xs vs := by
  cases x <;> first | (cases e; done) | skip
  · cases e
    obtain ⟨a, vs, rfl, ea, rs⟩ := r.tup_inv
    exact ⟨a, vs, rfl, .inr ea, rs⟩
  · rename_i n
    rw [r.ref_inv.1]
    have e : (match h.get n with
      | some (.lst xs) => some xs
      | some (.scr xs) => some xs
      | _ => none) = some xs := e
    split at e
    · rename_i ys hy
      cases e
      obtain ⟨vs, hs, rs⟩ := rh.sqL (.inl hy)
      exact ⟨_, vs, rfl, .inl hs, rs⟩
    · rename_i ys hy
      cases e
      obtain ⟨vs, hs, rs⟩ := rh.sqL (.inr hy)
      exact ⟨_, vs, rfl, .inl hs, rs⟩
    · cases e
theorem listsOf_ok {K : PySem.W.Frag} {C : CT} {h : Mem} {m : Mp} {H : Hp} {x : PV} {v : V} {xs : List PV} (rh : RH K C m h H) (r : RP m h.size H x v) (e : listsOf h x = some xs) : RL K m h.size H xs v := by
  cases x <;> first | (cases e; done) | skip
  rename_i n
  rw [r.ref_inv.1]
  have e : (match h.get n with
    | some (.lst xs) => some xs
    | some (.scr xs) => some xs
    | _ => none) = some xs := e
  split at e
  · rename_i ys hy
    cases e
    obtain ⟨vs, hs, rs⟩ := rh.sqL (.inl hy)
    exact ⟨_, vs, rfl, hs, rs⟩
  · rename_i ys hy
    cases e
    obtain ⟨vs, hs, rs⟩ := rh.sqL (.inr hy)
    exact ⟨_, vs, rfl, hs, rs⟩
  · cases e
/-- a value that is a list, used at once -/
theorem sl_of {fa : XE} (ha : SE G p sc a fa) : SL G p sc a (lOf fa) := fun k W X cx => PE.imp (ha k W X cx) fun σ H Q ⟨s, h, m, rh, re, hp⟩ =>
  te_bind rh re hp fun v H1 x h1 m1 l1 rh1 re1 ra hp1 => by
    obtain ⟨xs, e, hp1⟩ := ofO_post hp1
    exact hp1 m1 H1 v rh1.refl rh1 (listsOf_ok rh1 ra e)
/-- [a, b, ..] -/
def lNew (l : XA) : XA := fun c s h => (l c s h).bind fun xs h1 => cnd (fits xs) (.ok xs h1) .bad
theorem sn_list {es : List Expr} {l : XA} (h : SA G p sc es l) : SN G p sc (.List es pos) (lNew l) := fun k W X cx =>
  PE.imp (pe_lst (h k W X cx)) fun σ H Q ⟨s, h, m, rh, re, hp⟩ => ⟨s, h, m, rh, re, by
    unfold lNew at hp
    cases e : l (callD G.tab k) s h with
    | bad => rw [e] at hp; exact hp
    | err x h1 => rw [e] at hp; exact hp
    | ok xs h1 =>
      rw [e] at hp
      intro m1 H1 vs l1 rh1 rs
      simp only [Res.bind_ok] at hp
      cases c : fits xs with
      | false => rw [c] at hp; exact hp.elim
      | true =>
        rw [c] at hp
        refine ⟨by rw [rs.length]; exact fits_le c, fun q hq => ?_⟩
        obtain ⟨l2, rh2⟩ := rh1.tmp (u := .lst vs) hq
        exact hp m1 _ q vs (l1.trans l2) rh2 (l1.fresh hq) upd_same (fun n hn => ⟨fun z => (rh1.fresh hq hn).1 z.symm, fun z => (rh1.fresh hq hn).2 z.symm⟩) (rs.mono l2)⟩
end
end Ev
end

section
set_option Elab.async false
set_option linter.all false
set_option maxRecDepth 100000
/-! Ev: subscripts, slices, attributes, calls. -/
namespace Ev
open PySem PySem.Spec PyProof.Rows L2

/-! ### subscripts -/
theorem ixN_eq {n : Nat} {i : Int} {k : Nat} (e : ixN n i = some k) : L2.ixN n i = some k := by
  unfold L2.ixN
  cases i with
  | ofNat j =>
    have e : cnd (Nat.blt j n) (some j) none = some k := e
    cases q : Nat.blt j n with
    | false => rw [q] at e; cases e
    | true =>
      rw [q] at e
      cases e
      have := blt_iff.mp q
      rw [if_pos (by simp), if_pos (by simp only [Int.ofNat_eq_natCast]; omega)]
      rfl
  | negSucc j =>
    have e : cnd (Nat.blt j n) (some (n - (j + 1))) none = some k := e
    cases q : Nat.blt j n with
    | false => rw [q] at e; cases e
    | true =>
      rw [q] at e
      have hk : n - (j + 1) = k := Option.some.inj e
      have := blt_iff.mp q
      rw [if_neg (by omega), if_pos (by omega)]
      congr 1
      omega
def plainIx : Expr → Bool
  | .Slice _ _ _ _ => false
  | _ => true
theorem plainIx_ok {b : Expr} (h : plainIx b = true) : PlainIx b := by
  cases b <;> first | exact fun _ _ => rfl | cases h
section
variable {X : Cx} {p : Pl}
/-- o[i] by the evaluator -/
def rSubE (K : PySem.W.Frag) (p : Pl) : R2 := fun x y H Q => ∃ (a b : PV) (h : Mem) (m : Mp) (c : PV), RH K p.C m h H ∧ RP m h.size H a x ∧ RP m h.size H b y ∧ subV a b h = some c ∧ ∀ v, RP m h.size H c v → Q v H
theorem ix_ok (hu : X.A.units + 10 < cLine) : IxR X (rSubE X.K p) := by
  rintro value slice pins s σ H x y v u Q I rx ry ⟨a, b, h, m, c, rh, ra, rb, e, q⟩ hs
  cases b <;> first | (cases e; done) | skip
  · rename_i i
    rw [rb.int_inv] at ry
    have e : (match itemsOf h a with
      | some xs => match ixN xs.length i with
        | some k => xs[k]?
        | none => none
      | none => none) = some c := e
    cases e1 : itemsOf h a with
    | none => rw [e1] at e; cases e
    | some xs =>
      rw [e1] at e
      cases e2 : ixN xs.length i with
      | none => simp only [e2] at e; cases e
      | some k =>
        simp only [e2] at e
        obtain ⟨l, vs, rfl, hl, rs⟩ := itemsOf_ok rh ra e1
        obtain ⟨w, ew, rw'⟩ := rs.get e
        have ha : atI vs i = some w := by
          unfold atI
          rw [rs.length, ixN_eq e2]
          exact ew
        rcases hl with hl | hl
        · exact ix_list value slice pins s σ H _ _ v u Q I rx ry ⟨l, vs, i, w, rfl, rfl, hl, ha, q w rw'⟩ hs
        · exact ix_tup value slice pins s σ H _ _ v u Q I rx ry ⟨l, vs, i, w, rfl, rfl, SqT.of hl, ha, q w rw'⟩ hs
  · rename_i ks
    cases a <;> first | (cases e; done) | skip
    rename_i n
    rw [ra.ref_inv.1] at rx
    have e : (match h.get n with
      | some (.dic kvs) => cnd (isTKey (.tup ks)) (dlook (.tup ks) kvs) none
      | _ => none) = some c := e
    split at e
    · rename_i kvs hk
      cases et : isTKey (.tup ks) with
      | false => rw [et] at e; cases e
      | true =>
        rw [et] at e
        obtain ⟨kk, ek⟩ := isTKey_ok et
        obtain ⟨bb, rfl⟩ := key_ref rb ek
        obtain rfl : u = Value.ref bb := ry
        obtain rfl : v = Value.ref (m.a n) := rx
        have e : dlook (.tup ks) kvs = some c := e
        obtain ⟨_, _, _, _, _, _, _, _, _, _, _, _, _, _, dd, _⟩ := dic_at I rh hk
        exact tail_any dd.typeIs PySem.F.slot_dict_getitem.lookup (kd_getItem (by omega) I rh hk rb ek e fun v' w' s3 r' I3 rw' => ⟨v', H, I3, rw', q v' r'⟩) hs
    · cases e
end
section
variable {G : GT} {p : Pl} {sc : Sc} {a b : Expr} {fa fb : XE} {pos : Pos}
theorem se_sub (ha : SE G p sc a fa) (hb : SE G p sc b fb) (hs : plainIx b = true) : SE G p sc (.Subscript a b pos) (eSub fa fb) := fun k W X cx =>
  PE.imp (pe_ix (ix_ok (p := p) (by have := hu_cx cx; omega)) (ha k W X cx) (hb k W X cx) (plainIx_ok hs)) fun σ H Q ⟨s, h, m, rh, re, hp⟩ =>
    te_bind rh re hp fun v H1 x h1 m1 l1 rh1 re1 ra hp1 => te_bind rh1 re1 hp1 fun u H2 y h2 m2 l2 rh2 re2 rb hp2 => by
      obtain ⟨c, e, hp2⟩ := ofO_post hp2
      exact ⟨x, y, h2, m2, c, rh2, ra.mono l2, rb, e, fun v r => hp2 m2 H2 v rh2.refl rh2 r⟩

/-! ### slices -/
def toOf (K : PySem.W.Frag) (p : Pl) (W : WX) (c : Calls) (f : Calls → Env → Mem → Res (Option Int)) : TO := fun σ H Q => ∃ s h m, RH K p.C m h H ∧ RE m h.size H s σ ∧
  Post K p (fun _ _ _ (a b : Option Int) => a = b) (fun cls d H' => W cls d σ H') h m H (f c s h) Q
def SO (G : GT) (p : Pl) (sc : Sc) (e : Option Expr) (f : Calls → Env → Mem → Res (Option Int)) : Prop := ∀ k W X, ECx G p k sc W X → PO X e (toOf X.K p W (callD G.tab k) f)
theorem PO.imp {X : Cx} {e : Option Expr} {t t' : TO} (h : PO X e t) (k : ∀ σ H Q, t' σ H Q → t σ H Q) : PO X e t' := ⟨fun pins s σ H Q I hq => h.run pins s σ H Q I (k σ H Q hq)⟩
theorem so_none : SO G p sc none oNone := fun k W X cx => PO.imp po_none fun σ H Q ⟨s, h, m, rh, re, hp⟩ => hp m H none rh.refl rh rfl
theorem so_some (ha : SE G p sc a fa) : SO G p sc (some a) (oSome fa) := fun k W X cx => PO.imp (po_some (ha k W X cx)) fun σ H Q ⟨s, h, m, rh, re, hp⟩ =>
  te_bind rh re hp fun v H1 x h1 m1 l1 rh1 re1 ra hp1 => by
    cases x <;> first | exact hp1.elim | skip
    rename_i i
    exact ⟨i, ra.int_inv, hp1 m1 H1 (some i) rh1.refl rh1 rfl⟩
theorem to_bind {K : PySem.W.Frag} {W : WX} {c : Calls} {f : Calls → Env → Mem → Res (Option Int)} {γ δ : Type} {g : Option Int → Mem → Res γ} {R : Mp → Nat → Hp → γ → δ → Prop} {s : Env} {h : Mem} {m : Mp} {σ : L2.St} {H : Hp} {Q : δ → Hp → Prop} {Q2 : Option Int → Hp → Prop} (rh : RH K p.C m h H) (re : RE m h.size H s σ)
    (hp : Post K p R (fun cls d H' => W cls d σ H') h m H ((f c s h).bind g) Q)
    (k : ∀ v H1 h1 m1, Le h m H h1 m1 H1 → RH K p.C m1 h1 H1 → RE m1 h1.size H1 s σ → Post K p R (fun cls d H' => W cls d σ H') h1 m1 H1 (g v h1) Q → Q2 v H1) : toOf K p W c f σ H Q2 :=
  ⟨s, h, m, rh, re, hp.bind' fun b H1 a h1 m1 l rh1 rr q => by
    have e : a = b := rr
    subst e
    exact k a H1 h1 m1 l rh1 (re.mono l) q⟩
/-- a slice by the evaluator -/
def rSlE (K : PySem.W.Frag) (p : Pl) : V → Option Int → Option Int → Hp → VK → Prop := fun x lo hi H Q => ∃ (a : PV) (h : Mem) (m : Mp), RH K p.C m h H ∧ RP m h.size H a x ∧ Post K p RP (fun _ _ _ => False) h m H (slV a lo hi h) Q
theorem RPs.cut {m : Mp} {z : Nat} {H : Hp} {xs : List PV} {vs : List V} (r : RPs m z H xs vs) (lo hi : Option Int) : RPs m z H (cut xs lo hi) (cutV vs lo hi) := by
  unfold Ev.cut L2.cutV
  rw [r.length]
  exact (r.drop _).take _
theorem sl_ok {X : Cx} : SlR X (rSlE X.K p) := by
  rintro pins s σ H x v vl vu lo hi sl Q I rx hs pl pu ⟨a, h, m, rh, ra, hp⟩
  cases a <;> first | exact hp.elim | skip
  · rename_i xs
    obtain ⟨q, vs, rfl, ea, rs⟩ := ra.tup_inv
    refine sl_tupA pins s σ H _ v vl vu lo hi sl Q I rx hs pl pu ⟨q, vs, rfl, SqT.of ea, fun hw => ?_, fun _ q hq => post_newT rh hq (rs.cut lo hi) hp⟩
    have e : cut xs lo hi = xs := by
      unfold cut
      rw [← rs.length, hw.1, hw.2, List.drop_zero, rs.length]
      simp
    have hp : Post X.K p RP (fun _ _ _ => False) h m H (.ok (.tup (cut xs lo hi)) h) Q := hp
    rw [e] at hp
    exact hp m H _ rh.refl rh (.tup ea rs)
  · rename_i n
    rw [ra.ref_inv.1] at rx
    have hp : Post X.K p RP (fun _ _ _ => False) h m H (match h.get n with
      | some (.lst xs) => .ok (.ref h.size) (h.push (.lst (cut xs lo hi)))
      | some (.scr xs) => .ok (.ref h.size) (h.push (.lst (cut xs lo hi)))
      | _ => .bad) Q := hp
    have fin : ∀ xs, h.get n = some (.lst xs) ∨ h.get n = some (.scr xs) → Post X.K p RP (fun _ _ _ => False) h m H (.ok (.ref h.size) (h.push (.lst (cut xs lo hi)))) Q →
        ∃ T id, typeLookup (.type T) "__getitem__" = pure (some (.builtin id)) ∧ s.TypeIs v T ∧ wpAny (model X.prog X.w) X.A (getItem v (.ref sl)) (EP X pins σ Q) X.xe s := fun xs hx hp => by
      obtain ⟨vs, hl, rs⟩ := rh.sqL hx
      exact sl_list pins s σ H _ v vl vu lo hi sl Q I rx hs pl pu ⟨m.a n, vs, rfl, hl, fun q hq => post_newL rh hq (rs.cut lo hi) hp⟩
    split at hp
    · rename_i xs hx; exact fin xs (.inl hx) hp
    · rename_i xs hx; exact fin xs (.inr hx) hp
    · exact hp.elim
theorem slV_pure {x : PV} {lo hi : Option Int} {h : Mem} : Pure (slV x lo hi h) := by
  intro e h' z
  cases x <;> first | cases z | skip
  rename_i n
  have z : (match h.get n with
      | some (.lst xs) => .ok (.ref h.size) (h.push (.lst (cut xs lo hi)))
      | some (.scr xs) => .ok (.ref h.size) (h.push (.lst (cut xs lo hi)))
      | _ => .bad) = (.err e h' : Res PV) := z
  split at z <;> cases z
theorem se_sl {lo hi : Option Expr} {fl fh : Calls → Env → Mem → Res (Option Int)} {p2 : Pos} (ha : SE G p sc a fa) (hl : SO G p sc lo fl) (hh : SO G p sc hi fh) : SE G p sc (.Subscript a (.Slice lo hi none p2) pos) (eSl fa fl fh) := fun k W X cx =>
  PE.imp (pe_slice (sl_ok (p := p)) (ha k W X cx) (hl k W X cx) (hh k W X cx)) fun σ H Q ⟨s, h, m, rh, re, hp⟩ =>
    te_bind rh re hp fun v H1 x h1 m1 l1 rh1 re1 ra hp1 => to_bind rh1 re1 hp1 fun lo H2 h2 m2 l2 rh2 re2 hp2 => to_bind rh2 re2 hp2 fun hi H3 h3 m3 l3 rh3 re3 hp3 =>
      ⟨x, h3, m3, rh3, ra.mono (l2.trans l3), hp3.noerr slV_pure⟩

/-! ### calls -/
theorem run_fnRS {X : Cx} {CX : CXT} {k : Nat} {f : Addr} {sp : Sp} {E : XK} {pins : List (Addr × Obj)} {σ : L2.St} {H : Hp} {s : Shared} {Q : VK} {us : List Value} {vs : List V} (F : FnR X.prog X.w X.K X.mg X.base CX k f sp) (hr : Room k X.A) (hx : PassesAt CX X σ E)
    (I : L2.Inv X pins σ H s) (r : Vals vs us) (h : sp vs H Q E) : wpAny (model X.prog X.w) X.A (call (.ref f) us) (EP X pins σ Q) X.xe s := by
  refine wpAny_call (codeAny_mono (F X.A X.stack s H us vs Q E hr I.env0 r h) fun r s' hq => ?_)
  cases r with
  | error e => exact hx pins H s e s' I hq
  | ok fl =>
    cases fl with
    | ret u => exact I.after hq
    | next => exact False.elim hq
    | brk => exact False.elim hq
    | cont => exact False.elim hq
theorem nth_some {tab : List Fd} {k f : Nat} {args : List PV} {h : Mem} (n : callD tab k f args h ≠ .bad) : ∃ d, nthF tab f = some d := by
  cases k with
  | zero => exact absurd rfl n
  | succ k =>
    cases e : nthF tab f with
    | some d => exact ⟨d, rfl⟩
    | none =>
      apply absurd _ n
      show (match nthF tab f with
        | some d => runFd d (callD tab k) args h
        | none => .bad) = _
      rw [e]
theorem Post.nbad {K : PySem.W.Frag} {α β : Type} {R : Mp → Nat → Hp → α → β → Prop} {E : XK} {h : Mem} {m : Mp} {H : Hp} {r : Res α} {Q : β → Hp → Prop} (hp : Post K p R E h m H r Q) : r ≠ .bad := by
  rintro rfl
  exact hp
/-- the evaluator's call of f is what the def at f does -/
theorem call_run {k : Nat} {W : WX} {X : Cx} (cx : ECx G p k sc W X) {f : Nat} {pins : List (Addr × Obj)} {σ : L2.St} {H : Hp} {s : Shared} {Q : VK} {us : List Value} {vs : List V} {args : List PV} {h : Mem} {m : Mp} (I : L2.Inv X pins σ H s) (r : Vals vs us)
    (rh : RH X.K p.C m h H) (ra : RPs m h.size H args vs) (hp : Post X.K p RP (fun cls d H' => W cls d σ H') h m H (callD G.tab k f args h) Q) :
    wpAny (model X.prog X.w) X.A (call (.ref (p.F f)) us) (EP X pins σ Q) X.xe s ∧ PySem.W.keepIn X.K (.ref (p.F f)) = true := by
  obtain ⟨d, ed⟩ := nth_some hp.nbad
  obtain ⟨F, kp⟩ := cx.g.fn f d ed
  exact ⟨run_fnRS F (cx.room.mono (by omega)) (passAt cx.tk σ) I r ⟨h, m, args, rh, ra, hp⟩, kp⟩
/-- the arguments of a call, then the call -/
theorem args_run {k : Nat} {W : WX} {X : Cx} (cx : ECx G p k sc W X) {es : List Expr} {l : XA} (ha : SA G p sc es l) {g : List PV → Mem → Res PV} {pins : List (Addr × Obj)} {σ : L2.St} {H : Hp} {s : Shared} {Q : VK} {sv : Env} {h : Mem} {m : Mp} {pos : Pos} {R : List Value → Shared → Prop}
    (I : L2.Inv X pins σ H s) (rh : RH X.K p.C m h H) (re : RE m h.size H sv σ) (hp : Post X.K p RP (fun cls d H' => W cls d σ H') h m H ((l (callD G.tab k) sv h).bind g) Q)
    (kk : ∀ us s1 vs H1 args h1 m1, L2.Inv X pins σ H1 s1 → Vals vs us → Le h m H h1 m1 H1 → RH X.K p.C m1 h1 H1 → RPs m1 h1.size H1 args vs → Post X.K p RP (fun cls d H' => W cls d σ H') h1 m1 H1 (g args h1) Q → R us s1) :
    wpAny (model X.prog X.w) X.A (spliced (backTo pos (starEach es X.env))) R X.xe s := by
  refine thn ((ha k W X cx).run pos pins s σ H (fun vs H1 => ∃ args h1 m1, Le h m H h1 m1 H1 ∧ RH X.K p.C m1 h1 H1 ∧ RPs m1 h1.size H1 args vs ∧ Post X.K p RP (fun cls d H' => W cls d σ H') h1 m1 H1 (g args h1) Q) I ?_) fun us s1 ⟨vs, H1, I1, r, args, h1, m1, l1, rh1, ra, hp1⟩ => kk us s1 vs H1 args h1 m1 I1 r l1 rh1 ra hp1
  exact ta_bind rh re hp fun vs H1 args h1 m1 l1 rh1 re1 ra hp1 => ⟨args, h1, m1, l1, rh1, ra, hp1⟩
theorem se_call {x : Str} {f : Nat} {e : Expr} {es : List Expr} {l : XA} {q : Pos} (hg : sc.scope.names.lookup x = some .globalImplicit) (hf : (x, f) ∈ G.fns) (hk : (nthF G.tab f).isSome = true) (hd : (x == ("__debug__" : Str)) = false) (hs : noStars (e :: es) = true) (ha : SA G p sc (e :: es) l) :
    SE G p sc (.Call (.Name x q) (e :: es) [] pos) (eCall f l) := by
  intro k W X cx
  obtain ⟨d, ed⟩ := Option.isSome_iff_exists.mp hk
  obtain ⟨F, kp⟩ := cx.g.fn f d ed
  refine ⟨fun pins s σ H Q I ⟨sv, h, m, rh, re, hp⟩ => ?_⟩
  refine wpAny_Call_Name_kw (ld_glob I (glob_of cx hg) (cx.g.gl x f hf) ?_ hd)
  obtain ⟨h1, h2⟩ := noStars_cons hs
  exact PySem.W.callWith_K (h₀ := X.base) I.ok.mod.kin kp (args_run cx ha I rh re hp fun us s1 vs H1 args h1 m1 I1 r l1 rh1 ra hp1 => ⟨I1.kIn, (call_run cx I1 r rh1 ra hp1).1⟩) (star_no h1) (stars_plain h2)
theorem se_call0 {x : Str} {f : Nat} {q : Pos} (hg : sc.scope.names.lookup x = some .globalImplicit) (hf : (x, f) ∈ G.fns) (hk : (nthF G.tab f).isSome = true) (hd : (x == ("__debug__" : Str)) = false) :
    SE G p sc (.Call (.Name x q) [] [] pos) (eCall f aNil) := by
  intro k W X cx
  obtain ⟨d, ed⟩ := Option.isSome_iff_exists.mp hk
  obtain ⟨F, kp⟩ := cx.g.fn f d ed
  refine ⟨fun pins s σ H Q I ⟨sv, h, m, rh, re, hp⟩ => ?_⟩
  refine wpAny_Call_Name_kw (ld_glob I (glob_of cx hg) (cx.g.gl x f hf) ?_ hd)
  exact PySem.W.callWith_K0 I.kIn kp (call_run cx (us := []) (vs := []) (args := []) I .nil rh .nil hp).1

/-! ### instances -/
def plainBase : Expr → Bool
  | .Call (.Name _ _) [] [] _ => false
  | _ => true
theorem base_ok {o : Expr} {m : Str} {env : PySem.Env} {t : Sem Value} (h : plainBase o = true) : attributeBase o m env t = t := by
  unfold attributeBase
  split
  · cases h
  · rfl
theorem lookC_mem {α : Type} {k : Nat} {a : α} : ∀ {l : List (Nat × α)}, lookC k l = some a → (k, a) ∈ l
  | [], e => by cases e
  | (j, b) :: r, e => by
    have e : (match Nat.beq j k with | true => some b | false => lookC k r) = some a := e
    cases q : Nat.beq j k with
    | true =>
      rw [q] at e
      cases e
      rw [Nat.eq_of_beq_eq_true q]
      exact List.mem_cons_self
    | false =>
      rw [q] at e
      exact List.mem_cons_of_mem _ (lookC_mem e)
/-- the attribute f: what each class has -/
def AttOk (G : GT) (f : Str) (tab : List (Nat × At)) : Prop := ∀ k a, (k, a) ∈ tab → match a with
  | .slot i => (k, f, i) ∈ G.slots
  | .prop g => (k, f, g) ∈ G.props
theorem cx_false {P : Program} {w : World} {outer : List PySem.Env} {H : Hp} {s : Shared} {e : Value} {s' : Shared} (z : CX P w outer H s (fun _ _ _ => False) e s') : False := by
  obtain ⟨_, _, _, _, _, _, _, _, _, _, _, _, z⟩ := z
  exact z
theorem se_fld {f : Str} {tab : List (Nat × At)} (ht : AttOk G f tab) (hb : plainBase a = true) (ha : SE G p sc a fa) : SE G p sc (.Attribute a f pos) (eFld tab fa) := by
  intro k W X cx
  refine ⟨fun pins s σ H Q I ⟨sv, h, m, rh, re, hp⟩ => ?_⟩
  refine attr_of (base_ok hb) (thn ((ha k W X cx).run pins s σ H _ I (te_bind (Q2 := fun v H1 => ∃ x h1 m1, RH X.K p.C m1 h1 H1 ∧ RP m1 h1.size H1 x v ∧ Post X.K p RP (fun cls d H' => W cls d σ H') h1 m1 H1 (fldV tab (callD G.tab k) x h1) Q) rh re hp
    fun v H1 x h1 m1 l1 rh1 re1 ra hp1 => ⟨x, h1, m1, rh1, ra, hp1⟩)) fun u s1 ⟨v, H1, I1, rv, x, h1, m1, rh1, ra, hp1⟩ => ?_)
  unfold fldV at hp1
  cases x <;> first | exact hp1.elim | skip
  rename_i n
  cases e : h1.get n with
  | none => simp only [e] at hp1; exact hp1.elim
  | some o =>
    simp only [e] at hp1
    cases o <;> first | exact hp1.elim | skip
    rename_i c fs
    simp only at hp1
    cases el : lookC c tab with
    | none => simp only [el] at hp1; exact hp1.elim
    | some at_ =>
      simp only [el] at hp1
      have hm := ht c at_ (lookC_mem el)
      obtain ⟨_, _, vs, hs, rs⟩ := rh1.obj n _ e
      obtain ⟨ev, hn⟩ := ra.ref_inv
      subst ev
      obtain rfl : u = Value.ref (m1.a n) := rv
      cases at_ with
      | slot i =>
        obtain ⟨sc', q, sl⟩ := cx.g.sl c f i hm
        simp only at hp1
        cases ef : fs[i]? with
        | none => simp only [ef] at hp1; exact hp1.elim
        | some o =>
          cases o with
          | none => simp only [ef] at hp1; exact hp1.elim
          | some y =>
            simp only [ef] at hp1
            obtain ⟨w, ew, rw'⟩ := rs i y ef
            exact SlX.getslot_ok I1 hs sc' sl ew fun u' s2 I2 ru => ⟨w, H1, I2, ru, hp1 m1 H1 w rh1.refl rh1 rw'⟩
      | prop g =>
        obtain ⟨sc', q, h1', h2', h3', h4'⟩ := cx.g.pr c f g hm
        simp only at hp1
        have nb : callD G.tab k g [.ref n] h1 ≠ .bad := by
          intro z
          rw [z] at hp1
          exact hp1.elim
        obtain ⟨d, ed⟩ := nth_some nb
        obtain ⟨F, kp⟩ := cx.g.fn g d ed
        refine SlX.getprop_sl (E := fun _ _ _ => False) I1 hs sc' h1' h2' h3' h4' F (cx.room.mono (by omega)) (fun H s e s' z => ?_) ?_
        · exact cx_false z
        · refine ⟨h1, m1, [.ref n], rh1, .cons ra .nil, ?_⟩
          cases er : callD G.tab k g [.ref n] h1 with
          | bad => exact absurd er nb
          | err x' h' => rw [er] at hp1; exact hp1.elim
          | ok v' h' => rw [er] at hp1; exact hp1
end
end Ev
end

section
set_option Elab.async false
set_option linter.all false
set_option maxRecDepth 100000
/-! Ev: methods, new instances, len, isinstance, built-ins. -/
namespace Ev
open PySem PySem.Spec PyProof.Rows L2

section
variable {G : GT} {p : Pl} {sc : Sc} {a b : Expr} {fa fb : XE} {pos apos : Pos}
theorem few_ok {es : List Expr} {env : PySem.Env} {pos : Pos} (h : noStars es = true) (hl : Nat.blt es.length 30 = true) : methodCallForm (es.length + ([] : List Keyword).length) (backTo pos (starEach es env)) (backToKw pos (keywordEach [] env)) = true := by
  have e1 : ∀ es : List Expr, noStars es = true → (backTo pos (starEach es env)).all (!·.1) = true := by
    intro es
    induction es with
    | nil => intro _; rfl
    | cons e es ih =>
      intro h
      obtain ⟨h1, h2⟩ := noStars_cons h
      rw [star_no h1]
      show (!false && (backTo pos (starEach es env)).all (!·.1)) = true
      rw [ih h2]
      rfl
  unfold methodCallForm
  rw [e1 es h]
  have hl := blt_iff.mp hl
  have : decide (es.length + ([] : List Keyword).length + (if (backToKw pos (keywordEach [] env)).isEmpty then 0 else 1) < 30) = true := by
    rw [decide_eq_true_iff]
    show es.length + 0 + 0 < 30
    omega
  rw [this]
  rfl
theorem eval_meth {o : Expr} {m : Str} {es : List Expr} {env : PySem.Env} (hb : plainBase o = true) (hs : noStars es = true) (hl : Nat.blt es.length 30 = true) (hp : (apos.endLine == pos.line) = true) :
    eval (.Call (.Attribute o m apos) es [] pos) env = (do
      let ov ← eval o env
      standAt apos.atName
      let (f, first) ← holding [ov] (getMethod ov m (plainOf o env))
      callWith pos f first (backTo pos (starEach es env)) (backToKw pos (keywordEach [] env))) := by
  have e1 : eval (.Call (.Attribute o m apos) es [] pos) env = (do
    let ov ← attributeBase o m env (eval o env)
    standAt apos.atName
    methodCall o m apos pos env ov (es.length + ([] : List Keyword).length) (backTo pos (starEach es env)) (backToKw pos (keywordEach [] env))) := by
      simp only [eval]
  rw [e1, base_ok hb]
  congr 1
  funext ov
  congr 1
  funext _
  exact mcall_line (few_ok hs hl) hp
def MethOk (G : GT) (m : Str) (tab : List (Nat × Nat)) : Prop := ∀ k f, (k, f) ∈ tab → (k, m, f) ∈ G.meths
/-- o.m as the evaluator finds it -/
theorem meth_get {k : Nat} {W : WX} {X : Cx} (cx : ECx G p k sc W X) {m : Str} {tab : List (Nat × Nat)} (ht : MethOk G m tab) {pins : List (Addr × Obj)} {σ : L2.St} {H : Hp} {s : Shared} {x : PV} {v : V} {u : Value} {h : Mem} {mp : Mp} {f : Nat} {pl : Sem Bool} {Q : Value × List Value → Shared → Prop}
    (I : L2.Inv X pins σ H s) (rv : RelV v u) (rh : RH X.K p.C mp h H) (ra : RP mp h.size H x v) (e : methF tab x h = some f) (q : ∀ n, x = .ref n → v = .ref (mp.a n) → Q (.ref (p.F f), [.ref (mp.a n)]) s) : wpAny (model X.prog X.w) X.A (getMethod u m pl) Q X.xe s := by
  cases x <;> first | (cases e; done) | skip
  rename_i n
  have e : (match h.get n with
    | some (.ins k _) => lookC k tab
    | _ => none) = some f := e
  split at e
  · rename_i c fs hg
    obtain ⟨ev, hn⟩ := ra.ref_inv
    subst ev
    obtain rfl : u = Value.ref (mp.a n) := rv
    obtain ⟨_, _, vs, hs, rs⟩ := rh.obj n _ hg
    obtain ⟨sc', mm⟩ := cx.g.me c m f (ht c f (lookC_mem e))
    exact SlX.getmethsl_ok I hs sc' mm (q n rfl rfl)
  · cases e
theorem se_meth {m : Str} {tab : List (Nat × Nat)} {e : Expr} {es : List Expr} {l : XA} (ht : MethOk G m tab) (hb : plainBase a = true) (hs : noStars (e :: es) = true) (hl : Nat.blt (e :: es).length 30 = true) (hp : (apos.endLine == pos.line) = true) (ha : SE G p sc a fa) (hr : SA G p sc (e :: es) l) :
    SE G p sc (.Call (.Attribute a m apos) (e :: es) [] pos) (eMeth tab fa l) := by
  intro k W X cx
  refine ⟨fun pins s σ H Q I ⟨sv, h, mp, rh, re, hq⟩ => ?_⟩
  refine PySem.W.methodCall_KW (pl := plainOf a X.env) (thn ((ha k W X cx).run pins s σ H _ I (te_bind (Q2 := fun v H1 => ∃ x h1 m1, RH X.K p.C m1 h1 H1 ∧ RE m1 h1.size H1 sv σ ∧ RP m1 h1.size H1 x v ∧ Post X.K p RP (fun cls d H' => W cls d σ H') h1 m1 H1 (match methF tab x h1 with
    | some f => (l (callD G.tab k) sv h1).bind fun xs h2 => callD G.tab k f (x :: xs) h2
    | none => .bad) Q) rh re hq fun v H1 x h1 m1 l1 rh1 re1 ra hp1 => ⟨x, h1, m1, rh1, re1, ra, hp1⟩)) fun u s1 ⟨v, H1, I1, rv, x, h1, m1, rh1, re1, ra, hp1⟩ => ?_) (eval_meth hb hs hl hp)
  cases ef : methF tab x h1 with
  | none => rw [ef] at hp1; exact hp1.elim
  | some f =>
    rw [ef] at hp1
    refine meth_get cx ht I1 rv rh1 ra ef fun n ex ev => ?_
    subst ex
    subst ev
    have hn := ra.ref_inv.2
    obtain ⟨h1', h2'⟩ := noStars_cons hs
    have kp : PySem.W.keepIn X.K (.ref (p.F f)) = true := by
      have hm : (∃ c, lookC c tab = some f) := by
        have ef : (match h1.get n with
          | some (.ins k _) => lookC k tab
          | _ => none) = some f := ef
        split at ef
        · exact ⟨_, ef⟩
        · cases ef
      obtain ⟨c, hm⟩ := hm
      exact (cx.g.me c m f (ht c f (lookC_mem hm))).2.kp
    refine PySem.W.callWith_K (first := [.ref (m1.a n)]) (h₀ := X.base) I.ok.mod.kin kp (args_run cx hr (g := fun xs h2 => callD G.tab k f (.ref n :: xs) h2) I1 rh1 re1 hp1 fun us s2 vs H2 args h2 m2 I2 r l2 rh2 ra2 hp2 => ⟨I2.kIn, ?_⟩) (star_no h1') (stars_plain h2')
    have rr := ra.mono l2
    rw [← (l2.keep n hn).1] at rr ⊢
    exact (call_run cx (us := .ref (m2.a n) :: us) (vs := .ref (m2.a n) :: vs) I2 (.cons rfl r) rh2 (.cons rr ra2) hp2).1
theorem se_meth0 {m : Str} {tab : List (Nat × Nat)} (ht : MethOk G m tab) (hb : plainBase a = true) (hp : (apos.endLine == pos.line) = true) (ha : SE G p sc a fa) :
    SE G p sc (.Call (.Attribute a m apos) [] [] pos) (eMeth tab fa aNil) := by
  intro k W X cx
  refine ⟨fun pins s σ H Q I ⟨sv, h, mp, rh, re, hq⟩ => ?_⟩
  refine PySem.W.methodCall_KW (pl := plainOf a X.env) (thn ((ha k W X cx).run pins s σ H _ I (te_bind (Q2 := fun v H1 => ∃ x h1 m1, RH X.K p.C m1 h1 H1 ∧ RE m1 h1.size H1 sv σ ∧ RP m1 h1.size H1 x v ∧ Post X.K p RP (fun cls d H' => W cls d σ H') h1 m1 H1 (match methF tab x h1 with
    | some f => (aNil (callD G.tab k) sv h1).bind fun xs h2 => callD G.tab k f (x :: xs) h2
    | none => .bad) Q) rh re hq fun v H1 x h1 m1 l1 rh1 re1 ra hp1 => ⟨x, h1, m1, rh1, re1, ra, hp1⟩)) fun u s1 ⟨v, H1, I1, rv, x, h1, m1, rh1, re1, ra, hp1⟩ => ?_) (eval_meth hb rfl rfl hp)
  cases ef : methF tab x h1 with
  | none => rw [ef] at hp1; exact hp1.elim
  | some f =>
    rw [ef] at hp1
    refine meth_get cx ht I1 rv rh1 ra ef fun n ex ev => ?_
    subst ex
    subst ev
    have hp2 : Post X.K p RP (fun cls d H' => W cls d σ H') h1 m1 H1 (callD G.tab k f [.ref n] h1) Q := hp1
    obtain ⟨q, kp⟩ := call_run cx (us := [.ref (m1.a n)]) (vs := [.ref (m1.a n)]) I1 (.cons rfl .nil) rh1 (.cons ra .nil) hp2
    exact PySem.W.callWith_K0 (first := [.ref (m1.a n)]) I1.kIn kp q

/-! ### a new instance -/
theorem RH.newI {K : PySem.W.Frag} {C : CT} {m : Mp} {h : Mem} {H : Hp} (r : RH K C m h H) {x dx : Addr} (hx : H x = none) (hd : H dx = none) (ne : dx ≠ x) (c n : Nat) :
    Le h m H (h.push (.ins c (List.replicate n none))) (m.ext h.size x dx) (upd (upd H dx (.own x)) x (.ins (C c) dx [])) ∧ RH K C (m.ext h.size x dx) (h.push (.ins c (List.replicate n none))) (upd (upd H dx (.own x)) x (.ins (C c) dx [])) := by
  refine r.new hx hd _ (fun a h1 h2 => by rw [upd_ne h1, upd_ne h2]) (fun l => ?_) ⟨by rw [upd_same]; exact fun z => (nomatch z), by rw [upd_ne ne, upd_same]; exact fun z => (nomatch z)⟩
  refine ⟨by rw [Mp.ext_a, Mp.ext_d]; exact ne, by rw [Mp.ext_d, upd_ne ne, upd_same]; exact ⟨fun z => (nomatch z), fun us z => (nomatch z)⟩, [], .inl ⟨by rw [Mp.ext_a, Mp.ext_d]; exact upd_same, rfl⟩, fun i y e => ?_⟩
  rw [List.getElem?_replicate] at e
  split at e <;> cases e
theorem make_run {k : Nat} {W : WX} {X : Cx} (cx : ECx G p k sc W X) {c f n : Nat} (hi : (c, f, n) ∈ G.inits) {pins : List (Addr × Obj)} {σ : L2.St} {H : Hp} {s : Shared} {Q : VK} {us : List Value} {vs : List V} {args : List PV} {h : Mem} {m : Mp} (I : L2.Inv X pins σ H s) (r : Vals vs us)
    (rh : RH X.K p.C m h H) (ra : RPs m h.size H args vs) (hp : Post X.K p RP (fun cls d H' => W cls d σ H') h m H (makeV c f n (callD G.tab k) args h) Q) :
    wpAny (model X.prog X.w) X.A (call (.ref (p.C c)) us) (EP X pins σ Q) X.xe s := by
  have M := cx.g.ini c f n hi
  unfold makeV at hp
  have nb : callD G.tab k f (.ref h.size :: args) (h.push (.ins c (List.replicate n none))) ≠ .bad := by
    intro z
    rw [z] at hp
    exact hp.elim
  obtain ⟨d, ed⟩ := nth_some nb
  obtain ⟨F, kp⟩ := cx.g.fn f d ed
  have hx := I.hok.fresh (a := s.heap.objs.size + 1) (Nat.le_succ _)
  have hd := I.hok.fresh (a := s.heap.objs.size) (Nat.le_refl _)
  have ne : s.heap.objs.size ≠ s.heap.objs.size + 1 := Nat.ne_of_lt (Nat.lt_succ_self _)
  obtain ⟨l, rh1⟩ := rh.newI hx hd ne c n
  have I2 := Inv.made (C := p.C c) I
  have rx : RP (m.ext h.size (s.heap.objs.size + 1) s.heap.objs.size) (h.push (.ins c (List.replicate n none))).size (upd (upd H s.heap.objs.size (.own (s.heap.objs.size + 1))) (s.heap.objs.size + 1) (.ins (p.C c) s.heap.objs.size [])) (.ref h.size) (.ref (s.heap.objs.size + 1)) := by
    have := RP.ref (m := m.ext h.size (s.heap.objs.size + 1) s.heap.objs.size) (z := (h.push (.ins c (List.replicate n none))).size) (H := upd (upd H s.heap.objs.size (.own (s.heap.objs.size + 1))) (s.heap.objs.size + 1) (.ins (p.C c) s.heap.objs.size [])) (n := h.size) (by simp)
    rwa [Mp.ext_a] at this
  have hq := hp.shift l
  have hsp : spF X.K p (callD G.tab k) f (.ref (s.heap.objs.size + 1) :: vs) (upd (upd H s.heap.objs.size (.own (s.heap.objs.size + 1))) (s.heap.objs.size + 1) (.ins (p.C c) s.heap.objs.size [])) (fun v H2 => v = .non ∧ Q (.ref (s.heap.objs.size + 1)) H2) (WE W σ) := by
    refine ⟨_, _, .ref h.size :: args, rh1, .cons rx (ra.mono l), ?_⟩
    refine hq.bind' fun v H2 y h2 m2 l2 rh2 ry hq2 => ?_
    cases y <;> first | exact hq2.elim | skip
    refine ⟨ry.non_inv, ?_⟩
    exact hq2 m2 H2 _ rh2.refl rh2 (rx.mono l2)
  refine wpAny_call (make_map (f := p.F f) I.kIn M.makes M.init (beq_iff_eq.mp M.fn) (codeAny_mono (F _ X.stack _ _ (.ref (s.heap.objs.size + 1) :: us) (.ref (s.heap.objs.size + 1) :: vs) _ (WE W σ) ((cx.room.mono (j := 6 * k + 1) (by omega)).make (p.C c) us [])
    (I2.env0.make (p.C c) us []) (.cons rfl r) hsp) fun r s' hq' => ?_))
  cases r with
  | error e => exact passAt cx.tk σ pins _ _ e s' I2 hq'
  | ok fl =>
    cases fl with
    | ret u =>
      obtain ⟨v, H', I3, rv, ev, q3⟩ := I2.after hq'
      subst ev
      exact ⟨rv, ⟨V.ref (s.heap.objs.size + 1), H', I3, rfl, q3⟩⟩
    | next => exact False.elim hq'
    | brk => exact False.elim hq'
    | cont => exact False.elim hq'
theorem se_make {x : Str} {c f n : Nat} {e : Expr} {es : List Expr} {l : XA} {q : Pos} (hg : sc.scope.names.lookup x = some .globalImplicit) (hc : (x, c) ∈ G.cls) (hi : (c, f, n) ∈ G.inits) (hd : (x == ("__debug__" : Str)) = false) (hs : noStars (e :: es) = true) (ha : SA G p sc (e :: es) l) :
    SE G p sc (.Call (.Name x q) (e :: es) [] pos) (eMake c f n l) := by
  intro k W X cx
  have M := cx.g.ini c f n hi
  refine ⟨fun pins s σ H Q I ⟨sv, h, m, rh, re, hp⟩ => ?_⟩
  refine wpAny_Call_Name_kw (ld_glob I (glob_of cx hg) (cx.g.cl x c hc).1 ?_ hd)
  obtain ⟨h1, h2⟩ := noStars_cons hs
  exact PySem.W.callWith_K (h₀ := X.base) I.ok.mod.kin M.kp (args_run cx ha (g := fun xs h1 => makeV c f n (callD G.tab k) xs h1) I rh re hp fun us s1 vs H1 args h1 m1 I1 r l1 rh1 ra hp1 => ⟨I1.kIn, make_run cx hi I1 r rh1 ra hp1⟩) (star_no h1) (stars_plain h2)

/-! ### built-in calls of one value -/
/-- a call of a built-in with values, by the evaluator -/
theorem se_callB {x : Str} {id : String} {e : Expr} {es : List Expr} {q : Pos} {l : XA} {g : List PV → Mem → Res PV} (hg : sc.scope.names.lookup x = some .globalImplicit) (hf : x ∈ G.free) (hv : bootBuiltins x = some (.builtin id)) (hn : x ≠ "__name__") (hd : (x == ("__debug__" : Str)) = false) (hs : noStars (e :: es) = true)
    (ha : SA G p sc (e :: es) l) (hc : ∀ k W X, ECx G p k sc W X → ∀ (pins : List (Addr × Obj)) (s : Shared) (σ : L2.St) (H : Hp) (vs : List V) (us : List Value) (Q : VK) (args : List PV) (h : Mem) (m : Mp), L2.Inv X pins σ H s → Vals vs us → RH X.K p.C m h H → RPs m h.size H args vs →
      Post X.K p RP (fun cls d H' => W cls d σ H') h m H (g args h) Q → wpAny (model X.prog X.w) X.A (call (.builtin id) us) (EP X pins σ Q) X.xe s) :
    SE G p sc (.Call (.Name x q) (e :: es) [] pos) (fun c s h => (l c s h).bind g) := by
  intro k W X cx
  refine ⟨fun pins s σ H Q I ⟨sv, h, m, rh, re, hp⟩ => ?_⟩
  refine wpAny_Call_Name_kw (ld_blt I (glob_of cx hg) (cx.g.free x hf) hv ?_ hn hd)
  obtain ⟨h1, h2⟩ := noStars_cons hs
  exact PyProof.Rows.callWith_builtin1 (args_run cx ha (g := g) I rh re hp fun us s1 vs H1 args h1 m1 I1 r l1 rh1 ra hp1 => hc k W X cx pins s1 σ H1 vs us Q args h1 m1 I1 r rh1 ra hp1) (star_no h1) (stars_plain h2)
theorem se_callTy {x : Str} {T : String} {e : Expr} {es : List Expr} {q : Pos} {l : XA} {g : List PV → Mem → Res PV} (hg : sc.scope.names.lookup x = some .globalImplicit) (hf : x ∈ G.free) (hv : bootBuiltins x = some (.type T)) (hn : x ≠ "__name__") (hd : (x == ("__debug__" : Str)) = false) (hs : noStars (e :: es) = true)
    (ha : SA G p sc (e :: es) l) (hc : ∀ k W X, ECx G p k sc W X → ∀ (pins : List (Addr × Obj)) (s : Shared) (σ : L2.St) (H : Hp) (vs : List V) (us : List Value) (Q : VK) (args : List PV) (h : Mem) (m : Mp), L2.Inv X pins σ H s → Vals vs us → RH X.K p.C m h H → RPs m h.size H args vs →
      Post X.K p RP (fun cls d H' => W cls d σ H') h m H (g args h) Q → wpAny (model X.prog X.w) X.A (call (.type T) us) (EP X pins σ Q) X.xe s) :
    SE G p sc (.Call (.Name x q) (e :: es) [] pos) (fun c s h => (l c s h).bind g) := by
  intro k W X cx
  refine ⟨fun pins s σ H Q I ⟨sv, h, m, rh, re, hp⟩ => ?_⟩
  refine wpAny_Call_Name_kw (ld_blt I (glob_of cx hg) (cx.g.free x hf) hv ?_ hn hd)
  obtain ⟨h1, h2⟩ := noStars_cons hs
  exact PyProof.Rows.callWith_type1 (args_run cx ha (g := g) I rh re hp fun us s1 vs H1 args h1 m1 I1 r l1 rh1 ra hp1 => hc k W X cx pins s1 σ H1 vs us Q args h1 m1 I1 r rh1 ra hp1) (star_no h1) (stars_plain h2)
/-- .. of one expression that is a list, used at once -/
theorem se_lcall {x : Str} {id : String} {e : Expr} {q : Pos} {l : XA} {g : List PV → Mem → Res PV} (hg : sc.scope.names.lookup x = some .globalImplicit) (hf : x ∈ G.free) (hv : bootBuiltins x = some (.builtin id)) (hn : x ≠ "__name__") (hd : (x == ("__debug__" : Str)) = false) (hs : notStar e = true)
    (ha : SL G p sc e l) (hc : ∀ k W X, ECx G p k sc W X → ∀ (pins : List (Addr × Obj)) (s : Shared) (σ : L2.St) (H : Hp) (v : V) (u : Value) (Q : VK) (xs : List PV) (h : Mem) (m : Mp), L2.Inv X pins σ H s → RelV v u → RH X.K p.C m h H → RL X.K m h.size H xs v →
      Post X.K p RP (fun cls d H' => W cls d σ H') h m H (g xs h) Q → wpAny (model X.prog X.w) X.A (call (.builtin id) [u]) (EP X pins σ Q) X.xe s) :
    SE G p sc (.Call (.Name x q) [e] [] pos) (fun c s h => (l c s h).bind g) := by
  intro k W X cx
  refine ⟨fun pins s σ H Q I ⟨sv, h, m, rh, re, hp⟩ => ?_⟩
  refine wpAny_Call_Name_kw (ld_blt I (glob_of cx hg) (cx.g.free x hf) hv ?_ hn hd)
  refine PyProof.Rows.callWith_builtin1 ?_ (star_no hs) rfl
  rw [star_no hs]
  refine Calls.spliced_cons (thn ((ha k W X cx).run pins s σ H (fun v H1 => ∃ xs h1 m1, RH X.K p.C m1 h1 H1 ∧ RL X.K m1 h1.size H1 xs v ∧ Post X.K p RP (fun cls d H' => W cls d σ H') h1 m1 H1 (g xs h1) Q) I
    (tl_bind rh re hp fun v H1 xs h1 m1 l1 rh1 re1 ra hp1 => ⟨xs, h1, m1, rh1, ra, hp1⟩)) fun u s1 ⟨v, H1, I1, rv, xs, h1, m1, rh1, ra, hp1⟩ => ?_)
  exact Calls.spliced_nil (hc k W X cx pins s1 σ H1 v u Q xs h1 m1 I1 rv rh1 ra hp1)
end
end Ev
end

section
set_option Elab.async false
set_option linter.all false
set_option maxRecDepth 100000
/-! Ev: isinstance, len, all, any, max, min, int, tuple, append. -/
namespace Ev
open PySem PySem.Spec PyProof.Rows L2

section
variable {G : GT} {p : Pl} {sc : Sc} {a b : Expr} {fa fb : XE} {pos apos : Pos}

/-! ### isinstance -/
def tyN : IsK → Option String
  | .int => some "int"
  | .bool => some "bool"
  | .str => some "str"
  | .tuple => some "tuple"
  | .list => some "list"
  | .own _ => none
def kval (p : Pl) : IsK → Value
  | .own i => .ref (p.C i)
  | .int => .type "int"
  | .bool => .type "bool"
  | .str => .type "str"
  | .tuple => .type "tuple"
  | .list => .type "list"
def IsOk (G : GT) (k : IsK) (tab : List (Nat × Bool)) : Prop := ∀ j b, (j, b) ∈ tab → match k with
  | .own i => (j, i, b) ∈ G.isis
  | _ => b = false ∧ ∃ x, (x, j) ∈ G.cls
/-- a value's class, as isinstance's rules want it -/
theorem kit_pv {k : Nat} {W : WX} {X : Cx} (cx : ECx G p k sc W X) {pins : List (Addr × Obj)} {σ : L2.St} {H : Hp} {s : Shared} {x : PV} {v : V} {u : Value} {h : Mem} {m : Mp} (I : L2.Inv X pins σ H s) (rv : RelV v u) (rh : RH X.K p.C m h H) (ra : RP m h.size H x v)
    {kd : IsK} {tab : List (Nat × Bool)} {b : Bool} (e : isB kd tab x h = some b) (ok : IsOk G kd tab) (own : ∀ i, kd = .own i → ∃ y, (y, i) ∈ G.cls) :
    ∃ t P, PySem.W.KitX X.K u t P ∧ P s.heap ∧ u ≠ .builtin "__main__.__loader__#opaque" ∧ PySem.W.kitOne X.K t (kval p kd) = some b := by
  have ow : ∀ T ∈ ["NoneType", "bool", "int", "str", "tuple", "list", "dict"], ∀ i, kd = .own i → PySem.W.kitOne X.K (.type T) (.ref (p.C i)) = some false := fun T hT i hi => by
    obtain ⟨y, hy⟩ := own i hi
    exact (cx.g.isi y i hy).2.2 T hT
  cases x with
  | non =>
    obtain rfl : v = .non := ra.non_inv
    obtain rfl : u = Value.none := rv
    refine ⟨_, _, PySem.W.kitx_none, True.intro, (fun z => (nomatch z)), ?_⟩
    cases e
    cases kd <;> first | exact kit_ty (by decide +kernel) | exact ow _ (by simp) _ rfl
  | bl c =>
    obtain rfl : v = .bl c := ra.bl_inv
    obtain rfl : u = Value.bool c := rv
    refine ⟨_, _, PySem.W.kitx_bool, True.intro, (fun z => (nomatch z)), ?_⟩
    cases e
    cases kd <;> first | exact kit_ty (by decide +kernel) | exact ow _ (by simp) _ rfl
  | int i =>
    obtain rfl : v = .int i := ra.int_inv
    obtain ⟨t, rfl⟩ : ∃ t, u = Value.int i t := rv
    refine ⟨_, _, PySem.W.kitx_int, True.intro, (fun z => (nomatch z)), ?_⟩
    cases e
    cases kd <;> first | exact kit_ty (by decide +kernel) | exact ow _ (by simp) _ rfl
  | str z =>
    obtain rfl : v = .str z := ra.str_inv
    obtain ⟨t, rfl⟩ : ∃ t, u = Value.str z t := rv
    refine ⟨_, _, PySem.W.kitx_str, True.intro, (fun z => (nomatch z)), ?_⟩
    cases e
    cases kd <;> first | exact kit_ty (by decide +kernel) | exact ow _ (by simp) _ rfl
  | tup xs =>
    obtain ⟨q, vs, rfl, eq, rs⟩ := ra.tup_inv
    obtain rfl : u = Value.ref q := rv
    obtain ⟨_, _, _, o, h1, h2, _⟩ := (show ObjOk X.prog X.w H s.heap q (.tup vs) from I.hok q _ eq)
    refine ⟨_, _, PySem.W.kitx_tuple, ⟨o, h1, h2⟩, (fun z => (nomatch z)), ?_⟩
    cases e
    cases kd <;> first | exact kit_ty (by decide +kernel) | exact ow _ (by simp) _ rfl
  | ref n =>
    obtain ⟨ev, hn⟩ := ra.ref_inv
    subst ev
    obtain rfl : u = Value.ref (m.a n) := rv
    have e : (match h.get n with
      | some (.lst _) => some (isLst kd)
      | some (.dic _) => some false
      | some (.ins j _) => lookC j tab
      | _ => none) = some b := e
    split at e
    · rename_i xs hx
      obtain ⟨_, vs, ev, rs⟩ := rh.obj n _ hx
      obtain ⟨_, _, k', _, h1⟩ := (show ObjOk X.prog X.w H s.heap (m.a n) (.lst vs) from I.hok _ _ ev)
      refine ⟨_, _, PySem.W.kitx_list, ⟨_, h1, rfl⟩, (fun z => (nomatch z)), ?_⟩
      cases e
      cases kd <;> first | exact kit_ty (by decide +kernel) | exact ow _ (by simp) _ rfl
    · rename_i kvs hx
      obtain ⟨o, _, _, _, _, _, _, _, h1, h2, _⟩ := dic_at I rh hx
      refine ⟨_, _, PySem.W.kitx_dict, ⟨o, h1, h2.1⟩, (fun z => (nomatch z)), ?_⟩
      cases e
      cases kd <;> first | exact kit_ty (by decide +kernel) | exact ow _ (by simp) _ rfl
    · rename_i j fs hx
      obtain ⟨_, _, vs, hs, rs⟩ := rh.obj n _ hx
      have hm := ok j b (lookC_mem e)
      obtain ⟨y, hy⟩ : ∃ y, (y, j) ∈ G.cls := by
        cases kd <;> first | exact hm.2 | exact (cx.g.iso _ _ _ hm).1
      obtain ⟨hi, hT, _⟩ := cx.g.isi y j hy
      have hc := (cx.g.cl y j hy).2
      obtain ⟨sl, od, _, J, _⟩ := SlX.slt_inst I hs
      refine ⟨_, _, OwX.kitx_slt hc.ic (hc.get _) hi.ca hi.cn hi.ct hi.cm, J, (fun z => (nomatch z)), ?_⟩
      cases kd <;> first | exact (cx.g.iso _ _ _ hm).2 | (rw [hm.1]; exact hT _ (by simp))
    · cases e
theorem isi_run {k : Nat} {W : WX} {X : Cx} (cx : ECx G p k sc W X) {kd : IsK} {tab : List (Nat × Bool)} (ok : IsOk G kd tab) (own : ∀ i, kd = .own i → ∃ y, (y, i) ∈ G.cls) {cv : V} {cu : Value}
    (hcv : ∀ w, RelV cv w → w = cu) (hcu : cu = (kval p kd)) :
    CallR X (.builtin "isinstance") (fun xs H Q => ∃ x a h m b, xs = [x, cv] ∧ RH X.K p.C m h H ∧ RP m h.size H a x ∧ isB kd tab a h = some b ∧ Q (.bl b) H) := by
  rintro pins s σ H xs us Q I r ⟨x, a, h, m, b, rfl, rh, ra, e, q⟩
  obtain ⟨u1, u2, rfl, r1, r2⟩ := vals2 r
  cases hcv _ r2
  obtain ⟨t, P, Z, pp, hx, hk⟩ := kit_pv cx I r1 rh ra e ok own
  rw [hcu]
  exact PySem.W.kia_one Z I.kIn pp hk hx fun tk => ⟨.bl b, H, I.tok tk, rfl, q⟩
theorem is_read {K : PySem.W.Frag} {W : WX} {c : Calls} {kd : IsK} {tab : List (Nat × Bool)} {cv : V} {σ : L2.St} {H : Hp} {Q : VK} (h : teOf K p W c (eIs kd tab fa) σ H Q) :
    tCB (fun xs H Q => ∃ x a h m b, xs = [x, cv] ∧ RH K p.C m h H ∧ RP m h.size H a x ∧ isB kd tab a h = some b ∧ Q (.bl b) H) (tCons (teOf K p W c fa) (tCons (tC cv) tNil)) σ H Q := by
  obtain ⟨s, h, m, rh, re, hp⟩ := h
  refine te_bind rh re hp fun v H1 x h1 m1 l1 rh1 re1 ra hp1 => ?_
  obtain ⟨w, e0, hp1⟩ := ofO_post hp1
  obtain ⟨b, e, rfl⟩ := map_bl e0
  exact ⟨v, x, h1, m1, b, rfl, rh1, ra, e, hp1 m1 H1 _ rh1.refl rh1 (.bl b)⟩
theorem se_isT {T : Str} {kd : IsK} {n : String} {tab : List (Nat × Bool)} {q q2 : Pos} (hg : sc.scope.names.lookup ("isinstance" : Str) = some .globalImplicit) (hf : ("isinstance" : Str) ∈ G.free) (hT : sc.scope.names.lookup T = some .globalImplicit) (hfT : T ∈ G.free) (hv : bootBuiltins T = some (.type n)) (hn : T ≠ "__name__") (hd : (T == ("__debug__" : Str)) = false)
    (hk : tyN kd = some n) (ok : IsOk G kd tab) (hs : notStar a = true) (ha : SE G p sc a fa) : SE G p sc (.Call (.Name "isinstance" q) [a, .Name T q2] [] pos) (eIs kd tab fa) := fun k W X cx =>
  PE.imp (pe_callB (isi_run cx ok (fun i e => by subst e; cases hk) (cv := .ty n) (cu := .type n) (fun w r => r) (by cases kd <;> cases hk <;> rfl)) (glob_of cx hg) (cx.g.free _ hf) (by decide +kernel)
    (pa_cons (ha k W X cx) (pa_cons (pe_bltn (v := .ty n) (glob_of cx hT) (cx.g.free T hfT) hv rfl hn hd) pa_nil) (star_no hs)) (by decide) (by decide) (star_no hs)) fun σ H Q h => is_read h
theorem se_isC {x : Str} {i : Nat} {tab : List (Nat × Bool)} {q q2 : Pos} (hg : sc.scope.names.lookup ("isinstance" : Str) = some .globalImplicit) (hf : ("isinstance" : Str) ∈ G.free) (hx : sc.scope.names.lookup x = some .globalImplicit) (hc : (x, i) ∈ G.cls) (hd : (x == ("__debug__" : Str)) = false)
    (ok : IsOk G (.own i) tab) (hs : notStar a = true) (ha : SE G p sc a fa) : SE G p sc (.Call (.Name "isinstance" q) [a, .Name x q2] [] pos) (eIs (.own i) tab fa) := fun k W X cx =>
  PE.imp (pe_callB (isi_run cx ok (fun j e => by cases e; exact ⟨x, hc⟩) (cv := .ref (p.C i)) (cu := .ref (p.C i)) (fun w r => r) rfl) (glob_of cx hg) (cx.g.free _ hf) (by decide +kernel)
    (pa_cons (ha k W X cx) (pa_cons (pe_glob (v := .ref (p.C i)) (glob_of cx hx) (cx.g.cl x i hc).1 rfl hd) pa_nil) (star_no hs)) (by decide) (by decide) (star_no hs)) fun σ H Q h => is_read h

/-! ### all, any -/
theorem blsOf_ok {m : Mp} {z : Nat} {H : Hp} : ∀ {xs : List PV} {vs : List V} {bs : List Bool}, RPs m z H xs vs → blsOf xs = some bs → vs = bs.map V.bl
  | [], _, bs, .nil, e => by cases e; rfl
  | x :: xs, _, bs, .cons r rs, e => by
    cases x <;> first | (cases e; done) | skip
    rename_i b
    cases e1 : blsOf xs with
    | none => simp only [blsOf, e1] at e; cases e
    | some cs =>
      simp only [blsOf, e1] at e
      cases e
      rw [r.bl_inv, blsOf_ok rs e1]
      rfl
theorem allB_eq : ∀ bs : List Bool, allB bs = bs.all id
  | [] => rfl
  | true :: bs => by show allB bs = _; rw [allB_eq bs]; rfl
  | false :: bs => rfl
theorem anyB_eq : ∀ bs : List Bool, anyB bs = bs.any id
  | [] => rfl
  | true :: bs => rfl
  | false :: bs => by show anyB bs = _; rw [anyB_eq bs]; rfl
theorem se_all {q : Pos} {l : XA} (hg : sc.scope.names.lookup ("all" : Str) = some .globalImplicit) (hf : ("all" : Str) ∈ G.free) (hs : notStar a = true) (ha : SL G p sc a l) : SE G p sc (.Call (.Name "all" q) [a] [] pos) (eAll l) := by
  refine se_lcall hg hf (id := "all") (by decide +kernel) (by decide) (by decide) hs ha (g := fun xs h1 => match blsOf xs with
    | some bs => .ok (.bl (allB bs)) h1
    | none => .bad) fun k W X cx pins s σ H v u Q xs h m I rv rh rl hp => ?_
  cases e : blsOf xs with
  | none => simp only [e] at hp; exact hp.elim
  | some bs =>
    simp only [e] at hp
    obtain ⟨l, vs, rfl, hl, rs⟩ := rl
    rw [blsOf_ok rs e] at hl
    have q := hp m H _ rh.refl rh (.bl _)
    rw [allB_eq] at q
    exact cr_all cx.calm pins s σ H [.ref l] [u] Q I (.cons rv .nil) ⟨l, bs, rfl, hl, q⟩
theorem se_any {q : Pos} {l : XA} (hg : sc.scope.names.lookup ("any" : Str) = some .globalImplicit) (hf : ("any" : Str) ∈ G.free) (hs : notStar a = true) (ha : SL G p sc a l) : SE G p sc (.Call (.Name "any" q) [a] [] pos) (eAny l) := by
  refine se_lcall hg hf (id := "any") (by decide +kernel) (by decide) (by decide) hs ha (g := fun xs h1 => match blsOf xs with
    | some bs => .ok (.bl (anyB bs)) h1
    | none => .bad) fun k W X cx pins s σ H v u Q xs h m I rv rh rl hp => ?_
  cases e : blsOf xs with
  | none => simp only [e] at hp; exact hp.elim
  | some bs =>
    simp only [e] at hp
    obtain ⟨l, vs, rfl, hl, rs⟩ := rl
    rw [blsOf_ok rs e] at hl
    have q := hp m H _ rh.refl rh (.bl _)
    rw [anyB_eq] at q
    exact cr_any cx.calm pins s σ H [.ref l] [u] Q I (.cons rv .nil) ⟨l, bs, rfl, hl, q⟩
end
end Ev
end

section
set_option Elab.async false
set_option linter.all false
set_option maxRecDepth 100000
/-! Ev: len, max, min, int, abs, tuple, list, sum, append. -/
namespace Ev
open PySem PySem.Spec PyProof.Rows L2

section
variable {G : GT} {p : Pl} {sc : Sc} {a b : Expr} {fa fb : XE} {pos apos : Pos}
theorem se_max2 {q : Pos} {l : XA} {e : Expr} {es : List Expr} (hg : sc.scope.names.lookup ("max" : Str) = some .globalImplicit) (hf : ("max" : Str) ∈ G.free) (hs : noStars (e :: es) = true) (ha : SA G p sc (e :: es) l) : SE G p sc (.Call (.Name "max" q) (e :: es) [] pos) (eB gMax2 l) := by
  refine se_callB hg hf (id := "max") (by decide +kernel) (by decide) (by decide) hs ha fun k W X cx pins s σ H vs us Q args h m I rv rh ra hp => ?_
  unfold gMax2 at hp
  split at hp
  · rename_i i j
    obtain ⟨v, w, rfl, r1, r2⟩ := ra.two
    rw [r1.int_inv, r2.int_inv] at rv
    refine call_max2 cx.calm pins s σ H _ us Q I rv ⟨i, j, rfl, ?_⟩
    have q := hp m H _ rh.refl rh (.int _)
    cases c : ilt i j with
    | true => rw [c] at q; rw [if_pos (by have := ilt_iff.mp c; omega)]; exact q
    | false =>
      rw [c] at q
      rw [if_neg (fun z => by have := ilt_iff.mpr (show i < j by omega); rw [c] at this; cases this)]
      exact q
  · exact hp.elim
theorem se_min2 {q : Pos} {l : XA} {e : Expr} {es : List Expr} (hg : sc.scope.names.lookup ("min" : Str) = some .globalImplicit) (hf : ("min" : Str) ∈ G.free) (hs : noStars (e :: es) = true) (ha : SA G p sc (e :: es) l) : SE G p sc (.Call (.Name "min" q) (e :: es) [] pos) (eB gMin2 l) := by
  refine se_callB hg hf (id := "min") (by decide +kernel) (by decide) (by decide) hs ha fun k W X cx pins s σ H vs us Q args h m I rv rh ra hp => ?_
  unfold gMin2 at hp
  split at hp
  · rename_i i j
    obtain ⟨v, w, rfl, r1, r2⟩ := ra.two
    rw [r1.int_inv, r2.int_inv] at rv
    refine call_min2 cx.calm pins s σ H _ us Q I rv ⟨i, j, rfl, ?_⟩
    have q := hp m H _ rh.refl rh (.int _)
    cases c : ilt j i with
    | true => rw [c] at q; rw [if_pos (ilt_iff.mp c)]; exact q
    | false =>
      rw [c] at q
      rw [if_neg (fun z => by have := ilt_iff.mpr z; rw [c] at this; cases this)]
      exact q
  · exact hp.elim
theorem se_int1 {q : Pos} {l : XA} {e : Expr} {es : List Expr} (hg : sc.scope.names.lookup ("int" : Str) = some .globalImplicit) (hf : ("int" : Str) ∈ G.free) (hs : noStars (e :: es) = true) (ha : SA G p sc (e :: es) l) : SE G p sc (.Call (.Name "int" q) (e :: es) [] pos) (eB gInt l) := by
  refine se_callTy hg hf (T := "int") (by decide +kernel) (by decide) (by decide) hs ha fun k W X cx pins s σ H vs us Q args h m I rv rh ra hp => ?_
  unfold gInt at hp
  split at hp
  · rename_i i
    obtain ⟨v, rfl, r1⟩ := ra.one
    rw [r1.int_inv] at rv
    exact call_int1 pins s σ H _ us Q I rv (.inl ⟨i, rfl, hp m H _ rh.refl rh (.int _)⟩)
  · rename_i i
    obtain ⟨v, rfl, r1⟩ := ra.one
    rw [r1.bl_inv] at rv
    have q := hp m H _ rh.refl rh (.int _)
    refine call_int1 pins s σ H _ us Q I rv (.inr ⟨i, rfl, ?_⟩)
    cases i <;> exact q
  · exact hp.elim
theorem se_abs {q : Pos} {l : XA} {e : Expr} {es : List Expr} (hg : sc.scope.names.lookup ("abs" : Str) = some .globalImplicit) (hf : ("abs" : Str) ∈ G.free) (hs : noStars (e :: es) = true) (ha : SA G p sc (e :: es) l) : SE G p sc (.Call (.Name "abs" q) (e :: es) [] pos) (eB gAbs l) := by
  refine se_callB hg hf (id := "abs") (by decide +kernel) (by decide) (by decide) hs ha fun k W X cx pins s σ H vs us Q args h m I rv rh ra hp => ?_
  unfold gAbs at hp
  split at hp
  · rename_i i
    obtain ⟨v, rfl, r1⟩ := ra.one
    rw [r1.int_inv] at rv
    have q := hp m H _ rh.refl rh (.int _)
    refine call_abs pins s σ H _ us Q I rv ⟨i, rfl, ?_⟩
    cases i with
    | ofNat n => rw [if_neg (by simp only [Int.ofNat_eq_natCast]; omega)]; exact q
    | negSucc n => rw [if_pos (by omega)]; exact q
  · exact hp.elim
/-- a call of a type with one list, used at once -/
theorem se_lcallTy {x : Str} {T : String} {e : Expr} {q : Pos} {l : XA} {g : List PV → Mem → Res PV} (hg : sc.scope.names.lookup x = some .globalImplicit) (hf : x ∈ G.free) (hv : bootBuiltins x = some (.type T)) (hn : x ≠ "__name__") (hd : (x == ("__debug__" : Str)) = false) (hs : notStar e = true)
    (ha : SL G p sc e l) (hc : ∀ k W X, ECx G p k sc W X → ∀ (pins : List (Addr × Obj)) (s : Shared) (σ : L2.St) (H : Hp) (v : V) (u : Value) (Q : VK) (xs : List PV) (h : Mem) (m : Mp), L2.Inv X pins σ H s → RelV v u → RH X.K p.C m h H → RL X.K m h.size H xs v →
      Post X.K p RP (fun cls d H' => W cls d σ H') h m H (g xs h) Q → wpAny (model X.prog X.w) X.A (call (.type T) [u]) (EP X pins σ Q) X.xe s) :
    SE G p sc (.Call (.Name x q) [e] [] pos) (eB g l) := by
  intro k W X cx
  refine ⟨fun pins s σ H Q I ⟨sv, h, m, rh, re, hp⟩ => ?_⟩
  refine wpAny_Call_Name_kw (ld_blt I (glob_of cx hg) (cx.g.free x hf) hv ?_ hn hd)
  refine PyProof.Rows.callWith_type1 ?_ (star_no hs) rfl
  rw [star_no hs]
  refine Calls.spliced_cons (thn ((ha k W X cx).run pins s σ H (fun v H1 => ∃ xs h1 m1, RH X.K p.C m1 h1 H1 ∧ RL X.K m1 h1.size H1 xs v ∧ Post X.K p RP (fun cls d H' => W cls d σ H') h1 m1 H1 (g xs h1) Q) I
    (tl_bind rh re hp fun v H1 xs h1 m1 l1 rh1 re1 ra hp1 => ⟨xs, h1, m1, rh1, ra, hp1⟩)) fun u s1 ⟨v, H1, I1, rv, xs, h1, m1, rh1, ra, hp1⟩ => ?_)
  exact Calls.spliced_nil (hc k W X cx pins s1 σ H1 v u Q xs h1 m1 I1 rv rh1 ra hp1)
theorem se_tupL {q : Pos} {l : XA} (hg : sc.scope.names.lookup ("tuple" : Str) = some .globalImplicit) (hf : ("tuple" : Str) ∈ G.free) (hs : notStar a = true) (ha : SL G p sc a l) : SE G p sc (.Call (.Name "tuple" q) [a] [] pos) (eB gTupL l) := by
  refine se_lcallTy hg hf (T := "tuple") (by decide +kernel) (by decide) (by decide) hs ha fun k W X cx pins s σ H v u Q xs h m I rv rh rl hp => ?_
  obtain ⟨q, vs, rfl, hl, rs⟩ := rl
  exact call_tuple_of pins s σ H [.ref q] [u] Q I (.cons rv .nil) ⟨q, vs, rfl, .inl ⟨hl, fun r hr => post_newT rh hr rs hp⟩⟩
theorem se_listL {q : Pos} {l : XA} (hg : sc.scope.names.lookup ("list" : Str) = some .globalImplicit) (hf : ("list" : Str) ∈ G.free) (hs : notStar a = true) (ha : SL G p sc a l) : SE G p sc (.Call (.Name "list" q) [a] [] pos) (eB gListL l) := by
  refine se_lcallTy hg hf (T := "list") (by decide +kernel) (by decide) (by decide) hs ha fun k W X cx pins s σ H v u Q xs h m I rv rh rl hp => ?_
  obtain ⟨q, vs, rfl, hl, rs⟩ := rl
  exact call_list_of pins s σ H [.ref q] [u] Q I (.cons rv .nil) ⟨q, vs, rfl, .inl hl, fun r hr => post_newL rh hr rs hp⟩
theorem sumI_eq : ∀ is : List Int, sumI is = is.sum
  | [] => rfl
  | i :: is => by show i + sumI is = _; rw [sumI_eq is, List.sum_cons]
theorem se_sum {q : Pos} {l : XA} (hg : sc.scope.names.lookup ("sum" : Str) = some .globalImplicit) (hf : ("sum" : Str) ∈ G.free) (hs : notStar a = true) (ha : SL G p sc a l) : SE G p sc (.Call (.Name "sum" q) [a] [] pos) (eB gSum l) := by
  refine se_lcall hg hf (id := "sum") (by decide +kernel) (by decide) (by decide) hs ha (g := gSum) fun k W X cx pins s σ H v u Q xs h m I rv rh rl hp => ?_
  unfold gSum at hp
  cases e : intsOf xs with
  | none => rw [e] at hp; exact hp.elim
  | some is =>
    rw [e] at hp
    obtain ⟨q, vs, rfl, hl, rs⟩ := rl
    rw [intsOf_ok rs e] at hl
    have q := hp m H _ rh.refl rh (.int _)
    rw [sumI_eq] at q
    exact cr_sum cx.calm pins s σ H [.ref _] [u] Q I (.cons rv .nil) ⟨_, is, rfl, hl, q⟩
theorem maxI_ok : ∀ (is : List Int) (m : Int), (maxI m is = m ∨ maxI m is ∈ is) ∧ m ≤ maxI m is ∧ ∀ y ∈ is, y ≤ maxI m is
  | [], m => ⟨.inl rfl, Int.le_refl _, fun _ h => by cases h⟩
  | i :: is, m => by
    have e : maxI m (i :: is) = maxI (cnd (ilt m i) i m) is := rfl
    obtain ⟨h1, h2, h3⟩ := maxI_ok is (cnd (ilt m i) i m)
    rw [← e] at h1 h2 h3
    cases c : ilt m i with
    | true =>
      have := ilt_iff.mp c
      rw [c] at h1 h2
      simp only [cnd_true] at h1 h2
      refine ⟨.inr ?_, by omega, fun y hy => ?_⟩
      · rcases h1 with h1 | h1
        · rw [h1]; exact List.mem_cons_self
        · exact List.mem_cons_of_mem _ h1
      · rcases List.mem_cons.mp hy with rfl | hy
        · exact h2
        · exact h3 y hy
    | false =>
      have : ¬ m < i := fun z => by rw [ilt_iff.mpr z] at c; cases c
      rw [c] at h1 h2
      simp only [cnd_false] at h1 h2
      refine ⟨?_, h2, fun y hy => ?_⟩
      · rcases h1 with h1 | h1
        · exact .inl h1
        · exact .inr (List.mem_cons_of_mem _ h1)
      · rcases List.mem_cons.mp hy with rfl | hy
        · omega
        · exact h3 y hy
theorem minI_ok : ∀ (is : List Int) (m : Int), (minI m is = m ∨ minI m is ∈ is) ∧ minI m is ≤ m ∧ ∀ y ∈ is, minI m is ≤ y
  | [], m => ⟨.inl rfl, Int.le_refl _, fun _ h => by cases h⟩
  | i :: is, m => by
    have e : minI m (i :: is) = minI (cnd (ilt i m) i m) is := rfl
    obtain ⟨h1, h2, h3⟩ := minI_ok is (cnd (ilt i m) i m)
    rw [← e] at h1 h2 h3
    cases c : ilt i m with
    | true =>
      have := ilt_iff.mp c
      rw [c] at h1 h2
      simp only [cnd_true] at h1 h2
      refine ⟨.inr ?_, by omega, fun y hy => ?_⟩
      · rcases h1 with h1 | h1
        · rw [h1]; exact List.mem_cons_self
        · exact List.mem_cons_of_mem _ h1
      · rcases List.mem_cons.mp hy with rfl | hy
        · exact h2
        · exact h3 y hy
    | false =>
      have : ¬ i < m := fun z => by rw [ilt_iff.mpr z] at c; cases c
      rw [c] at h1 h2
      simp only [cnd_false] at h1 h2
      refine ⟨?_, h2, fun y hy => ?_⟩
      · rcases h1 with h1 | h1
        · exact .inl h1
        · exact .inr (List.mem_cons_of_mem _ h1)
      · rcases List.mem_cons.mp hy with rfl | hy
        · omega
        · exact h3 y hy
theorem se_maxL {q : Pos} {l : XA} (hg : sc.scope.names.lookup ("max" : Str) = some .globalImplicit) (hf : ("max" : Str) ∈ G.free) (hs : notStar a = true) (ha : SL G p sc a l) : SE G p sc (.Call (.Name "max" q) [a] [] pos) (eB gMaxL l) := by
  refine se_lcall hg hf (id := "max") (by decide +kernel) (by decide) (by decide) hs ha (g := gMaxL) fun k W X cx pins s σ H v u Q xs h m I rv rh rl hp => ?_
  unfold gMaxL at hp
  split at hp
  · rename_i i is e
    obtain ⟨q, vs, rfl, hl, rs⟩ := rl
    rw [intsOf_ok rs e] at hl
    have qq := hp m H _ rh.refl rh (.int _)
    refine cr_max cx.calm pins s σ H [.ref _] [u] Q I (.cons rv .nil) ⟨_, i :: is, rfl, hl, by simp, fun k hk hb => ?_⟩
    obtain ⟨h1, h2, h3⟩ := maxI_ok is i
    have : k = maxI i is := by
      have a1 : k ≤ maxI i is := by
        rcases List.mem_cons.mp hk with rfl | hk
        · exact h2
        · exact h3 k hk
      have a2 : maxI i is ≤ k := by
        rcases h1 with h1 | h1
        · rw [h1]; exact hb i List.mem_cons_self
        · exact hb _ (List.mem_cons_of_mem _ h1)
      omega
    rw [this]
    exact qq
  · exact hp.elim
theorem se_minL {q : Pos} {l : XA} (hg : sc.scope.names.lookup ("min" : Str) = some .globalImplicit) (hf : ("min" : Str) ∈ G.free) (hs : notStar a = true) (ha : SL G p sc a l) : SE G p sc (.Call (.Name "min" q) [a] [] pos) (eB gMinL l) := by
  refine se_lcall hg hf (id := "min") (by decide +kernel) (by decide) (by decide) hs ha (g := gMinL) fun k W X cx pins s σ H v u Q xs h m I rv rh rl hp => ?_
  unfold gMinL at hp
  split at hp
  · rename_i i is e
    obtain ⟨q, vs, rfl, hl, rs⟩ := rl
    rw [intsOf_ok rs e] at hl
    have qq := hp m H _ rh.refl rh (.int _)
    refine cr_min cx.calm pins s σ H [.ref _] [u] Q I (.cons rv .nil) ⟨_, i :: is, rfl, hl, by simp, fun k hk hb => ?_⟩
    obtain ⟨h1, h2, h3⟩ := minI_ok is i
    have : k = minI i is := by
      have a1 : minI i is ≤ k := by
        rcases List.mem_cons.mp hk with rfl | hk
        · exact h2
        · exact h3 k hk
      have a2 : k ≤ minI i is := by
        rcases h1 with h1 | h1
        · rw [h1]; exact hb i List.mem_cons_self
        · exact hb _ (List.mem_cons_of_mem _ h1)
      omega
    rw [this]
    exact qq
  · exact hp.elim

/-! ### len -/
theorem se_len {q : Pos} {tab : List (Nat × Nat)} (ht : MethOk G ("__len__" : Str) tab) (hg : sc.scope.names.lookup ("len" : Str) = some .globalImplicit) (hf : ("len" : Str) ∈ G.free) (hs : notStar a = true) (ha : SE G p sc a fa) : SE G p sc (.Call (.Name "len" q) [a] [] pos) (eLen tab fa) := by
  intro k W X cx
  refine ⟨fun pins s σ H Q I ⟨sv, h, m, rh, re, hp⟩ => ?_⟩
  refine wpAny_Call_Name_kw (ld_blt I (glob_of cx hg) (cx.g.free _ hf) PySem.boot_len ?_)
  refine PyProof.Rows.callWith_builtin1 ?_ (star_no hs) rfl
  rw [star_no hs]
  refine Calls.spliced_cons (thn ((ha k W X cx).run pins s σ H (fun v H1 => ∃ x h1 m1, RH X.K p.C m1 h1 H1 ∧ RP m1 h1.size H1 x v ∧ Post X.K p RP (fun cls d H' => W cls d σ H') h1 m1 H1 (lenV tab (callD G.tab k) x h1) Q) I
    (te_bind rh re hp fun v H1 x h1 m1 l1 rh1 re1 ra hp1 => ⟨x, h1, m1, rh1, ra, hp1⟩)) fun u s1 ⟨v, H1, I1, rv, x, h1, m1, rh1, ra, hp1⟩ => Calls.spliced_nil ?_)
  unfold lenV at hp1
  cases x <;> first | (exact hp1.elim) | skip
  · rename_i z
    rw [ra.str_inv] at rv
    obtain ⟨c, hp1⟩ := cnd_post hp1
    have hsl : sizeLine = 16777216 := by decide
    have c1 : z.length ≤ 65536 := by unfold fitsN at c; rwa [Nat.ble_eq] at c
    exact call_len_str pins s1 σ H1 [.str z] [u] Q I1 (.cons rv .nil) ⟨z, rfl, by omega, hp1 m1 H1 _ rh1.refl rh1 (.int _)⟩
  · rename_i xs
    obtain ⟨q, vs, rfl, eq, rs⟩ := ra.tup_inv
    have qq := hp1 m1 H1 _ rh1.refl rh1 (.int _)
    rw [← rs.length] at qq
    exact call_len_seq pins s1 σ H1 [.ref q] [u] Q I1 (.cons rv .nil) ⟨q, vs, rfl, .inr (SqT.of eq), qq⟩
  · rename_i n
    obtain ⟨ev, hn⟩ := ra.ref_inv
    subst ev
    simp only at hp1
    split at hp1
    · rename_i xs hx
      obtain ⟨vs, hl, rs⟩ := rh1.sqL (.inl hx)
      have qq := hp1 m1 H1 _ rh1.refl rh1 (.int _)
      rw [← rs.length] at qq
      exact call_len_seq pins s1 σ H1 [.ref _] [u] Q I1 (.cons rv .nil) ⟨_, vs, rfl, .inl hl, qq⟩
    · rename_i xs hx
      obtain ⟨vs, hl, rs⟩ := rh1.sqL (.inr hx)
      have qq := hp1 m1 H1 _ rh1.refl rh1 (.int _)
      rw [← rs.length] at qq
      exact call_len_seq pins s1 σ H1 [.ref _] [u] Q I1 (.cons rv .nil) ⟨_, vs, rfl, .inl hl, qq⟩
    · rename_i kvs hx
      obtain ⟨c, hp1⟩ := cnd_post hp1
      have qq := hp1 m1 H1 _ rh1.refl rh1 (.int _)
      obtain rfl : u = Value.ref (m1.a n) := rv
      exact kd_len I1 rh1 hx fun t s' I' => ⟨.int (kvs.length : Nat), H1, I', ⟨t, rfl⟩, qq⟩
    · rename_i c fs hx
      cases el : lookC c tab with
      | none => simp only [el] at hp1; exact hp1.elim
      | some f =>
        simp only [el] at hp1
        obtain ⟨sc', mm⟩ := cx.g.me c _ f (ht c f (lookC_mem el))
        obtain ⟨_, _, vs, hs', rs⟩ := rh1.obj n _ hx
        have nb : callD G.tab k f [.ref n] h1 ≠ .bad := by
          intro z
          rw [z] at hp1
          exact hp1.elim
        obtain ⟨d, ed⟩ := nth_some nb
        obtain ⟨F, kp⟩ := cx.g.fn f d ed
        obtain ⟨sl, od, _, J, _⟩ := SlX.slt_inst I1 hs'
        obtain ⟨mf, FR⟩ := I1.fr
        obtain rfl : u = Value.ref (m1.a n) := rv
        refine PySem.W.len_K FR I1.mod.kin J mm.at_ mm.fn ?_
        have hr : Room (6 * k) X.A.in1 := (cx.room.mono (j := 6 * k + 1) (by omega)).in1
        have hsp : spF X.K p (callD G.tab k) f [.ref (m1.a n)] H1 (fun v' H2 => ∃ i : Int, v' = .int i ∧ (0 ≤ i ∧ i < 65536) ∧ Q (.int i) H2) (fun _ _ _ => False) := by
          refine ⟨h1, m1, [.ref n], rh1, .cons ra .nil, ?_⟩
          cases er : callD G.tab k f [.ref n] h1 with
          | bad => exact absurd er nb
          | err x' h' => rw [er] at hp1; exact hp1.elim
          | ok v' h' =>
            rw [er] at hp1
            intro m2 H2 w l2 rh2 rw2
            replace hp1 : Post X.K p RP (fun cls d H' => W cls d σ H') h1 m1 H1 (lenI v' h') Q := hp1
            unfold lenI at hp1
            cases v' <;> first | exact hp1.elim | skip
            rename_i i
            obtain ⟨c1, hp1⟩ := cnd_post hp1
            obtain ⟨c2, hp1⟩ := cnd_post hp1
            rw [ile_eq, decide_eq_true_iff] at c1
            exact ⟨i, rw2.int_inv, ⟨c1, ilt_iff.mp c2⟩, hp1 m2 H2 _ l2 rh2 (.int i)⟩
        refine wpAny_mono (wpAny_call (SlX.run_at (A := X.A.in1) (E := fun _ _ _ => False) F hr I1.env0.in1 (fun _ _ _ _ _ _ _ z => (cx_false z).elim) I1 (ws := [.ref (m1.a n)]) (us := [.ref (m1.a n)]) (.cons rfl .nil) hsp)) (fun w s2 ⟨v', H2, I2, rw2, i, ei, hb, q⟩ => ?_) fun _ _ z => z
        subst ei
        obtain ⟨t, rfl⟩ := rw2
        refine ⟨⟨hb.1, by omega⟩, .int i, H2, I2.tok _, ⟨_, rfl⟩, q⟩
    · exact hp1.elim
end
end Ev
end

section
set_option Elab.async false
set_option linter.all false
set_option maxRecDepth 100000
/-! Ev: append, targets, statements. -/
namespace Ev
open PySem PySem.Spec PyProof.Rows L2

section
variable {G : GT} {p : Pl} {sc : Sc} {a b : Expr} {fa fb : XE} {pos apos : Pos}
/-- o.append(e) -/
theorem app_ok' {X : Cx} : MtR X "list.append" (fun x xs H Q => ∃ (n : Nat) (y : PV) (l : List PV) (w : V) (h : Mem) (m : Mp), x = .ref (m.a n) ∧ xs = [w] ∧ RH X.K p.C m h H ∧ h.get n = some (.lst l) ∧ RP m h.size H y w ∧ fits l = true ∧ h.free n = true ∧
    Post X.K p RP (fun _ _ _ => False) h m H (.ok .non (h.set n (.lst (l ++ [y])))) Q) := by
  rintro pins s σ H x xs v us Q I rx rxs ⟨n, y, l, w, h, m, rfl, rfl, rh, hn, ry, hf, hfr, hp⟩
  obtain ⟨_, vs, ev, rs⟩ := rh.obj n _ hn
  have hsl : sizeLine = 16777216 := by decide
  have hl : l.length ≤ 65536 := by unfold fits fitsN at hf; rwa [Nat.ble_eq] at hf
  have hvl := rs.length
  obtain ⟨l', rh'⟩ := rh.putL hn (Mem.free_iff.mp hfr) (rs.append (.cons ry .nil))
  exact mt_append pins s σ H _ _ v us Q I rx rxs ⟨m.a n, vs, w, rfl, rfl, ev, by omega, hp _ _ _ l' rh' .non⟩
theorem few_app {e : Expr} {env : PySem.Env} (hs : notStar e = true) : ((backTo pos (starEach [e] env)).all (fun x => !x.1) && (backToKw pos (keywordEach [] env)).all (fun x => x.1.isSome)
      && decide (([e] : List Expr).length + ([] : List Keyword).length + (if ([] : List Keyword).isEmpty then 0 else 1) < 30)) = true := by
  rw [star_no hs]
  rfl
theorem se_app (hb : plainBase a = true) (hs : notStar b = true) (hp : (apos.endLine == pos.line) = true) (ha : SE G p sc a fa) (hbb : SE G p sc b fb) : SE G p sc (.Call (.Attribute a ("append" : Str) apos) [b] [] pos) (eApp fa fb) := by
  intro k W X cx
  refine PE.imp (pe_bm PySem.F.plainAttrs_list PySem.F.slot_list_append PySem.F.type_list_append (app_ok' (p := p)) (ha k W X cx) (pa_cons (hbb k W X cx) pa_nil (star_no hs)) (base_ok hb) (few_app hs) hp (star_no hs) rfl) ?_
  rintro σ H Q ⟨s, h, m, rh, re, hq⟩
  refine te_bind rh re hq fun v H1 x h1 m1 l1 rh1 re1 ra hp1 => ?_
  cases x <;> first | exact hp1.elim | skip
  rename_i n
  cases e : h1.get n with
  | none => simp only [e] at hp1; exact hp1.elim
  | some o =>
    cases o <;> simp only [e] at hp1 <;> first | exact hp1.elim | skip
    rename_i xs
    obtain ⟨ev, hn⟩ := ra.ref_inv
    subst ev
    obtain ⟨_, vs, hv, rs⟩ := rh1.obj n _ e
    refine ⟨.inl ⟨rfl, vs, SqL.of hv⟩, ?_⟩
    refine te_bind rh1 re1 hp1 fun u H2 y h2 m2 l2 rh2 re2 ry hp2 => ?_
    cases e2 : h2.get n with
    | none => simp only [e2] at hp2; exact hp2.elim
    | some o =>
      cases o <;> simp only [e2] at hp2 <;> first | exact hp2.elim | skip
      rename_i ys
      obtain ⟨c1, hp2⟩ := cnd_post hp2
      obtain ⟨c2, hp2⟩ := cnd_post hp2
      refine ⟨n, y, ys, u, h2, m2, ?_, rfl, rh2, e2, ry, c1, c2, hp2⟩
      rw [(l2.keep n hn).1]

/-! ### targets -/
theorem tg_post {K : PySem.W.Frag} {W : WX} {c : Calls} {g : XG} {v : V} {x : PV} {σ : L2.St} {H : Hp} {s : Env} {h : Mem} {m : Mp} {Q : L2.St → Hp → Prop} (rh : RH K p.C m h H) (re : RE m h.size H s σ) (rx : RP m h.size H x v)
    (hp : Post K p RE (fun cls d H' => W cls d σ H') h m H (g c x s h) Q) : tgOf K p W c g v σ H Q := ⟨s, h, m, x, rh, re, rx, hp⟩
theorem sg_name {x : Str} {i : Nat} (hi : sc.N[i]? = some x) (hx : Loc sc.scope x) (hf : sc.fn x = true ∨ sc.scope.names.lookup x = some .local) : SG G p sc (.Name x pos) (gName i) := fun k W X cx =>
  PG.imp (pg_name (i := i) cx.nd (by rw [cx.n]; exact hi) (by rw [cx.sco]; exact hx) (by rw [cx.fn, cx.sco]; exact hf)) fun v σ H Q ⟨s, h, m, y, rh, re, ry, hp⟩ => hp m H _ rh.refl rh (re.set i ry)
theorem PGs.imp {X : Cx} {es : List Expr} {t t' : TGs} (h : PGs X es t) (k : ∀ v σ H Q, t' v σ H Q → t v σ H Q) : PGs X es t' := ⟨fun pins s σ H v u Q I r hq => h.run pins s σ H v u Q I r (k v σ H Q hq)⟩
/-- the names at these slots -/
def NamesAt (sc : Sc) : List Expr → List Nat → Prop
  | [], [] => True
  | .Name x _ :: es, i :: is => sc.N[i]? = some x ∧ Loc sc.scope x ∧ (sc.fn x = true ∨ sc.scope.names.lookup x = some .local) ∧ NamesAt sc es is
  | _, _ => False
def setV : List Nat → List V → L2.St → L2.St
  | i :: is, v :: vs, σ => setV is vs (σ.set i (some v))
  | _, _, σ => σ
theorem pgs_names {k : Nat} {W : WX} {X : Cx} (cx : ECx G p k sc W X) : ∀ {es : List Expr} {is : List Nat}, NamesAt sc es is → PGs X es (fun vs σ H Q => vs.length = is.length ∧ Q (setV is vs σ) H) ∧ es.length = is.length ∧ (assignEach es X.env).length = es.length ∧ (assignEach es X.env).findIdx? (·.1) = none
  | [], [], _ => by
    refine ⟨PGs.imp pgs_nil fun vs σ H Q ⟨e, q⟩ => ?_, rfl, rfl, rfl⟩
    cases vs with
    | nil => exact ⟨rfl, q⟩
    | cons _ _ => cases e
  | [], _ :: _, h => h.elim
  | .Name x pos :: es, i :: is, ⟨hi, hx, hf, hr⟩ => by
    obtain ⟨h1, h2, h3, h4⟩ := pgs_names cx hr
    refine ⟨PGs.imp (pgs_cons (pg_name (i := i) cx.nd (by rw [cx.n]; exact hi) (by rw [cx.sco]; exact hx) (by rw [cx.fn, cx.sco]; exact hf)) h1) fun vs σ H Q ⟨e, q⟩ => ?_, by simp [h2], ?_, ?_⟩
    · cases vs with
      | nil => cases e
      | cons y ys => exact ⟨_, _, rfl, by simpa using e, q⟩
    · show (assignEach es X.env).length + 1 = es.length + 1
      rw [h3]
    · show (List.findIdx? (·.1) ((false, _) :: assignEach es X.env)) = none
      rw [List.findIdx?_cons]
      simp [h4]
  | .Name _ _ :: _, [], h => h.elim
theorem setAll_len : ∀ {is : List Nat} {xs : List PV} {s s' : Env}, setAll is xs s = some s' → xs.length = is.length
  | [], [], _, _, _ => rfl
  | [], _ :: _, _, _, e => by cases e
  | _ :: _, [], _, _, e => by cases e
  | i :: is, x :: xs, s, s', e => by
    have := setAll_len (is := is) (xs := xs) e
    simp [this]
theorem setAll_re {m : Mp} {z : Nat} {H : Hp} : ∀ {is : List Nat} {xs : List PV} {vs : List V} {s s' : Env} {σ : L2.St}, setAll is xs s = some s' → RPs m z H xs vs → RE m z H s σ → RE m z H s' (setV is vs σ)
  | [], [], _, _, _, _, e, .nil, re => by cases e; exact re
  | [], _ :: _, _, _, _, _, e, _, _ => by cases e
  | _ :: _, [], _, _, _, _, e, _, _ => by cases e
  | i :: is, x :: xs, _, s, s', σ, e, .cons r rs, re => setAll_re (is := is) (xs := xs) e rs (re.set i r)
/-- the target as a rule says it -/
def ctR (K : PySem.W.Frag) : Tg → TG
  | .nm i => fun v σ H Q => Q (σ.set i (some v)) H
  | .un is => fun v σ H Q => ∃ a vs, v = .ref a ∧ (SqL K H a vs ∨ H a = some (.tup vs)) ∧ vs.length = is.length ∧ Q (setV is vs σ) H
  | .un2 l1 is l2 => fun v σ H Q => ∃ a vs1 b ws vs2, v = .ref a ∧ (SqL K H a (vs1 ++ V.ref b :: vs2) ∨ H a = some (.tup (vs1 ++ V.ref b :: vs2))) ∧ vs1.length = l1.length ∧ vs2.length = l2.length ∧ (SqL K H b ws ∨ H b = some (.tup ws)) ∧ ws.length = is.length ∧
      Q (setV l2 vs2 (setV is ws (setV l1 vs1 σ))) H
def TgOk (sc : Sc) (e : Expr) : Tg → Prop
  | .nm i => ∃ x pos, e = .Name x pos ∧ sc.N[i]? = some x ∧ Loc sc.scope x ∧ (sc.fn x = true ∨ sc.scope.names.lookup x = some .local)
  | .un is => ∃ es j pos, e = .Tuple es j pos ∧ NamesAt sc es is
  | .un2 l1 is l2 => ∃ es1 es' j' pos' es2 j pos, e = .Tuple (es1 ++ .Tuple es' j' pos' :: es2) j pos ∧ NamesAt sc es1 l1 ∧ NamesAt sc es' is ∧ NamesAt sc es2 l2
theorem pg_un {k : Nat} {W : WX} {X : Cx} (cx : ECx G p k sc W X) {es : List Expr} {is : List Nat} {j : Nat} {pos : Pos} (hn : NamesAt sc es is) : PG X (.Tuple es j pos) (ctR X.K (.un is)) := by
  obtain ⟨h1, h2, h3, h4⟩ := pgs_names cx hn
  refine ⟨fun pins s σ H v u Q I r ⟨q, vs, ev, hl, hlen, hq⟩ => ?_⟩
  subst ev
  rcases hl with hl | hl
  · exact (pg_lst cx.calm h1 (n := es.length) h3 h4).run pins s σ H _ u Q I r ⟨q, vs, rfl, hl, by omega, hlen, hq⟩
  · exact (pg_tup cx.calm h1 (n := es.length) h3 h4).run pins s σ H _ u Q I r ⟨q, vs, rfl, SqT.of hl, by omega, hlen, hq⟩
/-- names, one thing in brackets, names -/
theorem pgs_mix {k : Nat} {W : WX} {X : Cx} (cx : ECx G p k sc W X) {es' es2 : List Expr} {is l2 : List Nat} {j' : Nat} {pos' : Pos} (hn' : NamesAt sc es' is) (hn2 : NamesAt sc es2 l2) : ∀ {es1 : List Expr} {l1 : List Nat}, NamesAt sc es1 l1 →
    PGs X (es1 ++ .Tuple es' j' pos' :: es2) (fun vs σ H Q => ∃ vs1 b ws vs2, vs = vs1 ++ V.ref b :: vs2 ∧ vs1.length = l1.length ∧ vs2.length = l2.length ∧ (SqL X.K H b ws ∨ H b = some (.tup ws)) ∧ ws.length = is.length ∧ Q (setV l2 vs2 (setV is ws (setV l1 vs1 σ))) H) ∧
      (assignEach (es1 ++ .Tuple es' j' pos' :: es2) X.env).length = (es1 ++ .Tuple es' j' pos' :: es2).length ∧ (assignEach (es1 ++ .Tuple es' j' pos' :: es2) X.env).findIdx? (·.1) = none ∧ es1.length = l1.length
  | [], [], _ => by
    obtain ⟨h1, h2, h3, h4⟩ := pgs_names cx hn2
    refine ⟨PGs.imp (pgs_cons (pg_un cx (j := j') (pos := pos') hn') h1) fun vs σ H Q ⟨vs1, b, ws, vs2, e, e1, e2, hb, hw, q⟩ => ?_, ?_, ?_, rfl⟩
    · cases vs1 with
      | nil => exact ⟨_, _, e, b, ws, rfl, hb, hw, e2, q⟩
      | cons _ _ => cases e1
    · show (assignEach es2 X.env).length + 1 = es2.length + 1
      rw [h3]
    · show (List.findIdx? (·.1) ((false, _) :: assignEach es2 X.env)) = none
      rw [List.findIdx?_cons]
      simp [h4]
  | [], _ :: _, h => h.elim
  | .Name x pos :: es, i :: l1, ⟨hi, hx, hf, hr⟩ => by
    obtain ⟨h1, h3, h4, h5⟩ := pgs_mix cx hn' hn2 hr
    refine ⟨PGs.imp (pgs_cons (pg_name (i := i) cx.nd (by rw [cx.n]; exact hi) (by rw [cx.sco]; exact hx) (by rw [cx.fn, cx.sco]; exact hf)) h1) fun vs σ H Q ⟨vs1, b, ws, vs2, e, e1, e2, hb, hw, q⟩ => ?_, ?_, ?_, by simp [h5]⟩
    · cases vs1 with
      | nil => cases e1
      | cons y ys => exact ⟨y, ys ++ V.ref b :: vs2, e, ys, b, ws, vs2, rfl, by simpa using e1, e2, hb, hw, q⟩
    · show (assignEach (es ++ .Tuple es' j' pos' :: es2) X.env).length + 1 = (es ++ .Tuple es' j' pos' :: es2).length + 1
      rw [h3]
    · show (List.findIdx? (·.1) ((false, _) :: assignEach (es ++ .Tuple es' j' pos' :: es2) X.env)) = none
      rw [List.findIdx?_cons]
      simp [h4]
  | .Name _ _ :: _, [], h => h.elim
theorem ct_ok {k : Nat} {W : WX} {X : Cx} (cx : ECx G p k sc W X) {e : Expr} {g : Tg} (h : TgOk sc e g) : PG X e (ctR X.K g) := by
  cases g with
  | nm i =>
    obtain ⟨x, pos, rfl, hi, hx, hf⟩ := h
    exact pg_name (i := i) cx.nd (by rw [cx.n]; exact hi) (by rw [cx.sco]; exact hx) (by rw [cx.fn, cx.sco]; exact hf)
  | un is =>
    obtain ⟨es, j, pos, rfl, hn⟩ := h
    obtain ⟨h1, h2, h3, h4⟩ := pgs_names cx hn
    refine ⟨fun pins s σ H v u Q I r ⟨q, vs, ev, hl, hlen, hq⟩ => ?_⟩
    subst ev
    rcases hl with hl | hl
    · exact (pg_lst cx.calm h1 (n := es.length) h3 h4).run pins s σ H _ u Q I r ⟨q, vs, rfl, hl, by omega, hlen, hq⟩
    · exact (pg_tup cx.calm h1 (n := es.length) h3 h4).run pins s σ H _ u Q I r ⟨q, vs, rfl, SqT.of hl, by omega, hlen, hq⟩
  | un2 l1 is l2 =>
    obtain ⟨es1, es', j', pos', es2, j, pos, rfl, hn1, hn', hn2⟩ := h
    obtain ⟨h1, h3, h4, h5⟩ := pgs_mix cx (j' := j') (pos' := pos') hn' hn2 hn1
    obtain ⟨_, h2', _, _⟩ := pgs_names cx hn2
    refine ⟨fun pins s σ H v u Q I r ⟨q, vs1, b, ws, vs2, ev, hl, e1, e2, hb, hw, hq⟩ => ?_⟩
    subst ev
    have hlen : (vs1 ++ V.ref b :: vs2).length = (es1 ++ Expr.Tuple es' j' pos' :: es2).length := by
      simp only [List.length_append, List.length_cons]
      omega
    rcases hl with hl | hl
    · exact (pg_lst cx.calm h1 (n := (es1 ++ Expr.Tuple es' j' pos' :: es2).length) h3 h4).run pins s σ H _ u Q I r ⟨q, _, rfl, hl, hlen, vs1, b, ws, vs2, rfl, e1, e2, hb, hw, hq⟩
    · exact (pg_tup cx.calm h1 (n := (es1 ++ Expr.Tuple es' j' pos' :: es2).length) h3 h4).run pins s σ H _ u Q I r ⟨q, _, rfl, SqT.of hl, hlen, vs1, b, ws, vs2, rfl, e1, e2, hb, hw, hq⟩
/-- what the target makes of the slots -/
def ctV : Tg → V → List V → L2.St → L2.St
  | .nm i, v, _, σ => σ.set i (some v)
  | .un is, _, vs, σ => setV is vs σ
  | .un2 l1 is l2, _, vs, σ => setV l2 (vs.drop (l1.length + is.length)) (setV is ((vs.drop l1.length).take is.length) (setV l1 (vs.take l1.length) σ))
theorem setPre_re {m : Mp} {z : Nat} {H : Hp} : ∀ {is : List Nat} {xs r : List PV} {vs : List V} {s s' : Env} {σ : L2.St}, setPre is xs s = some (s', r) → RPs m z H xs vs → RE m z H s σ → ∃ vs1 vs2, vs = vs1 ++ vs2 ∧ vs1.length = is.length ∧ RPs m z H r vs2 ∧ RE m z H s' (setV is vs1 σ)
  | [], _, _, vs, _, _, _, e, rs, re => by cases e; exact ⟨[], vs, rfl, rfl, rs, re⟩
  | i :: is, x :: xs, r, _, s, s', σ, e, .cons r1 rs, re => by
    obtain ⟨vs1, vs2, e1, e2, e3, e4⟩ := setPre_re (is := is) (xs := xs) e rs (re.set i r1)
    exact ⟨_ :: vs1, vs2, by rw [e1]; rfl, by simp [e2], e3, e4⟩
  | _ :: _, [], _, _, _, _, _, e, _, _ => by cases e
theorem set2_some {h : Mem} {l1 is l2 : List Nat} {xs : List PV} {s s' : Env} (e : set2 h l1 is l2 xs s = some s') : ∃ s1 x r ys s2, setPre l1 xs s = some (s1, x :: r) ∧ itemsOf h x = some ys ∧ setAll is ys s1 = some s2 ∧ setAll l2 r s2 = some s' := by
  unfold set2 at e
  split at e
  · rename_i s1 x r e1
    split at e
    · rename_i ys e2
      split at e
      · rename_i s2 e3
        exact ⟨s1, x, r, ys, s2, e1, e2, e3, e⟩
      · cases e
    · cases e
  · cases e
theorem ct_read {K : PySem.W.Frag} {c : Calls} {g : Tg} {x : PV} {v : V} {σ : L2.St} {s s' : Env} {h h' : Mem} {m : Mp} {H : Hp} {Q : L2.St → Hp → Prop} (rh : RH K p.C m h H) (re : RE m h.size H s σ) (rx : RP m h.size H x v) (e : tgG g c x s h = .ok s' h')
    (k : ∀ vs, RE m h.size H s' (ctV g v vs σ) → Q (ctV g v vs σ) H) : h' = h ∧ ctR K g v σ H Q := by
  cases g with
  | nm i =>
    cases e
    exact ⟨rfl, k [] (re.set i rx)⟩
  | un is =>
    have e : (match itemsOf h x with
      | some xs => ofO (setAll is xs s) h
      | none => .bad) = .ok s' h' := e
    cases e1 : itemsOf h x with
    | none => rw [e1] at e; cases e
    | some xs =>
      rw [e1] at e
      cases e2 : setAll is xs s with
      | none => simp only [e2] at e; cases e
      | some s2 =>
        simp only [e2] at e
        cases e
        obtain ⟨q, vs, rfl, hl, rs⟩ := itemsOf_ok rh rx e1
        exact ⟨rfl, q, vs, rfl, hl, by rw [rs.length, setAll_len e2], k vs (setAll_re e2 rs re)⟩
  | un2 l1 is l2 =>
    have e : (match itemsOf h x with
      | some xs => ofO (set2 h l1 is l2 xs s) h
      | none => .bad) = .ok s' h' := e
    cases e1 : itemsOf h x with
    | none => rw [e1] at e; cases e
    | some xs =>
      rw [e1] at e
      cases e2 : set2 h l1 is l2 xs s with
      | none => simp only [e2] at e; cases e
      | some s2 =>
        simp only [e2] at e
        cases e
        obtain ⟨q, vs, rfl, hl, rs⟩ := itemsOf_ok rh rx e1
        obtain ⟨s1, y, r, ys, s3, f1, f2, f3, f4⟩ := set2_some e2
        obtain ⟨vs1, vs2, g1, g2, g3, g4⟩ := setPre_re f1 rs re
        cases g3 with
        | cons ry rr =>
          rename_i vy vr
          obtain ⟨b, ws, rfl, hb, rw'⟩ := itemsOf_ok rh ry f2
          have re3 := setAll_re f4 rr (setAll_re f3 rw' g4)
          have hw : ws.length = is.length := by rw [rw'.length, setAll_len f3]
          refine ⟨rfl, q, vs1, b, ws, vr, rfl, by rw [← g1]; exact hl, g2, by rw [rr.length, setAll_len f4], hb, hw, ?_⟩
          have kk := k (vs1 ++ (ws ++ vr))
          have t1 : (vs1 ++ (ws ++ vr)).take l1.length = vs1 := by rw [← g2, List.take_left]
          have t2 : (vs1 ++ (ws ++ vr)).drop l1.length = ws ++ vr := by rw [← g2, List.drop_left]
          have t3 : (vs1 ++ (ws ++ vr)).drop (l1.length + is.length) = vr := by rw [← List.drop_drop, t2, ← hw, List.drop_left]
          have t4 : (ws ++ vr).take is.length = ws := by rw [← hw, List.take_left]
          simp only [ctV, t1, t2, t3, t4] at kk
          exact kk re3
theorem ct_err {c : Calls} {g : Tg} {x : PV} {s : Env} {h : Mem} : Pure (tgG g c x s h) := by
  intro y h' z
  cases g with
  | nm i => cases z
  | un is =>
    have z : (match itemsOf h x with
      | some xs => ofO (setAll is xs s) h
      | none => .bad) = .err y h' := z
    cases e1 : itemsOf h x with
    | none => rw [e1] at z; cases z
    | some xs =>
      rw [e1] at z
      cases e2 : setAll is xs s <;> simp only [e2] at z <;> cases z
  | un2 l1 is l2 =>
    have z : (match itemsOf h x with
      | some xs => ofO (set2 h l1 is l2 xs s) h
      | none => .bad) = .err y h' := z
    cases e1 : itemsOf h x with
    | none => rw [e1] at z; cases z
    | some xs =>
      rw [e1] at z
      cases e2 : set2 h l1 is l2 xs s <;> simp only [e2] at z <;> cases z
theorem sg_tg {e : Expr} {g : Tg} (h : TgOk sc e g) : SG G p sc e (tgG g) := fun k W X cx => PG.imp (ct_ok cx h) fun v σ H Q ⟨s, hm, m, x, rh, re, rx, hp⟩ => by
  cases er : tgG g (callD G.tab k) x s hm with
  | bad => rw [er] at hp; exact hp.elim
  | err y h' => exact absurd er (ct_err y h')
  | ok s' h' =>
    rw [er] at hp
    refine (ct_read rh re rx er fun vs re' => ?_).2
    have e := (ct_read (K := X.K) (Q := fun _ _ => True) rh re rx er fun _ _ => True.intro).1
    subst e
    exact hp m H _ rh.refl rh re'
/-- a target keeps the slots that are not its own -/
def tgIn (own : List Nat) : Tg → Prop
  | .nm i => i ∈ own
  | .un is => ∀ i ∈ is, i ∈ own
  | .un2 l1 is l2 => (∀ i ∈ l1, i ∈ own) ∧ (∀ i ∈ is, i ∈ own) ∧ ∀ i ∈ l2, i ∈ own
theorem wipe_set {i : Nat} {w : Option V} : ∀ {own : List Nat} {σ : L2.St}, i ∈ own → wipe (σ.set i w) own = wipe σ own
  | [], _, h => by cases h
  | j :: own, σ, h => by
    show (wipe (σ.set i w) own).set j none = (wipe σ own).set j none
    by_cases e : i ∈ own
    · rw [wipe_set e]
    · have ej : i = j := by
        rcases List.mem_cons.mp h with h | h
        · exact h
        · exact absurd h e
      subst ej
      have : ∀ (l : List Nat) (σ : L2.St), i ∉ l → wipe (σ.set i w) l = (wipe σ l).set i w := by
        intro l
        induction l with
        | nil => intro σ _; rfl
        | cons a l ih =>
          intro σ hn
          have h1 : i ≠ a := fun z => hn (by rw [z]; exact List.mem_cons_self)
          have h2 : i ∉ l := fun z => hn (List.mem_cons_of_mem _ z)
          show (wipe (σ.set i w) l).set a none = ((wipe σ l).set a none).set i w
          rw [ih σ h2, List.set_comm _ _ h1]
      rw [this own σ e, List.set_set]
theorem wipe_setV {own : List Nat} : ∀ {is : List Nat} {vs : List V} {σ : L2.St}, (∀ i ∈ is, i ∈ own) → wipe (setV is vs σ) own = wipe σ own
  | [], [], _, _ => rfl
  | [], _ :: _, _, _ => rfl
  | _ :: _, [], _, _ => rfl
  | i :: is, v :: vs, σ, h => by
    show wipe (setV is vs (σ.set i (some v))) own = _
    rw [wipe_setV fun j hj => h j (List.mem_cons_of_mem _ hj), wipe_set (h i List.mem_cons_self)]
theorem wipe_wipe (σ : L2.St) (own : List Nat) : wipe (wipe σ own) own = wipe σ own := by
  have : ∀ (l : List Nat), (∀ i ∈ l, i ∈ own) → wipe (wipe σ l) own = wipe σ own := by
    intro l
    induction l with
    | nil => intro _; rfl
    | cons a l ih =>
      intro h
      show wipe ((wipe σ l).set a none) own = _
      rw [wipe_set (h a List.mem_cons_self), ih fun i hi => h i (List.mem_cons_of_mem _ hi)]
  exact this own fun _ h => h
theorem wipe_ct {own : List Nat} {g : Tg} {v : V} {vs : List V} {σ : L2.St} (h : tgIn own g) : wipe (ctV g v vs σ) own = wipe σ own := by
  cases g with
  | nm i => exact wipe_set h
  | un is => exact wipe_setV h
  | un2 l1 is l2 =>
    show wipe (setV l2 _ (setV is _ (setV l1 _ σ))) own = _
    rw [wipe_setV h.2.2, wipe_setV h.2.1, wipe_setV h.1]

/-! ### statements -/
theorem sOf_post {K : PySem.W.Frag} {W : WX} {D : Ends} {α β : Type} {R : Mp → Nat → Hp → α → β → Prop} {s : Env} {σ : L2.St} {h : Mem} {m : Mp} {H : Hp} {r : Res α} {f : α → Mem → SR} (re : RE m h.size H s σ) (hp : PostS K p W D h m H (sOf s r f)) :
    Post K p R (fun cls d H' => W cls d σ H') h m H r (fun b H1 => ∃ a h1 m1, Le h m H h1 m1 H1 ∧ RH K p.C m1 h1 H1 ∧ R m1 h1.size H1 a b ∧ PostS K p W D h m H (f a h1)) := by
  cases r with
  | ok a h1 => exact fun m1 H1 b l rh rr => ⟨a, h1, m1, l, rh, rr, hp⟩
  | err x h1 => exact fun m1 H1 cls d l rh rx => hp m1 H1 σ cls d l rh (re.mono l) rx
  | bad => exact hp
theorem PostS.shift {K : PySem.W.Frag} {W : WX} {D : Ends} {h h1 : Mem} {m m1 : Mp} {H H1 : Hp} {r : SR} (hp : PostS K p W D h m H r) (l : Le h m H h1 m1 H1) : PostS K p W D h1 m1 H1 r := by
  cases r with
  | nx s' h' => exact fun m' H' b l' => hp m' H' b (l.trans l')
  | rt v h' => exact fun m' H' b l' => hp m' H' b (l.trans l')
  | bk s' h' => exact fun m' H' b l' => hp m' H' b (l.trans l')
  | ct s' h' => exact fun m' H' b l' => hp m' H' b (l.trans l')
  | er x s' h' => exact fun m' H' σ' cls d l' => hp m' H' σ' cls d (l.trans l')
  | bad => exact hp
/-- an expression at a statement's start -/
theorem ts_te {K : PySem.W.Frag} {W : WX} {c : Calls} {D : Ends} {fa : XE} {s : Env} {h : Mem} {m : Mp} {σ : L2.St} {H : Hp} {f : PV → Mem → SR} {Q2 : VK} (rh : RH K p.C m h H) (re : RE m h.size H s σ) (hp : PostS K p W D h m H (sOf s (fa c s h) f))
    (k : ∀ v H1 a h1 m1, RH K p.C m1 h1 H1 → RE m1 h1.size H1 s σ → RP m1 h1.size H1 a v → PostS K p W D h1 m1 H1 (f a h1) → Q2 v H1) : teOf K p W c fa σ H Q2 :=
  ⟨s, h, m, rh, re, (sOf_post re hp).mono fun b H1 ⟨a, h1, m1, l, rh1, ra, q⟩ => k b H1 a h1 m1 rh1 (re.mono l) ra (q.shift l)⟩
theorem ts_tt {K : PySem.W.Frag} {W : WX} {c : Calls} {D : Ends} {t : XT} {s : Env} {h : Mem} {m : Mp} {σ : L2.St} {H : Hp} {f : Bool → Mem → SR} {Q2 : Bool → Hp → Prop} (rh : RH K p.C m h H) (re : RE m h.size H s σ) (hp : PostS K p W D h m H (sOf s (t c s h) f))
    (k : ∀ v H1 h1 m1, RH K p.C m1 h1 H1 → RE m1 h1.size H1 s σ → PostS K p W D h1 m1 H1 (f v h1) → Q2 v H1) : ttOf K p W c t σ H Q2 :=
  ⟨s, h, m, rh, re, (sOf_post (R := RB) re hp).mono fun b H1 ⟨a, h1, m1, l, rh1, ra, q⟩ => by
    have e : a = b := ra
    subst e
    exact k a H1 h1 m1 rh1 (re.mono l) (q.shift l)⟩
theorem PS.mk' {X : Cx} {e : Stmt} {t t' : TS} (h : PS X e t) (k : ∀ D σ H, t' D σ H → t D σ H) : PS X e t' := PS.imp h k
theorem sss_nil : SSs G p sc [] sNil := fun k W X cx => PSs.imp pss_nil fun D σ H ⟨s, h, m, rh, re, hp⟩ => hp m H σ rh.refl rh re
theorem seq_read {K : PySem.W.Frag} {W : WX} {c : Calls} {f g : XS} {D : Ends} {σ : L2.St} {H : Hp} (h : tsOf K p W c (sSeq f g) D σ H) : tSeq (tsOf K p W c f) (tsOf K p W c g) D σ H := by
  obtain ⟨s, h, m, rh, re, hp⟩ := h
  refine ⟨s, h, m, rh, re, ?_⟩
  unfold sSeq at hp
  cases e : f c s h with
  | nx s' h' =>
    rw [e] at hp
    exact fun m' H' σ' l rh' re' => ⟨s', h', m', rh', re', PostS.shift hp l⟩
  | rt v h' => rw [e] at hp; exact hp
  | bk s' h' => rw [e] at hp; exact hp
  | ct s' h' => rw [e] at hp; exact hp
  | er x s' h' => rw [e] at hp; exact hp
  | bad => rw [e] at hp; exact hp
theorem ss_re {st : Stmt} {f : XS} (h1 : SS G p sc st f) : SS G p sc st (sRe f) := fun k W X cx =>
  PS.imp (h1 k W X cx) fun D σ H h => by
    obtain ⟨s, h, m, rh, re, hp⟩ := h
    exact ⟨s, h.re, m, rh.re, re, hp.shift rh.le_re⟩
theorem sss_cons {st : Stmt} {rest : List Stmt} {f g : XS} (h1 : SS G p sc st f) (h2 : SSs G p sc rest g) : SSs G p sc (st :: rest) (sSeq f g) := fun k W X cx =>
  PSs.imp (pss_cons (h1 k W X cx) (h2 k W X cx)) fun D σ H h => seq_read h
theorem sss_one {st : Stmt} {f : XS} (h1 : SS G p sc st f) : SSs G p sc [st] f := fun k W X cx => pss_one (h1 k W X cx)
def notComp : Expr → Bool
  | .ListComp _ _ _ _ => false
  | .SetComp _ _ _ _ => false
  | .DictComp _ _ _ _ _ => false
  | _ => true
theorem noswap {v : Expr} {t : Option Expr} {l : Nat} {env : PySem.Env} (h : notComp v = true) : swapsWith v t l env = pure false := by
  cases v <;> first | rfl | cases h
theorem ss_expr (hs : notComp a = true) (ha : SE G p sc a fa) : SS G p sc (.Expr a pos) (sExpr fa) := fun k W X cx =>
  PS.imp (ps_expr (ha k W X cx) (noswap hs)) fun D σ H ⟨s, h, m, rh, re, hp⟩ => ts_te rh re hp fun v H1 x h1 m1 rh1 re1 ra hp1 => hp1 m1 H1 σ rh1.refl rh1 re1
theorem ss_ret (ha : SE G p sc a fa) : SS G p sc (.Return (some a) pos) (sRet fa) := fun k W X cx =>
  PS.imp (ps_ret (ha k W X cx)) fun D σ H ⟨s, h, m, rh, re, hp⟩ => ts_te rh re hp fun v H1 x h1 m1 rh1 re1 ra hp1 => hp1 m1 H1 v rh1.refl rh1 ra
theorem ss_if {t : XT} {c : Expr} {x y : List Stmt} {f g : XS} (hc : ST G p sc c t) (hx : SSs G p sc x f) (hy : SSs G p sc y g) : SS G p sc (.If c x y pos) (sIf t f g) := fun k W X cx =>
  PS.imp (ps_if (hc k W X cx) (hx k W X cx) (hy k W X cx)) fun D σ H ⟨s, h, m, rh, re, hp⟩ => ts_tt rh re hp fun v H1 h1 m1 rh1 re1 hp1 => by
    cases v with
    | true => exact ⟨s, h1, m1, rh1, re1, hp1⟩
    | false => exact ⟨s, h1, m1, rh1, re1, hp1⟩
/-- name = value -/
theorem ss_set {x : Str} {i : Nat} {pos' : Pos} (hi : sc.N[i]? = some x) (hx : Loc sc.scope x) (hf : sc.fn x = true ∨ sc.scope.names.lookup x = some .local) (hs : notComp a = true) (ha : SE G p sc a fa) : SS G p sc (.Assign [.Name x pos'] a pos) (sAsg fa (gName i)) := fun k W X cx =>
  PS.imp (ps_set (i := i) cx.nd (by rw [cx.n]; exact hi) (by rw [cx.sco]; exact hx) (ha k W X cx) (noswap hs) (by rw [cx.fn, cx.sco]; exact hf)) fun D σ H ⟨s, h, m, rh, re, hp⟩ =>
    ts_te rh re hp fun v H1 y h1 m1 rh1 re1 ra hp1 => hp1 m1 H1 _ rh1.refl rh1 (re1.set i ra)
theorem ss_pass : SS G p sc (.Pass pos) sNil := fun k W X cx => PS.imp ps_pass fun D σ H ⟨s, h, m, rh, re, hp⟩ => hp m H σ rh.refl rh re
/-- what the proof never comes to -/
theorem ss_bad {st : Stmt} : SS G p sc st sBad := fun k W X cx => PS.imp ps_never fun D σ H ⟨s, h, m, rh, re, hp⟩ => hp
end
end Ev
end

section
set_option Elab.async false
set_option linter.all false
set_option maxRecDepth 100000
/-! Ev: what is walked; for; comprehensions. -/
namespace Ev
open PySem PySem.Spec PyProof.Rows L2

/-! ### locks -/
section
variable {K : PySem.W.Frag} {C : CT} {h h1 h2 : Mem} {m m1 m2 : Mp} {H H1 H2 : Hp} {ls : List Nat}
theorem RH.lock (r : RH K C m h H) (hl : ∀ n ∈ ls, n < h.size) : RH K C m (h.lock ls) H :=
  ⟨r.all, r.obj, r.inj, fun n hn => (List.mem_append.mp hn).elim (hl n) (r.lok n), r.lod, r.tab⟩
theorem RH.unlock (r : RH K C m h H) (ls : List Nat) : RH K C m (h.unlock ls) H :=
  ⟨r.all, r.obj, r.inj, fun n hn => r.lok n (List.mem_of_mem_drop hn), r.lod, r.tab⟩
theorem Le.unlock (l : Le (h1.lock ls) m1 H1 h2 m2 H2) : Le h1 m1 H1 (h2.unlock ls) m2 H2 :=
  ⟨l.le, by rw [Mem.locks_unlock, l.lk, Mem.locks_lock]; simp, l.ld, fun n hn => l.lkd n (List.mem_append_right _ hn), fun n hn hl => l.lkh n (List.mem_append_right _ hn) hl, l.keep, l.frame, l.tbls, l.tups, l.new, l.old⟩
theorem RH.lrefl (r : RH K C m h H) (ls : List Nat) : Le (h.lock ls) m H (h.lock ls) m H :=
  ⟨Nat.le_refl _, rfl, rfl, fun _ _ => rfl, fun _ _ _ => rfl, fun _ _ => ⟨rfl, rfl⟩, fun _ _ e _ _ => e, fun _ _ e _ => ⟨_, e⟩, fun _ _ e => e, fun n h1 h2 => absurd h2 (by omega), fun n hn => ⟨(r.live hn).1, (r.live hn).2.1⟩⟩
end

/-! ### walks -/

/-- what a walk leans on: locked objects stay -/
structure Lz (h : Mem) (m : Mp) (H : Hp) (h' : Mem) (m' : Mp) (H' : Hp) : Prop where
  le : h.size ≤ h'.size
  lkd : ∀ n, n ∈ h.locks → h'.get n = h.get n
  lk : ∀ n, n ∈ h.locks → n ∈ h'.locks
  ld : ∀ n, n ∈ h.dl → n ∈ h'.dl
  lkh : ∀ n, n ∈ h.locks → n < h.size → H' (m.a n) = H (m.a n)
  keep : ∀ n, n < h.size → m'.a n = m.a n ∧ m'.d n = m.d n
  tups : ∀ a vs, H a = some (.tup vs) → H' a = some (.tup vs)
theorem Le.lz {h h' : Mem} {m m' : Mp} {H H' : Hp} (l : Le h m H h' m' H') : Lz h m H h' m' H' := ⟨l.le, l.lkd, fun n hn => by rw [l.lk]; exact hn, fun n hn => by rw [l.ld]; exact hn, l.lkh, l.keep, l.tups⟩
theorem Lz.trans {h h1 h2 : Mem} {m m1 m2 : Mp} {H H1 H2 : Hp} (a : Lz h m H h1 m1 H1) (b : Lz h1 m1 H1 h2 m2 H2) : Lz h m H h2 m2 H2 :=
  ⟨Nat.le_trans a.le b.le, fun n hn => (b.lkd n (a.lk n hn)).trans (a.lkd n hn), fun n hn => b.lk n (a.lk n hn), fun n hn => b.ld n (a.ld n hn), fun n hn hl => by
    have h1 := b.lkh n (a.lk n hn) (Nat.lt_of_lt_of_le hl a.le)
    rw [(a.keep n hl).1] at h1
    exact h1.trans (a.lkh n hn hl), fun n hn => by
    have h1 := a.keep n hn
    have h2 := b.keep n (Nat.lt_of_lt_of_le hn a.le)
    exact ⟨h2.1.trans h1.1, h2.2.trans h1.2⟩, fun p vs e => b.tups p vs (a.tups p vs e)⟩
theorem Lz.lw {h h' : Mem} {m m' : Mp} {H H' : Hp} (l : Lz h m H h' m' H') : Lw h.size m H h'.size m' H' := ⟨l.le, l.keep, l.tups⟩
/-- J tells the items xs in their order, whatever the memory becomes behind h1 -/
structure Walks (K : PySem.W.Frag) (p : Pl) (h1 : Mem) (m1 : Mp) (H1 : Hp) (ls : List Nat) (J : It) (xs : List PV) : Prop where
  loc : ∀ n ∈ ls, n < h1.size
  item : ∀ i x h2 m2 H2, xs[i]? = some x → Lz (h1.lock ls) m1 H1 h2 m2 H2 → RH K p.C m2 h2 H2 → J.go i H2 ∧ ∀ v H3, J.yld i H2 v H3 → Le h2 m2 H2 h2 m2 H3 ∧ RH K p.C m2 h2 H3 ∧ RP m2 h2.size H3 x v
  stop : ∀ h2 m2 H2, Lz (h1.lock ls) m1 H1 h2 m2 H2 → RH K p.C m2 h2 H2 → J.stop xs.length H2
def PostI (K : PySem.W.Frag) (p : Pl) (E : XK) (h : Mem) (m : Mp) (H : Hp) (r : Res (List PV × List Nat)) (R : It → Hp → Prop) : Prop := match r with
  | .ok q h' => ∀ m' H' J, Le h m H h' m' H' → RH K p.C m' h' H' → Walks K p h' m' H' q.2 J q.1 → R J H'
  | .err x h' => ∀ m' H' cls d, Le h m H h' m' H' → RH K p.C m' h' H' → RX p m' h'.size H' x cls d → E cls d H'
  | .bad => False
def tiOf (K : PySem.W.Frag) (p : Pl) (W : WX) (c : Calls) (f : XI) : TI := fun σ H R => ∃ s h m, RH K p.C m h H ∧ RE m h.size H s σ ∧ PostI K p (fun cls d H' => W cls d σ H') h m H (f c s h) R
def SI (G : GT) (p : Pl) (sc : Sc) (tg e : Expr) (f : XI) : Prop := ∀ k W X, ECx G p k sc W X → PI X tg e (tiOf X.K p W (callD G.tab k) f)
theorem PI.imp {X : Cx} {tg e : Expr} {t t' : TI} (h : PI X tg e t) (k : ∀ σ H R, t' σ H R → t σ H R) : PI X tg e t' := ⟨fun pins s σ H R I hq => h.run pins s σ H R I (k σ H R hq)⟩

/-! ### for -/
section
variable {G : GT} {p : Pl} {sc : Sc} {pos : Pos}
theorem for_read {K : PySem.W.Frag} {W : WX} {c : Calls} {fi : XI} {g : XG} {b : XS} {D : Ends} {σ : L2.St} {H : Hp} (h : tsOf K p W c (sFor fi g b) D σ H) : tFor (tiOf K p W c fi) (tgOf K p W c g) (tsOf K p W c b) D σ H := by
  obtain ⟨s, h, m, rh, re, hp⟩ := h
  refine ⟨s, h, m, rh, re, ?_⟩
  unfold sFor at hp
  cases ei : fi c s h with
  | bad => rw [ei] at hp; exact hp
  | err x h1 => rw [ei] at hp; exact fun m1 H1 cls d l rh1 rx => hp m1 H1 σ cls d l rh1 (re.mono l) rx
  | ok q h1 =>
    rw [ei] at hp
    simp only [sOf_ok] at hp
    obtain ⟨xs, ls⟩ := q
    intro m1 H1 J l1 rh1 wk
    have hp := hp.shift l1
    simp only at hp wk
    generalize hf : (fun x s h => sOf s (g c x s h) fun s' h' => b c s' h') = f at hp
    -- the invariant
    refine ⟨fun i mz σ2 H2 => ∃ s2 h2 m2, i ≤ xs.length ∧ mz = xs.length - i ∧ Le (h1.lock ls) m1 H1 h2 m2 H2 ∧ RH K p.C m2 h2 H2 ∧ RE m2 h2.size H2 s2 σ2 ∧ PostS K p W D h1 m1 H1 (endS ls (loopS f (xs.drop i) s2 h2)),
      ⟨xs.length, s, h1.lock ls, m1, Nat.zero_le _, rfl, rh1.lrefl ls, rh1.lock wk.loc, (re.mono l1 : RE m1 h1.size H1 s σ), by simpa using hp⟩, ?_⟩
    rintro i mz σ2 H2 ⟨s2, h2, m2, hi, rfl, l2, rh2, re2, hp2⟩
    by_cases hlt : i < xs.length
    · have ex : xs[i]? = some xs[i] := List.getElem?_eq_getElem hlt
      obtain ⟨hgo, hy⟩ := wk.item i _ h2 m2 H2 ex l2.lz rh2
      rw [List.drop_eq_getElem_cons hlt] at hp2
      unfold loopS at hp2
      refine .inr ⟨hgo, fun σ5 H5 => ∃ s5 h5 m5, Le (h1.lock ls) m1 H1 h5 m5 H5 ∧ RH K p.C m5 h5 H5 ∧ RE m5 h5.size H5 s5 σ5 ∧ PostS K p W D h1 m1 H1 (endS ls (loopS f (xs.drop (i + 1)) s5 h5)),
        fun σ5 H5 ⟨s5, h5, m5, l5, rh5, re5, hp5⟩ => ⟨xs.length - (i + 1), by omega, s5, h5, m5, hlt, rfl, l5, rh5, re5, hp5⟩, fun v H3 hyv => ?_⟩
      obtain ⟨l3, rh3, rx⟩ := hy v H3 hyv
      have l03 := l2.trans l3
      refine ⟨s2, h2, m2, xs[i], rh3, re2.mono l3, rx, ?_⟩
      subst hf
      simp only at hp2
      cases eg : g c xs[i] s2 h2 with
      | bad => rw [eg] at hp2; exact hp2.elim
      | err x' h' =>
        rw [eg] at hp2
        intro m' H' cls d l' rh' rx'
        exact hp2 m' H' σ2 cls d (l03.trans l').unlock (rh'.unlock ls) ((re2.mono l3).mono l' : RE m' h'.size H' s2 σ2) rx'
      | ok s' h' =>
        rw [eg] at hp2
        simp only [sOf_ok] at hp2
        intro m4 H4 σ4 l4 rh4 re4
        have l04 := l03.trans l4
        refine ⟨s', h', m4, rh4, re4, ?_⟩
        cases eb : b c s' h' with
        | bad => rw [eb] at hp2; exact hp2.elim
        | nx s5 h5 =>
          rw [eb] at hp2
          exact fun m5 H5 σ5 l5 rh5 re5 => ⟨s5, h5, m5, l04.trans l5, rh5, re5, hp2⟩
        | ct s5 h5 =>
          rw [eb] at hp2
          exact fun m5 H5 σ5 l5 rh5 re5 => ⟨s5, h5, m5, l04.trans l5, rh5, re5, hp2⟩
        | bk s5 h5 =>
          rw [eb] at hp2
          exact fun m5 H5 σ5 l5 rh5 re5 => hp2 m5 H5 σ5 (l04.trans l5).unlock (rh5.unlock ls) re5
        | rt w h5 =>
          rw [eb] at hp2
          exact fun m5 H5 v5 l5 rh5 rv5 => hp2 m5 H5 v5 (l04.trans l5).unlock (rh5.unlock ls) rv5
        | er x5 s5 h5 =>
          rw [eb] at hp2
          exact fun m5 H5 σ5 cls d l5 rh5 re5 rx5 => hp2 m5 H5 σ5 cls d (l04.trans l5).unlock (rh5.unlock ls) re5 rx5
    · have e : i = xs.length := by omega
      subst e
      rw [List.drop_length] at hp2
      exact .inl ⟨wk.stop h2 m2 H2 l2.lz rh2, hp2 m2 H2 σ2 l2.unlock (rh2.unlock ls) re2⟩
theorem ss_for {tg iter : Expr} {body : List Stmt} {fi : XI} {g : XG} {b : XS} (hs : ∀ (env : PySem.Env) x, foldedSetIterable iter env x = pure x) (hi : SI G p sc tg iter fi) (hg : SG G p sc tg g) (hb : SSs G p sc body b) : SS G p sc (.For tg iter body [] pos) (sFor fi g b) := fun k W X cx =>
  PS.imp (ps_for cx.po cx.calm (hi k W X cx) (hg k W X cx) (hb k W X cx) (hs _)) fun D σ H h => for_read h
end

/-! ### comprehensions -/
section
variable {G : GT} {p : Pl} {sc : Sc} {pos : Pos}
/-- the scope of a comprehension's block -/
def blkSc (sc : Sc) (scope : Scope) : Sc := ⟨sc.N, relS scope sc.scope, fun x => scope.names.lookup x == some .cell, none, false⟩
theorem ecx_blk {k : Nat} {W : WX} {X : Cx} (cx : ECx G p k sc W X) (s : Shared) (H : Hp) (scope : Scope) (C : Addr) (cl : List (Str × Addr)) (fp : List Addr) :
    ECx G p k (blkSc sc scope) (fun _ _ _ _ => False) (X.blk s H scope (compEnvC scope cl C X.env) fp) where
  g := cx.g
  nd := cx.nd
  n := cx.n
  sco := by
    show relS scope X.env.scope = relS scope sc.scope
    rw [cx.sco]
  fn := rfl
  calm := cx.calm
  room := cx.room
  tk := fun _ _ ⟨_, _, _, _, _, _, _, _, _, _, _, _, _, _, _, _, w⟩ => w.elim
  po := PassesOwn.never
  lam := fun _ z => by cases z
/-- a clause's tests -/
def STs (G : GT) (p : Pl) (sc : Sc) (ifs : List Expr) (t : XT) : Prop := ∀ k W X, ECx G p k sc W X → PTs X ifs (ttOf X.K p W (callD G.tab k) t)
theorem PTs.imp {X : Cx} {e : List Expr} {t t' : TT} (h : PTs X e t) (k : ∀ σ H Q, t' σ H Q → t σ H Q) : PTs X e t' := ⟨fun pins s σ H Q I hq => h.run pins s σ H Q I (k σ H Q hq)⟩
theorem sts_nil : STs G p sc [] tYes := fun k W X cx => PTs.imp pts_nil fun σ H Q ⟨s, h, m, rh, re, hp⟩ => hp m H true rh.refl rh rfl
theorem sts_one {c : Expr} {t : XT} (h : ST G p sc c t) : STs G p sc [c] t := fun k W X cx => pts_one (h k W X cx)
theorem wipeV_eq (s : Env) : ∀ vs : List Nat, lC1.wipeV s vs = wipeE s vs
  | [] => rfl
  | v :: vs => by
    show (lC1.wipeV s vs).set v none = (wipeE s vs).set v none
    rw [wipeV_eq s vs]
theorem noErr_ok {α : Type} {r : Res α} {a : α} {h : Mem} (e : noErr r = .ok a h) : r = .ok a h := by
  cases r <;> first | exact e | cases e
/-- a bind that ends well -/
theorem bind_ok {α β : Type} {r : Res α} {f : α → Mem → Res β} {b : β} {h : Mem} (e : r.bind f = .ok b h) : ∃ a h1, r = .ok a h1 ∧ f a h1 = .ok b h := by
  cases r with
  | ok a h1 => exact ⟨a, h1, rfl, e⟩
  | err x h1 => cases e
  | bad => cases e
theorem post_ok {K : PySem.W.Frag} {α β : Type} {R : Mp → Nat → Hp → α → β → Prop} {E : XK} {h h' : Mem} {m : Mp} {H : Hp} {r : Res α} {a : α} {Q : β → Hp → Prop} (e : r = .ok a h') (k : ∀ m' H' b, Le h m H h' m' H' → RH K p.C m' h' H' → R m' h'.size H' a b → Q b H') : Post K p R E h m H r Q := by
  rw [e]
  exact k
/-- the new list's own place -/
structure Own (h2 : Mem) (m2 : Mp) (H2 : Hp) (D : Addr) (ys : List PV) : Prop where
  ni : ∀ n, n < h2.size → D ≠ m2.a n ∧ D ≠ m2.d n
  at_ : ∃ acc, H2 D = some (.lst acc) ∧ RPs m2 h2.size H2 ys acc
theorem Own.mono {h2 h3 : Mem} {m2 m3 : Mp} {H2 H3 : Hp} {D : Addr} {ys : List PV} (o : Own h2 m2 H2 D ys) (l : Le h2 m2 H2 h3 m3 H3) : Own h3 m3 H3 D ys := by
  obtain ⟨acc, e, r⟩ := o.at_
  refine ⟨fun n hn => ?_, acc, l.frame D _ e o.ni nt_lst, r.mono l⟩
  by_cases q : n < h2.size
  · rw [(l.keep n q).1, (l.keep n q).2]; exact o.ni n q
  · have nn := l.new n (by omega) hn
    refine ⟨fun w => ?_, fun w => ?_⟩
    · rw [← w, e] at nn; exact nomatch nn.1
    · rw [← w, e] at nn; exact nomatch nn.2
/-- the list at D, which no one knows, is changed -/
theorem RH.aside {K : PySem.W.Frag} {h2 : Mem} {m2 : Mp} {H2 : Hp} {D : Addr} {acc acc' : List V} (rh : RH K p.C m2 h2 H2) (ni : ∀ n, n < h2.size → D ≠ m2.a n ∧ D ≠ m2.d n) (e : H2 D = some (.lst acc)) :
    Lw h2.size m2 H2 h2.size m2 (upd H2 D (.lst acc')) ∧ RH K p.C m2 h2 (upd H2 D (.lst acc')) := by
  have st : Lw h2.size m2 H2 h2.size m2 (upd H2 D (.lst acc')) := ⟨Nat.le_refl _, fun _ _ => ⟨rfl, rfl⟩, fun a us ea => by rw [upd_ne (fun q => by rw [q, e] at ea; cases ea)]; exact ea⟩
  refine ⟨st, rh.all, fun n o eo => ?_, rh.inj, rh.lok, rh.lod, rh.tab.aside e nfx_lst⟩
  have := ni n (Mem.get_lt eo)
  exact (rh.obj n o eo).weak st (Mem.get_lt eo) (upd_ne this.1.symm) (upd_ne this.2.symm)
theorem Le.aside {h1 h2 : Mem} {m1 m2 : Mp} {H1 H2 : Hp} {D : Addr} {u : HO} {acc : List V} (l : Le h1 m1 H1 h2 m2 H2) (hn : H1 D = none) (ni : ∀ n, n < h2.size → D ≠ m2.a n ∧ D ≠ m2.d n) : Le h1 m1 H1 h2 m2 (upd H2 D u) :=
  ⟨l.le, l.lk, l.ld, l.lkd, fun n hn hl => by
    have q := ni n (Nat.lt_of_lt_of_le hl l.le)
    rw [(l.keep n hl).1] at q
    rw [upd_ne q.1.symm]
    exact l.lkh n hn hl, l.keep, fun a o ea hk nt => by rw [upd_ne (ne_of_none ea hn)]; exact l.frame a o ea hk nt, fun a ps ea hk => by rw [upd_ne (ne_of_none ea hn)]; exact l.tbls a ps ea hk, fun a vs ea => by rw [upd_ne (ne_of_none ea hn)]; exact l.tups a vs ea, l.new, fun n hn' => by
    have q := ni n (Nat.lt_of_lt_of_le hn' l.le)
    rw [← (l.keep n hn').1, ← (l.keep n hn').2, upd_ne q.1.symm, upd_ne q.2.symm, (l.keep n hn').1, (l.keep n hn').2]
    exact l.old n hn'⟩
/-- an item appended -/
theorem Own.app {K : PySem.W.Frag} {h1 h2 : Mem} {m1 m2 : Mp} {H1 H2 : Hp} {D : Addr} {ys : List PV} (o : Own h2 m2 H2 D ys) (rh : RH K p.C m2 h2 H2) (l : Le h1 m1 H1 h2 m2 H2) (hn : H1 D = none) {y : PV} {v : V} (ry : RP m2 h2.size H2 y v) :
    ∃ acc, H2 D = some (.lst acc) ∧ acc.length = ys.length ∧ Le h1 m1 H1 h2 m2 (upd H2 D (.lst (acc ++ [v]))) ∧ RH K p.C m2 h2 (upd H2 D (.lst (acc ++ [v]))) ∧ Own h2 m2 (upd H2 D (.lst (acc ++ [v]))) D (ys ++ [y]) := by
  obtain ⟨acc, e, r⟩ := o.at_
  obtain ⟨st, rh'⟩ := rh.aside (acc' := acc ++ [v]) o.ni e
  exact ⟨acc, e, r.length, l.aside (acc := acc) hn o.ni, rh', o.ni, _, upd_same, (r.append (.cons ry .nil)).weak st⟩
/-- ONE CLAUSE -/
theorem lc_read {K : PySem.W.Frag} {W : WX} {c : Calls} {fi : XI} {g : Tg} {t : XT} {fe : XE} {own : List Nat} {σ : L2.St} {H : Hp} {Q : VK} (hin : tgIn own g) (h : tnOf K p W c (lC1 own fi g t fe) σ H Q) :
    tLc (tiOf K p W c fi) (ctR K g) (ttOf K p (fun _ _ _ _ => False) c t) (teOf K p (fun _ _ _ _ => False) c fe) own σ H Q := by
  obtain ⟨s, h, m, rh, re, hp⟩ := h
  refine ⟨s, h, m, rh, re, ?_⟩
  unfold lC1 at hp
  cases ei : fi c s h with
  | bad => rw [ei] at hp; exact hp
  | err x h1 => rw [ei] at hp; exact hp
  | ok q h1 =>
    rw [ei] at hp
    simp only [Res.bind_ok] at hp
    obtain ⟨xs, ls⟩ := q
    intro m1 H1 J l1 rh1 wk D hD
    simp only at hp wk
    rw [wipeV_eq] at hp
    have hD0 : H D = none := l1.fresh hD
    -- the whole ends well
    generalize hf : turns (tgG g) t c (wipeE s own) (fun s' h' => (fe c s' h').bind fun y h' => .ok [y] h') = tr at hp
    cases er : noErr (tr xs (h1.lock ls)) with
    | bad => rw [er] at hp; exact hp.elim
    | err x h2 => rw [er] at hp; unfold noErr at er; split at er <;> cases er
    | ok ys hE =>
      rw [er] at hp
      simp only [Res.bind_ok] at hp
      have er := noErr_ok er
      cases cf : fits ys with
      | false => rw [cf] at hp; exact hp.elim
      | true =>
        rw [cf] at hp
        have fy := fits_le cf
        obtain ⟨l2, rh2⟩ := rh1.tmp (u := .lst []) hD
        -- the invariant
        refine ⟨fun i mz H2 => ∃ h2 m2 ys1 ys2, i ≤ xs.length ∧ mz = xs.length - i ∧ Le (h1.lock ls) m1 H1 h2 m2 H2 ∧ RH K p.C m2 h2 H2 ∧ Own h2 m2 H2 D ys1 ∧ ys1 ++ ys2 = ys ∧ tr (xs.drop i) h2 = .ok ys2 hE,
          ⟨xs.length, h1.lock ls, m1, [], ys, Nat.zero_le _, rfl, ?_, rh2.lock wk.loc, ⟨fun n hn => ⟨fun z => (rh1.fresh hD hn).1 z.symm, fun z => (rh1.fresh hD hn).2 z.symm⟩, [], upd_same, .nil⟩, rfl, by simpa using er⟩, ?_⟩
        · exact (rh1.lrefl ls).trans ⟨l2.le, rfl, rfl, fun _ _ => rfl, fun n hn hl => (upd_ne (rh1.fresh (by assumption) hl).1), l2.keep, l2.frame, l2.tbls, l2.tups, l2.new, l2.old⟩
        rintro i mz H2 ⟨h2, m2, ys1, ys2, hi, rfl, l3, rh3, ow, ey, et⟩
        by_cases hlt : i < xs.length
        · have ex : xs[i]? = some xs[i] := List.getElem?_eq_getElem hlt
          obtain ⟨hgo, hy⟩ := wk.item i _ h2 m2 H2 ex l3.lz rh3
          rw [List.drop_eq_getElem_cons hlt] at et
          refine .inr ⟨hgo, fun H5 => ∃ h5 m5 ys1 ys2, Le (h1.lock ls) m1 H1 h5 m5 H5 ∧ RH K p.C m5 h5 H5 ∧ Own h5 m5 H5 D ys1 ∧ ys1 ++ ys2 = ys ∧ tr (xs.drop (i + 1)) h5 = .ok ys2 hE,
            fun H5 ⟨h5, m5, y1, y2, l5, rh5, ow5, ey5, et5⟩ => ⟨xs.length - (i + 1), by omega, h5, m5, y1, y2, hlt, rfl, l5, rh5, ow5, ey5, et5⟩, fun v H3 hyv => ?_⟩
          obtain ⟨l4, rh4, rx⟩ := hy v H3 hyv
          have l04 := l3.trans l4
          have ow4 := ow.mono l4
          have rew : RE m2 h2.size H3 (wipeE s own) (wipe σ own) := (((re.mono l1).wipe own).mono l3).mono l4
          -- the turn
          subst hf
          obtain ⟨zs, h4, ez, et⟩ := bind_ok et
          obtain ⟨ws, h5, ew, et⟩ := bind_ok et
          cases et
          obtain ⟨s1, hg1, eg, ez⟩ := bind_ok ez
          obtain ⟨b, ht1, eb, ez⟩ := bind_ok ez
          obtain ⟨eh, _⟩ := ct_read (K := K) (Q := fun _ _ => True) rh4 rew rx eg fun _ _ => True.intro
          subst eh
          refine (ct_read (K := K) rh4 rew rx eg fun vs re5 => ⟨by rw [wipe_ct hin, wipe_wipe], s1, _, m2, rh4, re5, post_ok eb fun m6 H6 b' l6 rh6 rb => ?_⟩).2
          have eb' : b = b' := rb
          subst eb'
          have l06 := l04.trans l6
          have ow6 := ow4.mono l6
          cases b with
          | true =>
            rw [if_pos rfl]
            obtain ⟨y, h7, ey7, ez⟩ := bind_ok ez
            cases ez
            refine ⟨s1, ht1, m6, rh6, re5.mono l6, post_ok ey7 fun m8 H8 v8 l8 rh8 ry8 => ?_⟩
            obtain ⟨acc, ea, hlen, la, rha, owa⟩ := (ow6.mono l8).app rh8 (l06.trans l8) hD ry8
            refine ⟨acc, ea, ?_, _, m8, _, ws, la, rha, owa, ?_, ew⟩
            · rw [hlen]
              have : (ys1 ++ ([y] ++ ws)).length = ys.length := by rw [ey]
              simp only [List.length_append, List.length_cons, List.length_nil] at this
              omega
            · rw [List.append_assoc]; exact ey
          | false =>
            rw [if_neg Bool.false_ne_true]
            cases ez
            exact ⟨_, m6, ys1, ws, l06, rh6, ow6, ey, ew⟩
        · have e : i = xs.length := by omega
          subst e
          rw [List.drop_length] at et
          subst hf
          cases et
          rw [List.append_nil] at ey
          subst ey
          refine .inl ⟨wk.stop _ m2 H2 l3.lz rh3, ?_⟩
          obtain ⟨acc, ea, ra⟩ := ow.at_
          exact hp m2 H2 D acc (l1.trans l3.unlock) (rh3.unlock ls) hD0 ea ow.ni ra
end
end Ev
end

section
set_option Elab.async false
set_option linter.all false
set_option maxRecDepth 100000
/-! Ev: sources of loops. -/
namespace Ev
open PySem PySem.Spec PyProof.Rows L2

/-- the list or tuple at a tells xs, whatever the memory becomes -/
structure WSq (K : PySem.W.Frag) (p : Pl) (h1 : Mem) (m1 : Mp) (H1 : Hp) (ls : List Nat) (b : Bool) (a : Addr) (xs : List PV) : Prop where
  loc : ∀ n ∈ ls, n < h1.size
  at_ : ∀ h2 m2 H2, Lz (h1.lock ls) m1 H1 h2 m2 H2 → RH K p.C m2 h2 H2 → ∃ vs, Sq K b H2 a vs ∧ RPs m2 h2.size H2 xs vs
def PostQ (K : PySem.W.Frag) (p : Pl) (E : XK) (h : Mem) (m : Mp) (H : Hp) (r : Res (List PV × List Nat)) (Q : VK) : Prop := match r with
  | .ok q h' => ∀ m' H' b a, Le h m H h' m' H' → RH K p.C m' h' H' → WSq K p h' m' H' q.2 b a q.1 → Q (.ref a) H'
  | .err x h' => ∀ m' H' cls d, Le h m H h' m' H' → RH K p.C m' h' H' → RX p m' h'.size H' x cls d → E cls d H'
  | .bad => False
def tqOf (K : PySem.W.Frag) (p : Pl) (W : WX) (c : Calls) (f : XI) : TE := fun σ H Q => ∃ s h m, RH K p.C m h H ∧ RE m h.size H s σ ∧ PostQ K p (fun cls d H' => W cls d σ H') h m H (f c s h) Q
/-- an expression whose value is walked -/
def SQ (G : GT) (p : Pl) (sc : Sc) (e : Expr) (f : XI) : Prop := ∀ k W X, ECx G p k sc W X → PE X e (tqOf X.K p W (callD G.tab k) f)

section
variable {K : PySem.W.Frag} {p : Pl} {h h1 h2 : Mem} {m m1 m2 : Mp} {H H1 H2 : Hp} {ls : List Nat} {b b1 b2 : Bool} {a a1 a2 : Addr} {xs ys : List PV}
theorem Lz.refl : Lz h m H h m H := ⟨Nat.le_refl _, fun _ _ => rfl, fun _ e => e, fun _ e => e, fun _ _ _ => rfl, fun _ _ => ⟨rfl, rfl⟩, fun _ _ e => e⟩
theorem Walks.sq (w : WSq K p h1 m1 H1 ls b a xs) : Walks K p h1 m1 H1 ls (Itq K b a) xs where
  loc := w.loc
  item := fun i x h2 m2 H2 ex lz rh => by
    obtain ⟨vs, hq, rs⟩ := w.at_ h2 m2 H2 lz rh
    obtain ⟨v, ev, rv⟩ := rs.get ex
    refine ⟨⟨vs, v, hq, ev⟩, fun u H3 y => ?_⟩
    obtain ⟨e, hu⟩ := y
    subst e
    have := hu vs hq
    rw [ev] at this
    cases this
    exact ⟨rh.refl, rh, rv⟩
  stop := fun h2 m2 H2 lz rh => by
    obtain ⟨vs, hq, rs⟩ := w.at_ h2 m2 H2 lz rh
    exact ⟨vs, hq, Nat.le_of_eq rs.length⟩
theorem pairsI_get : ∀ (k : Int) (xs : List PV) (i : Nat), (pairsI k xs)[i]? = (xs[i]?).map fun x => PV.tup [.int (k + (i : Nat)), x]
  | _, [], i => by simp [pairsI]
  | k, x :: xs, 0 => by simp [pairsI]
  | k, x :: xs, i + 1 => by
    have e : k + 1 + (i : Int) = k + ((i + 1 : Nat) : Int) := by omega
    simp only [pairsI, List.getElem?_cons_succ]
    rw [pairsI_get (k + 1) xs i, e]
theorem pairsI_length : ∀ (k : Int) (xs : List PV), (pairsI k xs).length = xs.length
  | _, [] => rfl
  | k, x :: xs => congrArg (· + 1) (pairsI_length (k + 1) xs)
/-- a pair is made -/
theorem pair_made {T : Addr} {x y : PV} {v w : V} (rh : RH K p.C m h H) (hT : H T = none) (r1 : RP m h.size H x v) (r2 : RP m h.size H y w) :
    Le h m H h m (upd H T (.tup [v, w])) ∧ RH K p.C m h (upd H T (.tup [v, w])) ∧ RP m h.size (upd H T (.tup [v, w])) (.tup [x, y]) (.ref T) := by
  obtain ⟨l, rh'⟩ := rh.tmp (u := .tup [v, w]) hT
  exact ⟨l, rh', .tup upd_same (.cons (r1.mono l) (.cons (r2.mono l) .nil))⟩
theorem Walks.enum (w : WSq K p h1 m1 H1 ls b a xs) : Walks K p h1 m1 H1 ls (Iteq K b a) (pairsI 0 xs) where
  loc := w.loc
  item := fun i x h2 m2 H2 ex lz rh => by
    rw [pairsI_get] at ex
    cases e : xs[i]? with
    | none => rw [e] at ex; cases ex
    | some x0 =>
      rw [e] at ex
      have ex : PV.tup [.int (0 + (i : Nat)), x0] = x := Option.some.inj ex
      subst ex
      obtain ⟨vs, hq, rs⟩ := w.at_ h2 m2 H2 lz rh
      obtain ⟨v, ev, rv⟩ := rs.get e
      refine ⟨⟨vs, v, hq, ev⟩, fun u H3 y => ?_⟩
      obtain ⟨T, v', rfl, hT, rfl, hu⟩ := y
      have := hu vs hq
      rw [ev] at this
      cases this
      have e0 : (0 + (i : Int)) = i := by omega
      rw [e0]
      exact pair_made rh hT (.int _) rv
  stop := fun h2 m2 H2 lz rh => by
    obtain ⟨vs, hq, rs⟩ := w.at_ h2 m2 H2 lz rh
    exact ⟨vs, hq, by rw [pairsI_length]; exact Nat.le_of_eq rs.length⟩
theorem pairs_get : ∀ (xs ys : List PV) (i : Nat) (z : PV), (pairs xs ys)[i]? = some z → ∃ x y, xs[i]? = some x ∧ ys[i]? = some y ∧ z = .tup [x, y]
  | [], _, i, z, e => by simp [pairs] at e
  | x :: xs, [], i, z, e => by simp [pairs] at e
  | x :: xs, y :: ys, 0, z, e => by
    simp [pairs] at e
    exact ⟨x, y, by simp, by simp, e.symm⟩
  | x :: xs, y :: ys, i + 1, z, e => by
    simp only [pairs, List.getElem?_cons_succ] at e ⊢
    exact pairs_get xs ys i z e
theorem pairs_length : ∀ xs ys : List PV, (pairs xs ys).length = min xs.length ys.length
  | [], _ => by simp [pairs]
  | x :: xs, [] => by simp [pairs]
  | x :: xs, y :: ys => by
    simp only [pairs, List.length_cons]
    rw [pairs_length xs ys]
    omega
theorem Walks.zip (hl : ∀ n ∈ ls, n < h1.size) (w1 : ∀ h2 m2 H2, Lz (h1.lock ls) m1 H1 h2 m2 H2 → RH K p.C m2 h2 H2 → ∃ vs, Sq K b1 H2 a1 vs ∧ RPs m2 h2.size H2 xs vs)
    (w2 : ∀ h2 m2 H2, Lz (h1.lock ls) m1 H1 h2 m2 H2 → RH K p.C m2 h2 H2 → ∃ vs, Sq K b2 H2 a2 vs ∧ RPs m2 h2.size H2 ys vs) : Walks K p h1 m1 H1 ls (ItzS K b1 b2 a1 a2) (pairs xs ys) where
  loc := hl
  item := fun i x h2 m2 H2 ex lz rh => by
    obtain ⟨x, y, e1, e2, rfl⟩ := pairs_get _ _ _ _ ex
    obtain ⟨vs, hq, rs⟩ := w1 h2 m2 H2 lz rh
    obtain ⟨ws, hq2, rs2⟩ := w2 h2 m2 H2 lz rh
    obtain ⟨v, ev, rv⟩ := rs.get e1
    obtain ⟨u, eu, ru⟩ := rs2.get e2
    refine ⟨⟨vs, ws, v, u, hq, hq2, ev, eu⟩, fun q H3 yl => ?_⟩
    obtain ⟨T, v', u', rfl, hT, rfl, k1, k2⟩ := yl
    have k1 := k1 vs hq
    have k2 := k2 ws hq2
    rw [ev] at k1
    rw [eu] at k2
    cases k1
    cases k2
    exact pair_made rh hT rv ru
  stop := fun h2 m2 H2 lz rh => by
    obtain ⟨vs, hq, rs⟩ := w1 h2 m2 H2 lz rh
    obtain ⟨ws, hq2, rs2⟩ := w2 h2 m2 H2 lz rh
    have := rs.length
    have := rs2.length
    rw [pairs_length]
    exact ⟨vs, ws, hq, hq2, by omega, by omega, by omega⟩
theorem upto_get : ∀ (lo st : Int) (n i : Nat), i < n → (upto lo st n)[i]? = some (.int (lo + (i : Nat) * st))
  | _, _, 0, i, h => absurd h (Nat.not_lt_zero _)
  | lo, st, n + 1, 0, _ => by simp [upto]
  | lo, st, n + 1, i + 1, h => by
    have e : lo + st + (i : Int) * st = lo + ((i + 1 : Nat) : Int) * st := by
      have : ((i + 1 : Nat) : Int) = (i : Int) + 1 := by omega
      rw [this, Int.add_mul, Int.one_mul]
      omega
    simp only [upto, List.getElem?_cons_succ]
    rw [upto_get (lo + st) st n i (by omega), e]
theorem upto_length : ∀ (lo st : Int) (n : Nat), (upto lo st n).length = n
  | _, _, 0 => rfl
  | lo, st, n + 1 => congrArg (· + 1) (upto_length (lo + st) st n)
theorem Walks.range (lo : Int) (n : Nat) : Walks K p h1 m1 H1 [] (Itr lo n) (upto lo 1 n) where
  loc := fun _ hn => by cases hn
  item := fun i x h2 m2 H2 ex lz rh => by
    have hi : i < n := by
      cases Nat.lt_or_ge i n with
      | inl l => exact l
      | inr l => rw [List.getElem?_eq_none (by rw [upto_length]; exact l)] at ex; cases ex
    rw [upto_get lo 1 n i hi] at ex
    cases ex
    refine ⟨hi, fun v H3 y => ?_⟩
    obtain ⟨e1, e2⟩ := y
    subst e1 e2
    rw [Int.mul_one]
    exact ⟨rh.refl, rh, .int _⟩
  stop := fun h2 m2 H2 lz rh => by
    rw [upto_length]
    exact Nat.le_refl n
theorem Walks.rangeC (lo c : Int) (n : Nat) : Walks K p h1 m1 H1 [] (Itc lo c n) (upto lo c n) where
  loc := fun _ hn => by cases hn
  item := fun i x h2 m2 H2 ex lz rh => by
    have hi : i < n := by
      cases Nat.lt_or_ge i n with
      | inl l => exact l
      | inr l => rw [List.getElem?_eq_none (by rw [upto_length]; exact l)] at ex; cases ex
    rw [upto_get lo c n i hi] at ex
    cases ex
    refine ⟨hi, fun v H3 y => ?_⟩
    obtain ⟨e1, e2⟩ := y
    subst e1 e2
    exact ⟨rh.refl, rh, .int _⟩
  stop := fun h2 m2 H2 lz rh => by
    rw [upto_length]
    exact Nat.le_refl n
end

section
variable {G : GT} {p : Pl} {sc : Sc} {a b d tg : Expr} {fa fb fd : XE} {pos q : Pos}
theorem sq_of (ha : SE G p sc a fa) : SQ G p sc a (iOf fa) := fun k W X cx => PE.imp (ha k W X cx) fun σ H Q ⟨s, h, m, rh, re, hp⟩ => ⟨s, h, m, rh, re, by
  unfold iOf at hp
  cases e : fa (callD G.tab k) s h with
  | bad => rw [e] at hp; exact hp
  | err x h1 => rw [e] at hp; exact hp
  | ok x h1 =>
    rw [e] at hp
    simp only [Res.bind_ok] at hp
    intro m1 H1 v l rh1 rx
    cases x <;> first | exact hp.elim | skip
    · rename_i xs
      obtain ⟨q, vs, rfl, eq, rs⟩ := rx.tup_inv
      exact hp m1 H1 false q l rh1 ⟨fun n hn => (by cases hn), fun h2 m2 H2 lz rh2 => ⟨vs, SqT.of (lz.tups _ _ eq), rs.weak lz.lw⟩⟩
    · rename_i r
      obtain ⟨rfl, hr⟩ := rx.ref_inv
      have key : ∀ xs, h1.get r = some (.lst xs) ∨ h1.get r = some (.scr xs) → WSq X.K p h1 m1 H1 [r] true (m1.a r) xs := fun xs e => by
        refine ⟨fun n hn => ?_, fun h2 m2 H2 lz rh2 => ?_⟩
        · cases hn with
          | head => exact hr
          | tail _ z => cases z
        · have e2 : h2.get r = h1.get r := lz.lkd r (by simp)
          have ka := (lz.keep r hr).1
          rw [← ka]
          rcases e with e | e
          · obtain ⟨_, vs, ev, rs⟩ := rh2.obj r _ (e2.trans e)
            exact ⟨vs, SqL.of ev, rs⟩
          · obtain ⟨_, _, vs, ev, _, rs⟩ := rh2.obj r _ (e2.trans e)
            exact ⟨vs, ev, rs⟩
      cases eo : h1.get r with
      | none => simp only [eo] at hp; exact hp.elim
      | some o =>
        simp only [eo] at hp
        cases o <;> first | exact hp.elim | skip
        · exact hp m1 H1 true _ l rh1 (key _ (.inl eo))
        · exact hp m1 H1 true _ l rh1 (key _ (.inr eo))⟩
theorem sq_new {l : XA} (ha : SN G p sc a l) : SQ G p sc a (iNew l) := fun k W X cx => PE.imp (ha k W X cx) fun σ H Q ⟨s, h, m, rh, re, hp⟩ => ⟨s, h, m, rh, re, by
  unfold iNew at hp
  cases e : l (callD G.tab k) s h with
  | bad => rw [e] at hp; exact hp
  | err x h1 => rw [e] at hp; exact hp
  | ok xs h1 =>
    rw [e] at hp
    intro m1 H1 q vs l rh1 hn he na rs
    obtain ⟨l', rh'⟩ := l.adopt rh1 hn he na rs
    refine hp _ _ true q l' rh' ⟨fun n hn => ?_, fun h2 m2 H2 lz rh2 => ?_⟩
    · cases hn with
      | head => simp
      | tail _ z => cases z
    · have e2 := lz.lkd h1.size (by simp)
      have ka := (lz.keep h1.size (by simp)).1
      rw [Mp.ext_a] at ka
      rw [Mem.get_lock, Mem.get_push_new] at e2
      obtain ⟨_, vs, ev, rs⟩ := rh2.obj _ _ e2
      rw [ka] at ev
      exact ⟨vs, SqL.of ev, rs⟩⟩
theorem PostQ.mono {K : PySem.W.Frag} {E : XK} {h : Mem} {m : Mp} {H : Hp} {r : Res (List PV × List Nat)} {Q Q' : VK} (hp : PostQ K p E h m H r Q) (k : ∀ v H', Q v H' → Q' v H') : PostQ K p E h m H r Q' := by
  cases r with
  | ok q h' => exact fun m' H' b a l rh w => k _ _ (hp m' H' b a l rh w)
  | err x h' => exact hp
  | bad => exact hp
/-- what is told of the reading of a source -/
theorem pi_read {K : PySem.W.Frag} {W : WX} {c : Calls} {f : XI} {g : List PV → List PV} {σ : L2.St} {H : Hp} {R : It → Hp → Prop} {Q : VK} (h : tiOf K p W c (fun c s h => (f c s h).bind fun q h1 => .ok (g q.1, q.2) h1) σ H R)
    (k : ∀ h1 m1 H1 ls b a xs, RH K p.C m1 h1 H1 → WSq K p h1 m1 H1 ls b a xs → (∀ J, Walks K p h1 m1 H1 ls J (g xs) → R J H1) → Q (.ref a) H1) : tqOf K p W c f σ H Q := by
  obtain ⟨s, h, m, rh, re, hp⟩ := h
  refine ⟨s, h, m, rh, re, ?_⟩
  simp only at hp
  cases e : f c s h with
  | bad => rw [e] at hp; exact hp
  | err x h1 => rw [e] at hp; exact hp
  | ok q h1 =>
    rw [e] at hp
    exact fun m1 H1 b a l rh1 w => k h1 m1 H1 q.2 b a q.1 rh1 w fun J wk => hp m1 H1 J l rh1 wk
theorem WSq.now {K : PySem.W.Frag} {h1 : Mem} {m1 : Mp} {H1 : Hp} {ls : List Nat} {b : Bool} {a : Addr} {xs : List PV} (w : WSq K p h1 m1 H1 ls b a xs) (rh : RH K p.C m1 h1 H1) : ∃ vs, Sq K b H1 a vs := by
  obtain ⟨vs, h, _⟩ := w.at_ _ m1 H1 Lz.refl (rh.lock w.loc)
  exact ⟨vs, h⟩
theorem si_q {f : XI} (ha : SQ G p sc a f) : SI G p sc tg a f := fun k W X cx => PI.imp (pi_sq (ha k W X cx)) fun σ H R ⟨s, h, m, rh, re, hp⟩ => by
  refine ⟨s, h, m, rh, re, ?_⟩
  cases e : f (callD G.tab k) s h with
  | bad => rw [e] at hp; exact hp
  | err x h1 => rw [e] at hp; exact hp
  | ok q h1 =>
    rw [e] at hp
    intro m1 H1 b a l rh1 w
    obtain ⟨vs, hq⟩ := w.now rh1
    exact ⟨b, a, vs, rfl, hq, hp m1 H1 _ l rh1 (Walks.sq w)⟩
theorem si_enum {f : XI} {elts : List Expr} {kk : Nat} {tpos : Pos} (hg : sc.scope.names.lookup ("enumerate" : Str) = some .globalImplicit) (hf : ("enumerate" : Str) ∈ G.free) (hs : notStar a = true) (ha : SQ G p sc a f) :
    SI G p sc (.Tuple elts kk tpos) (.Call (.Name "enumerate" q) [a] [] pos) (iEnum f) := fun k W X cx =>
  PI.imp (pi_enumS (glob_of cx hg) (cx.g.free _ hf) (pa_cons (ha k W X cx) pa_nil (star_no hs)) (star_no hs)) fun σ H R h => by
    show tqOf X.K p W (callD G.tab k) f σ H _
    refine pi_read (g := pairsI 0) h fun h1 m1 H1 ls b a xs rh1 w hR => ?_
    obtain ⟨vs, hq⟩ := w.now rh1
    exact ⟨b, a, vs, rfl, hq, hR _ (Walks.enum w)⟩
theorem zip_lz {h1 h2 h3 : Mem} {m1 m2 m3 : Mp} {H1 H2 H3 : Hp} {l1 l2 : List Nat} (a : Le (h1.lock l1) m1 H1 h2 m2 H2) (b : Lz ((h2.unlock l1).lock (l2 ++ l1)) m2 H2 h3 m3 H3) : Lz (h1.lock l1) m1 H1 h3 m3 H3 := by
  refine Lz.trans a.lz ⟨b.le, fun n hn => b.lkd n ?_, fun n hn => b.lk n ?_, b.ld, fun n hn hl => b.lkh n ?_ hl, b.keep, b.tups⟩ <;>
  · rw [a.lk, Mem.locks_lock] at hn
    simp only [Mem.locks_lock, Mem.locks_unlock, a.lk, List.drop_left, List.mem_append] at hn ⊢
    rcases hn with z | z
    · exact .inl (.inr z)
    · exact .inr z
theorem zip_lz2 {h2 h3 : Mem} {m2 m3 : Mp} {H2 H3 : Hp} {l1 l2 ls : List Nat} (e : h2.locks = l1 ++ ls) (b : Lz ((h2.unlock l1).lock (l2 ++ l1)) m2 H2 h3 m3 H3) : Lz (h2.lock l2) m2 H2 h3 m3 H3 := by
  refine ⟨b.le, fun n hn => b.lkd n ?_, fun n hn => b.lk n ?_, b.ld, fun n hn hl => b.lkh n ?_ hl, b.keep, b.tups⟩ <;>
  · simp only [Mem.locks_lock, Mem.locks_unlock, e, List.drop_left, List.mem_append] at hn ⊢
    rcases hn with z | z | z
    · exact .inl (.inl z)
    · exact .inl (.inr z)
    · exact .inr z
theorem si_zip {f g : XI} {elts : List Expr} {kk : Nat} {tpos : Pos} (hg : sc.scope.names.lookup ("zip" : Str) = some .globalImplicit) (hf : ("zip" : Str) ∈ G.free) (hs : noStars [a, b] = true) (ha : SQ G p sc a f) (hb : SQ G p sc b g) :
    SI G p sc (.Tuple elts kk tpos) (.Call (.Name "zip" q) [a, b] [] pos) (iZip f g) := fun k W X cx => by
  obtain ⟨s1, s2⟩ := noStars_cons hs
  obtain ⟨s2, _⟩ := noStars_cons s2
  refine PI.imp (pi_zipS (glob_of cx hg) (cx.g.free _ hf) (pa_cons (ha k W X cx) (pa_cons (hb k W X cx) pa_nil (star_no s2)) (star_no s1)) (star_no s1) (by rw [star_no s2]; rfl)) fun σ H R ⟨s, h, m, rh, re, hp⟩ => ?_
  show tqOf X.K p W (callD G.tab k) f σ H _
  refine ⟨s, h, m, rh, re, ?_⟩
  unfold iZip at hp
  cases e : f (callD G.tab k) s h with
  | bad => rw [e] at hp; exact hp
  | err x h1 => rw [e] at hp; exact hp
  | ok q1 h1 =>
    rw [e] at hp
    simp only [Res.bind_ok] at hp
    intro m1 H1 b1 a1 l1 rh1 w1
    refine ⟨s, h1.lock q1.2, m1, rh1.lock w1.loc, (re.mono l1 : RE m1 h1.size H1 s σ), ?_⟩
    cases e2 : g (callD G.tab k) s (h1.lock q1.2) with
    | bad => rw [e2] at hp; exact hp
    | err x h2 =>
      rw [e2] at hp
      exact fun m2 H2 cls d l2 rh2 rx => hp m2 H2 cls d (l1.trans l2.unlock) (rh2.unlock _) (rx : RX p m2 h2.size H2 x cls d)
    | ok q2 h2 =>
      rw [e2] at hp
      intro m2 H2 b2 a2 l2 rh2 w2
      have lb : h2.locks = q1.2 ++ h1.locks := l2.lk
      have wz : ∀ h3 m3 H3, Lz ((h2.unlock q1.2).lock (q2.2 ++ q1.2)) m2 H2 h3 m3 H3 → RH X.K p.C m3 h3 H3 → ∃ vs, Sq X.K b1 H3 a1 vs ∧ RPs m3 h3.size H3 q1.1 vs := fun h3 m3 H3 lz rh3 => w1.at_ h3 m3 H3 (zip_lz l2 lz) rh3
      have wz2 : ∀ h3 m3 H3, Lz ((h2.unlock q1.2).lock (q2.2 ++ q1.2)) m2 H2 h3 m3 H3 → RH X.K p.C m3 h3 H3 → ∃ vs, Sq X.K b2 H3 a2 vs ∧ RPs m3 h3.size H3 q2.1 vs := fun h3 m3 H3 lz rh3 => w2.at_ h3 m3 H3 (zip_lz2 lb lz) rh3
      have hl : ∀ n ∈ q2.2 ++ q1.2, n < (h2.unlock q1.2).size := fun n hn => by
        rcases List.mem_append.mp hn with z | z
        · exact w2.loc n z
        · exact Nat.lt_of_lt_of_le (w1.loc n z) l2.le
      have rhz := (rh2.unlock q1.2).lock hl
      obtain ⟨vs, hq1, _⟩ := wz _ m2 H2 Lz.refl rhz
      obtain ⟨ws, hq2, _⟩ := wz2 _ m2 H2 Lz.refl rhz
      exact ⟨b1, b2, a1, a2, vs, ws, rfl, hq1, hq2, hp m2 H2 _ (l1.trans l2.unlock) (rh2.unlock _) (Walks.zip hl wz wz2)⟩
/-! ### ranges -/
theorem lt62_iff {i : Int} (h : lt62 i = true) : -(2 ^ 62) ≤ i ∧ i < 2 ^ 62 := by
  unfold lt62 at h
  cases e : ilt (-4611686018427387904) i with
  | false => rw [e] at h; cases h
  | true =>
    rw [e] at h
    have h : ilt i 4611686018427387904 = true := h
    rw [ilt_iff] at e h
    omega
theorem cndI_post {K : PySem.W.Frag} {E : XK} {h : Mem} {m : Mp} {H : Hp} {b : Bool} {r : Res (List PV × List Nat)} {R : It → Hp → Prop} (hp : PostI K p E h m H (cnd b r .bad) R) : b = true ∧ PostI K p E h m H r R := by
  cases b with
  | true => exact ⟨rfl, hp⟩
  | false => exact hp.elim
/-- the reading of the arguments of a range -/
theorem ta_pi {K : PySem.W.Frag} {W : WX} {c : Calls} {f : XE} {s : Env} {h : Mem} {m : Mp} {σ : L2.St} {H : Hp} {R : It → Hp → Prop} {g : PV → Mem → Res (List PV × List Nat)} {Q : VK} (rh : RH K p.C m h H) (re : RE m h.size H s σ)
    (hp : PostI K p (fun cls d H' => W cls d σ H') h m H ((f c s h).bind g) R) (k : ∀ v H1 x h1 m1, RH K p.C m1 h1 H1 → RE m1 h1.size H1 s σ → RP m1 h1.size H1 x v → PostI K p (fun cls d H' => W cls d σ H') h1 m1 H1 (g x h1) R → Q v H1) : teOf K p W c f σ H Q := by
  refine ⟨s, h, m, rh, re, ?_⟩
  cases e : f c s h with
  | bad => rw [e] at hp; exact hp
  | err x h1 => rw [e] at hp; exact hp
  | ok x h1 =>
    rw [e] at hp
    intro m1 H1 v l rh1 rx
    refine k v H1 x h1 m1 rh1 (re.mono l) rx ?_
    have hp : PostI K p (fun cls d H' => W cls d σ H') h m H (g x h1) R := hp
    cases eg : g x h1 with
    | bad => rw [eg] at hp; exact hp
    | err x2 h2 => rw [eg] at hp; exact fun m2 H2 cls d l2 => hp m2 H2 cls d (l.trans l2)
    | ok x2 h2 => rw [eg] at hp; exact fun m2 H2 J l2 => hp m2 H2 J (l.trans l2)
theorem si_r1 (hg : sc.scope.names.lookup ("range" : Str) = some .globalImplicit) (hf : ("range" : Str) ∈ G.free) (hs : notStar a = true) (ha : SE G p sc a fa) : SI G p sc tg (.Call (.Name "range" q) [a] [] pos) (iR1 fa) := fun k W X cx =>
  PI.imp (pi_range1 (glob_of cx hg) (cx.g.free _ hf) (pa_cons (ha k W X cx) pa_nil (star_no hs)) (star_no hs)) fun σ H R ⟨s, h, m, rh, re, hp⟩ => ta_pi rh re hp fun v H1 x h1 m1 rh1 re1 rx hp1 => by
    cases x <;> first | exact hp1.elim | skip
    rename_i j
    obtain ⟨c1, hp1⟩ := cndI_post hp1
    obtain ⟨b1, b2⟩ := lt62_iff c1
    rw [rx.int_inv]
    exact ⟨j, rfl, b1, b2, hp1 m1 H1 _ rh1.refl rh1 (Walks.range 0 _)⟩
theorem si_r2 (hg : sc.scope.names.lookup ("range" : Str) = some .globalImplicit) (hf : ("range" : Str) ∈ G.free) (hs : noStars [a, b] = true) (ha : SE G p sc a fa) (hb : SE G p sc b fb) : SI G p sc tg (.Call (.Name "range" q) [a, b] [] pos) (iR2 fa fb) := fun k W X cx => by
  obtain ⟨s1, s2⟩ := noStars_cons hs
  obtain ⟨s2, _⟩ := noStars_cons s2
  refine PI.imp (pi_range2 (glob_of cx hg) (cx.g.free _ hf) (pa_cons (ha k W X cx) (pa_cons (hb k W X cx) pa_nil (star_no s2)) (star_no s1)) (by rw [star_no s1, star_no s2]; rfl) (star_no s2)) fun σ H R ⟨s, h, m, rh, re, hp⟩ => ta_pi rh re hp fun v H1 x h1 m1 rh1 re1 rx hp1 => ?_
  refine ta_pi rh1 re1 hp1 fun u H2 y h2 m2 rh2 re2 ry hp2 => ?_
  cases x <;> first | exact hp2.elim | skip
  cases y <;> first | exact hp2.elim | skip
  rename_i i j
  obtain ⟨c1, hp2⟩ := cndI_post hp2
  obtain ⟨c2, hp2⟩ := cndI_post hp2
  obtain ⟨b1, b2⟩ := lt62_iff c1
  obtain ⟨b3, b4⟩ := lt62_iff c2
  rw [rx.int_inv, ry.int_inv]
  exact ⟨i, j, rfl, ⟨b1, b2, b3, b4⟩, hp2 m2 H2 _ rh2.refl rh2 (Walks.range i _)⟩
theorem si_r3 (hg : sc.scope.names.lookup ("range" : Str) = some .globalImplicit) (hf : ("range" : Str) ∈ G.free) (hs : noStars [a, b, d] = true) (ha : SE G p sc a fa) (hb : SE G p sc b fb) (hd : SE G p sc d fd) : SI G p sc tg (.Call (.Name "range" q) [a, b, d] [] pos) (iR3 fa fb fd) := fun k W X cx => by
  obtain ⟨s1, s2⟩ := noStars_cons hs
  obtain ⟨s2, s3⟩ := noStars_cons s2
  obtain ⟨s3, _⟩ := noStars_cons s3
  refine PI.imp (pi_range3 (glob_of cx hg) (cx.g.free _ hf) (pa_cons (ha k W X cx) (pa_cons (hb k W X cx) (pa_cons (hd k W X cx) pa_nil (star_no s3)) (star_no s2)) (star_no s1)) (star_no s1) (by rw [star_no s2, star_no s3]; rfl)) fun σ H R ⟨s, h, m, rh, re, hp⟩ => ta_pi rh re hp fun v H1 x h1 m1 rh1 re1 rx hp1 => ?_
  refine ta_pi rh1 re1 hp1 fun u H2 y h2 m2 rh2 re2 ry hp2 => ?_
  refine ta_pi rh2 re2 hp2 fun w H3 z h3 m3 rh3 re3 rz hp3 => ?_
  cases x <;> first | exact hp3.elim | skip
  cases y <;> first | exact hp3.elim | skip
  cases z <;> first | exact hp3.elim | skip
  rename_i i j k'
  unfold rng3 at hp3
  simp only at hp3
  cases ek : ieq k' 0 with
  | true => rw [ek] at hp3; exact hp3.elim
  | false =>
    rw [ek] at hp3
    obtain ⟨c1, hp3⟩ := cndI_post hp3
    obtain ⟨c2, hp3⟩ := cndI_post hp3
    obtain ⟨c3, hp3⟩ := cndI_post hp3
    rw [rx.int_inv, ry.int_inv, rz.int_inv]
    rw [ile_eq] at c3
    have c3 := of_decide_eq_true c3
    refine ⟨i, j, k', _, rfl, ⟨fun e => ?_, blt_iff.mp c1, c2, (Int.toNat_of_nonneg c3).symm⟩, hp3 m3 H3 _ rh3.refl rh3 (Walks.rangeC i k' _)⟩
    rw [ieq_eq] at ek
    exact of_decide_eq_false ek e
end
end Ev
end

section
set_option Elab.async false
set_option linter.all false
set_option maxRecDepth 100000
/-! Ev: comprehensions. -/
namespace Ev
open PySem PySem.Spec PyProof.Rows L2
section
variable {G : GT} {p : Pl} {sc : Sc} {pos : Pos}
theorem Le.both {h h' : Mem} {m m' : Mp} {H H' : Hp} (l : Le h m H h' m' H') (ls : List Nat) : Le (h.unlock ls) m H (h'.unlock ls) m' H' :=
  ⟨l.le, by rw [Mem.locks_unlock, Mem.locks_unlock, l.lk], l.ld, fun n hn => l.lkd n (List.mem_of_mem_drop hn), fun n hn hl => l.lkh n (List.mem_of_mem_drop hn) hl, l.keep, l.frame, l.tbls, l.tups, l.new, l.old⟩
/-- the locks are those that were put on -/
theorem unlock_lock {h h2 : Mem} {m m2 : Mp} {H H2 : Hp} {ls : List Nat} (l : Lz (h.lock ls) m H h2 m2 H2) : True := trivial
/-- the second source's turns, the list at D -/
theorem in_read {K : PySem.W.Frag} {c : Calls} {i1 : XI} {g1 : Tg} {t1 : XT} {fe : XE} {own1 : List Nat} {D : Addr} {h0 h2 : Mem} {m0 m2 : Mp} {H0 H2 : Hp} {s : Env} {σ : L2.St} {ys1 ws : List PV} {hF : Mem} {Nx : Hp → Prop}
    (hin : tgIn own1 g1) (hD : H0 D = none) (l : Le h0 m0 H0 h2 m2 H2) (rh : RH K p.C m2 h2 H2) (re : RE m2 h2.size H2 s σ) (ow : Own h2 m2 H2 D ys1)
    (et : ((i1 c s h2).bind fun q h3 => (turns (tgG g1) t1 c (lC1.wipeV s own1) (fun s'' h => (fe c s'' h).bind fun y h' => .ok [y] h') q.1 (h3.lock q.2)).bind fun ys h4 => .ok ys (h4.unlock q.2)) = .ok ws hF)
    (hlen : (ys1 ++ ws).length ≤ sizeLine) (k : ∀ mF HF, Le h0 m0 H0 hF mF HF → RH K p.C mF hF HF → Own hF mF HF D (ys1 ++ ws) → Nx HF) :
    tiOf K p (fun _ _ _ _ => False) c i1 σ H2 (fun J1 H4 => ∃ W1 : Nat → Nat → Hp → Prop, (∃ m, W1 0 m H4) ∧ ∀ j k H, W1 j k H →
      (J1.stop j H ∧ Nx H) ∨ (J1.go j H ∧ ∃ Nx1 : Hp → Prop, (∀ H', Nx1 H' → ∃ k', k' < k ∧ W1 (j + 1) k' H') ∧ ∀ x H', J1.yld j H x H' → ctR K g1 x (wipe σ own1) H' fun σ3 H5 => wipe σ3 own1 = wipe σ own1 ∧ ttOf K p (fun _ _ _ _ => False) c t1 σ3 H5 fun b H6 =>
        if b = true then teOf K p (fun _ _ _ _ => False) c fe σ3 H6 fun y H7 => ∃ acc, H7 D = some (.lst acc) ∧ acc.length < sizeLine ∧ Nx1 (upd H7 D (.lst (acc ++ [y]))) else Nx1 H6)) := by
  refine ⟨s, h2, m2, rh, re, ?_⟩
  obtain ⟨⟨xs, ls⟩, h3, e3, et⟩ := bind_ok et
  obtain ⟨ys', h4, e4, et⟩ := bind_ok et
  cases et
  rw [e3]
  rw [wipeV_eq] at e4
  intro m3 H3 J l3 rh3 wk
  simp only at e4 wk
  have ow3 := ow.mono l3
  have l03 := l.trans l3
  generalize hf : turns (tgG g1) t1 c (wipeE s own1) (fun s' h' => (fe c s' h').bind fun y h' => .ok [y] h') = tr at e4
  refine ⟨fun i mz H5 => ∃ h5 m5 zs1 zs2, i ≤ xs.length ∧ mz = xs.length - i ∧ Lz (h3.lock ls) m3 H3 h5 m5 H5 ∧ Le h0 m0 H0 (h5.unlock ls) m5 H5 ∧ RH K p.C m5 h5 H5 ∧ Own h5 m5 H5 D (ys1 ++ zs1) ∧ zs1 ++ zs2 = ws ∧ tr (xs.drop i) h5 = .ok zs2 h4,
    ⟨xs.length, h3.lock ls, m3, [], ws, Nat.zero_le _, rfl, Lz.refl, ?_, rh3.lock wk.loc, by rw [List.append_nil]; exact ⟨ow3.ni, ow3.at_⟩, rfl, by simpa using e4⟩, ?_⟩
  · exact ⟨l03.le, by rw [Mem.locks_unlock, Mem.locks_lock]; simp [l03.lk], l03.ld, l03.lkd, l03.lkh, l03.keep, l03.frame, l03.tbls, l03.tups, l03.new, l03.old⟩
  rintro i mz H5 ⟨h5, m5, zs1, zs2, hi, rfl, lz5, l5, rh5, ow5, ey, et⟩
  by_cases hlt : i < xs.length
  · have ex : xs[i]? = some xs[i] := List.getElem?_eq_getElem hlt
    obtain ⟨hgo, hy⟩ := wk.item i _ h5 m5 H5 ex lz5 rh5
    rw [List.drop_eq_getElem_cons hlt] at et
    refine .inr ⟨hgo, fun H9 => ∃ h9 m9 zs1 zs2, Lz (h3.lock ls) m3 H3 h9 m9 H9 ∧ Le h0 m0 H0 (h9.unlock ls) m9 H9 ∧ RH K p.C m9 h9 H9 ∧ Own h9 m9 H9 D (ys1 ++ zs1) ∧ zs1 ++ zs2 = ws ∧ tr (xs.drop (i + 1)) h9 = .ok zs2 h4,
      fun H9 ⟨h9, m9, y1, y2, lz9, l9, rh9, ow9, ey9, et9⟩ => ⟨xs.length - (i + 1), by omega, h9, m9, y1, y2, hlt, rfl, lz9, l9, rh9, ow9, ey9, et9⟩, fun v H6 hyv => ?_⟩
    obtain ⟨l6, rh6, rx⟩ := hy v H6 hyv
    have ow6 := ow5.mono l6
    have rew : RE m5 h5.size H6 (wipeE s own1) (wipe σ own1) := by
      have r := ((re.mono l3).wipe own1)
      refine ⟨r.len, fun i x e => ?_⟩
      obtain ⟨v, ev, rv⟩ := r.at_ i x e
      exact ⟨v, ev, (RP.weak lz5.lw rv).mono l6⟩
    subst hf
    obtain ⟨zs, h7, ez, et⟩ := bind_ok et
    obtain ⟨vs, h8, ew, et⟩ := bind_ok et
    cases et
    obtain ⟨s1, hg1, eg, ez⟩ := bind_ok ez
    obtain ⟨b, ht1, eb, ez⟩ := bind_ok ez
    obtain ⟨eh, _⟩ := ct_read (K := K) (Q := fun _ _ => True) rh6 rew rx eg fun _ _ => True.intro
    subst eh
    refine (ct_read (K := K) rh6 rew rx eg fun us re7 => ⟨by rw [wipe_ct hin, wipe_wipe], s1, _, m5, rh6, re7, post_ok eb fun m8 H8 b' l8 rh8 rb => ?_⟩).2
    have eb' : b = b' := rb
    subst eb'
    have l68 := l6.trans l8
    have lz8 := lz5.trans l68.lz
    have le8 := l5.trans (l68.both ls)
    have ow8 := ow6.mono l8
    cases b with
    | true =>
      rw [if_pos rfl]
      obtain ⟨y, h9, ey9, ez⟩ := bind_ok ez
      cases ez
      refine ⟨s1, ht1, m8, rh8, re7.mono l8, post_ok ey9 fun m9 H9 v9 l9 rh9 ry9 => ?_⟩
      have ow9 := ow8.mono l9
      obtain ⟨acc, ea, hl2, la, rha, owa⟩ := Own.app (h1 := h0) (h2 := h7.unlock ls) (m1 := m0) (H1 := H0) ⟨ow9.ni, ow9.at_⟩ (rh9.unlock ls) (le8.trans (l9.both ls)) hD (ry9 : RP m9 (h7.unlock ls).size H9 y v9)
      refine ⟨acc, ea, ?_, _, m9, zs1 ++ [y], vs, ?_, la, ?_, ?_, ?_, ew⟩
      · rw [hl2]
        have : (ys1 ++ (zs1 ++ ([y] ++ vs))).length ≤ sizeLine := by rw [ey]; exact hlen
        simp only [List.length_append, List.length_cons, List.length_nil] at this ⊢
        omega
      · refine lz8.trans (l9.lz.trans ⟨Nat.le_refl _, fun _ _ => rfl, fun _ e => e, fun _ e => e, fun n _ hl => upd_ne (ow9.ni n hl).1.symm, fun _ _ => ⟨rfl, rfl⟩, fun a us e => ?_⟩)
        rw [upd_ne (fun q => by rw [q, ea] at e; cases e)]
        exact e
      · exact ⟨rha.all, rha.obj, rha.inj, rh9.lok, rh9.lod, rha.tab⟩
      · rw [← List.append_assoc]; exact ⟨owa.ni, owa.at_⟩
      · rw [List.append_assoc]; exact ey
    | false =>
      rw [if_neg Bool.false_ne_true]
      cases ez
      exact ⟨_, m8, zs1, vs, lz8, le8, rh8, ow8, ey, ew⟩
  · have e : i = xs.length := by omega
    subst e
    rw [List.drop_length] at et
    subst hf
    cases et
    rw [List.append_nil] at ey
    subst ey
    exact .inl ⟨wk.stop _ m5 H5 lz5 rh5, k m5 H5 l5 (rh5.unlock ls) ⟨ow5.ni, ow5.at_⟩⟩
/-- TWO CLAUSES -/
theorem lc2_read {K : PySem.W.Frag} {W : WX} {c : Calls} {fi i1 : XI} {g g1 : Tg} {t t1 : XT} {fe : XE} {own own1 : List Nat} {σ : L2.St} {H : Hp} {Q : VK} (hin : tgIn own g) (hin1 : tgIn own1 g1) (h : tnOf K p W c (lC2 own own1 fi g t i1 g1 t1 fe) σ H Q) :
    tLc2 (tiOf K p W c fi) (ctR K g) (ttOf K p (fun _ _ _ _ => False) c t) (tiOf K p (fun _ _ _ _ => False) c i1) (ctR K g1) (ttOf K p (fun _ _ _ _ => False) c t1) (teOf K p (fun _ _ _ _ => False) c fe) own own1 σ H Q := by
  obtain ⟨s, h, m, rh, re, hp⟩ := h
  refine ⟨s, h, m, rh, re, ?_⟩
  unfold lC2 at hp
  cases ei : fi c s h with
  | bad => rw [ei] at hp; exact hp
  | err x h1 => rw [ei] at hp; exact hp
  | ok q h1 =>
    rw [ei] at hp
    simp only [Res.bind_ok] at hp
    obtain ⟨xs, ls⟩ := q
    intro m1 H1 J l1 rh1 wk D hD
    simp only at hp wk
    rw [wipeV_eq] at hp
    have hD0 : H D = none := l1.fresh hD
    generalize hb : (fun (s' : Env) (h : Mem) => (i1 c s' h).bind fun q h3 => (turns (tgG g1) t1 c (lC1.wipeV s' own1) (fun s'' h => (fe c s'' h).bind fun y h' => .ok [y] h') q.1 (h3.lock q.2)).bind fun ys h4 => .ok ys (h4.unlock q.2)) = bo at hp
    generalize hf : turns (tgG g) t c (wipeE s own) bo = tr at hp
    cases er : noErr (tr xs (h1.lock ls)) with
    | bad => rw [er] at hp; exact hp.elim
    | err x h2 => rw [er] at hp; unfold noErr at er; split at er <;> cases er
    | ok ys hE =>
      rw [er] at hp
      simp only [Res.bind_ok] at hp
      have er := noErr_ok er
      cases cf : fits ys with
      | false => rw [cf] at hp; exact hp.elim
      | true =>
        rw [cf] at hp
        have fy := fits_le cf
        obtain ⟨l2, rh2⟩ := rh1.tmp (u := .lst []) hD
        refine ⟨fun i mz H2 => ∃ h2 m2 ys1 ys2, i ≤ xs.length ∧ mz = xs.length - i ∧ Le (h1.lock ls) m1 H1 h2 m2 H2 ∧ RH K p.C m2 h2 H2 ∧ Own h2 m2 H2 D ys1 ∧ ys1 ++ ys2 = ys ∧ tr (xs.drop i) h2 = .ok ys2 hE,
          ⟨xs.length, h1.lock ls, m1, [], ys, Nat.zero_le _, rfl, ?_, rh2.lock wk.loc, ⟨fun n hn => ⟨fun z => (rh1.fresh hD hn).1 z.symm, fun z => (rh1.fresh hD hn).2 z.symm⟩, [], upd_same, .nil⟩, rfl, by simpa using er⟩, ?_⟩
        · exact (rh1.lrefl ls).trans ⟨l2.le, rfl, rfl, fun _ _ => rfl, fun n hn hl => (upd_ne (rh1.fresh (by assumption) hl).1), l2.keep, l2.frame, l2.tbls, l2.tups, l2.new, l2.old⟩
        rintro i mz H2 ⟨h2, m2, ys1, ys2, hi, rfl, l3, rh3, ow, ey, et⟩
        by_cases hlt : i < xs.length
        · have ex : xs[i]? = some xs[i] := List.getElem?_eq_getElem hlt
          obtain ⟨hgo, hy⟩ := wk.item i _ h2 m2 H2 ex l3.lz rh3
          rw [List.drop_eq_getElem_cons hlt] at et
          refine .inr ⟨hgo, fun H5 => ∃ h5 m5 ys1 ys2, Le (h1.lock ls) m1 H1 h5 m5 H5 ∧ RH K p.C m5 h5 H5 ∧ Own h5 m5 H5 D ys1 ∧ ys1 ++ ys2 = ys ∧ tr (xs.drop (i + 1)) h5 = .ok ys2 hE,
            fun H5 ⟨h5, m5, y1, y2, l5, rh5, ow5, ey5, et5⟩ => ⟨xs.length - (i + 1), by omega, h5, m5, y1, y2, hlt, rfl, l5, rh5, ow5, ey5, et5⟩, fun v H3 hyv => ?_⟩
          obtain ⟨l4, rh4, rx⟩ := hy v H3 hyv
          have l04 := l3.trans l4
          have ow4 := ow.mono l4
          have rew : RE m2 h2.size H3 (wipeE s own) (wipe σ own) := (((re.mono l1).wipe own).mono l3).mono l4
          subst hf
          obtain ⟨zs, h4, ez, et⟩ := bind_ok et
          obtain ⟨ws, h5, ew, et⟩ := bind_ok et
          cases et
          obtain ⟨s1, hg1, eg, ez⟩ := bind_ok ez
          obtain ⟨b, ht1, eb, ez⟩ := bind_ok ez
          obtain ⟨eh, _⟩ := ct_read (K := K) (Q := fun _ _ => True) rh4 rew rx eg fun _ _ => True.intro
          subst eh
          refine (ct_read (K := K) rh4 rew rx eg fun vs re5 => ⟨by rw [wipe_ct hin, wipe_wipe], s1, _, m2, rh4, re5, post_ok eb fun m6 H6 b' l6 rh6 rb => ?_⟩).2
          have eb' : b = b' := rb
          subst eb'
          have l06 := l04.trans l6
          have ow6 := ow4.mono l6
          cases b with
          | true =>
            rw [if_pos rfl]
            subst hb
            have hlen : (ys1 ++ zs).length ≤ sizeLine := by
              have : (ys1 ++ (zs ++ ws)).length = ys.length := by rw [ey]
              simp only [List.length_append] at this ⊢
              omega
            exact in_read (h0 := h1.lock ls) hin1 hD l06 rh6 (re5.mono l6) ow6 ez hlen fun mF HF lF rhF owF => ⟨_, mF, ys1 ++ zs, ws, lF, rhF, owF, by rw [List.append_assoc]; exact ey, ew⟩
          | false =>
            rw [if_neg Bool.false_ne_true]
            cases ez
            exact ⟨_, m6, ys1, ws, l06, rh6, ow6, ey, ew⟩
        · have e : i = xs.length := by omega
          subst e
          rw [List.drop_length] at et
          subst hf
          cases et
          rw [List.append_nil] at ey
          subst ey
          refine .inl ⟨wk.stop _ m2 H2 l3.lz rh3, ?_⟩
          obtain ⟨acc, ea, ra⟩ := ow.at_
          exact hp m2 H2 D acc (l1.trans l3.unlock) (rh3.unlock ls) hD0 ea ow.ni ra
/-- not a display of a set -/
def notSet : Expr → Bool
  | .Set _ _ _ => false
  | _ => true
theorem folded {e : Expr} (h : notSet e = true) (env : PySem.Env) (x : Value) : foldedSetIterable e env x = pure x := by
  cases e <;> first | rfl | cases h
variable {elt tg iter tg1 iter1 : Expr} {ifs ifs1 : List Expr} {scope : Scope} {own : List (Str × Nat)} {fi i1 : XI} {g g1 : Tg} {t t1 : XT} {fe : XE} {vs1 : List Nat}
theorem sn_lc1 (hb : blkC sc.N sc.scope scope own = true) (hs : notSet iter = true) (hin : tgIn (own.map (·.2)) g) (hi : SI G p sc tg iter fi) (hg : TgOk (blkSc sc scope) tg g) (ht : STs G p (blkSc sc scope) ifs t) (he : SE G p (blkSc sc scope) elt fe) :
    SN G p sc (.ListComp elt [⟨tg, iter, ifs, 0⟩] scope pos) (lC1 (own.map (·.2)) fi g t fe) := fun k W X cx =>
  PE.imp (pe_lc cx.calm cx.nd (hi k W X cx) (by rw [cx.n, cx.sco]; exact blkOk_by hb) (fun s H C cl fp => ct_ok (ecx_blk cx s H scope C cl fp) hg) (fun s H C cl fp => ht k _ _ (ecx_blk cx s H scope C cl fp)) (fun s H C cl fp => he k _ _ (ecx_blk cx s H scope C cl fp)) (folded hs _))
    fun σ H Q h => lc_read hin h
theorem sn_lc2 (hb : blkC sc.N sc.scope scope own = true) (hv : ∀ i ∈ vs1, i ∈ own.map (·.2)) (hs : notSet iter = true) (hs1 : notSet iter1 = true) (hin : tgIn (own.map (·.2)) g) (hin1 : tgIn vs1 g1) (hi : SI G p sc tg iter fi) (hg : TgOk (blkSc sc scope) tg g) (ht : STs G p (blkSc sc scope) ifs t)
    (hi1 : SI G p (blkSc sc scope) tg1 iter1 i1) (hg1 : TgOk (blkSc sc scope) tg1 g1) (ht1 : STs G p (blkSc sc scope) ifs1 t1) (he : SE G p (blkSc sc scope) elt fe) :
    SN G p sc (.ListComp elt [⟨tg, iter, ifs, 0⟩, ⟨tg1, iter1, ifs1, 0⟩] scope pos) (lC2 (own.map (·.2)) vs1 fi g t i1 g1 t1 fe) := fun k W X cx =>
  PE.imp (pe_lc2 cx.calm cx.nd (hi k W X cx) (by rw [cx.n, cx.sco]; exact blkOk_by hb) hv (fun s H C cl fp => ct_ok (ecx_blk cx s H scope C cl fp) hg) (fun s H C cl fp => ht k _ _ (ecx_blk cx s H scope C cl fp)) (fun s H C cl fp => hi1 k _ _ (ecx_blk cx s H scope C cl fp))
    (fun s H C cl fp => ct_ok (ecx_blk cx s H scope C cl fp) hg1) (fun s H C cl fp => ht1 k _ _ (ecx_blk cx s H scope C cl fp)) (fun s H C cl fp => he k _ _ (ecx_blk cx s H scope C cl fp)) (folded hs _) (folded hs1)) fun σ H Q h => lc2_read hin hin1 h
/-- name = a new list -/
theorem tn_asg {K : PySem.W.Frag} {W : WX} {c : Calls} {l : XA} {i : Nat} {D : Ends} {σ : L2.St} {H : Hp} (h : tsOf K p W c (sAsg (eNew l) (gName i)) D σ H) : tnOf K p W c l σ H (fun x H1 => L2.gName i x σ H1 D.nx) := by
  obtain ⟨s, h, m, rh, re, hp⟩ := h
  refine ⟨s, h, m, rh, re, ?_⟩
  unfold sAsg eNew at hp
  cases e : l c s h with
  | bad => rw [e] at hp; exact hp
  | err x h1 => rw [e] at hp; exact fun m1 H1 cls d l1 rh1 rx => hp m1 H1 σ cls d l1 rh1 (re.mono l1) rx
  | ok xs h1 =>
    rw [e] at hp
    simp only [Res.bind_ok] at hp
    cases cf : fits xs with
    | false => rw [cf] at hp; exact hp.elim
    | true =>
      rw [cf] at hp
      intro m1 H1 q vs l1 rh1 hn he na rs
      obtain ⟨l', rh'⟩ := l1.adopt rh1 hn he na rs
      have r : RP (m1.ext h1.size q q) (h1.push (.lst xs)).size H1 (.ref h1.size) (.ref ((m1.ext h1.size q q).a h1.size)) := .ref (by simp)
      rw [Mp.ext_a] at r
      exact hp _ _ _ l' rh' ((re.mono l').set i r)
variable {y : Str} {i : Nat} {py spos : Pos}
theorem ss_setLc1 (hk : sc.scope.kind = .function) (hy : sc.N[i]? = some y) (hyl : sc.scope.names.lookup y = some .local) (hl : (py.line == pos.line) = true) (ha : (scope.names.any fun (n, k) => n == y && (k == .local || k == .cell)) = false)
    (hb : blkC sc.N sc.scope scope own = true) (hs : notSet iter = true) (hin : tgIn (own.map (·.2)) g) (hi : SI G p sc tg iter fi) (hg : TgOk (blkSc sc scope) tg g) (ht : STs G p (blkSc sc scope) ifs t) (he : SE G p (blkSc sc scope) elt fe) :
    SS G p sc (.Assign [.Name y py] (.ListComp elt [⟨tg, iter, ifs, 0⟩] scope pos) spos) (sAsg (eNew (lC1 (own.map (·.2)) fi g t fe)) (gName i)) := fun k W X cx =>
  PS.imp (ps_setLc (i := i) cx.calm cx.nd (by rw [cx.n]; exact hy) (by rw [cx.sco]; exact hyl) (sw_true (by rw [cx.sco]; exact hk) (by rw [cx.sco]; exact hyl) hl ha) (hi k W X cx) (by rw [cx.n, cx.sco]; exact blkOk_by hb) (fun s H C cl fp => ct_ok (ecx_blk cx s H scope C cl fp) hg) (fun s H C cl fp => ht k _ _ (ecx_blk cx s H scope C cl fp)) (fun s H C cl fp => he k _ _ (ecx_blk cx s H scope C cl fp)) (folded hs _))
    fun D σ H h => lc_read hin (tn_asg h)
theorem ss_setLc2 (hk : sc.scope.kind = .function) (hy : sc.N[i]? = some y) (hyl : sc.scope.names.lookup y = some .local) (hl : (py.line == pos.line) = true) (ha : (scope.names.any fun (n, k) => n == y && (k == .local || k == .cell)) = false)
    (hb : blkC sc.N sc.scope scope own = true) (hv : ∀ i ∈ vs1, i ∈ own.map (·.2)) (hs : notSet iter = true) (hs1 : notSet iter1 = true) (hin : tgIn (own.map (·.2)) g) (hin1 : tgIn vs1 g1) (hi : SI G p sc tg iter fi) (hg : TgOk (blkSc sc scope) tg g) (ht : STs G p (blkSc sc scope) ifs t)
    (hi1 : SI G p (blkSc sc scope) tg1 iter1 i1) (hg1 : TgOk (blkSc sc scope) tg1 g1) (ht1 : STs G p (blkSc sc scope) ifs1 t1) (he : SE G p (blkSc sc scope) elt fe) :
    SS G p sc (.Assign [.Name y py] (.ListComp elt [⟨tg, iter, ifs, 0⟩, ⟨tg1, iter1, ifs1, 0⟩] scope pos) spos) (sAsg (eNew (lC2 (own.map (·.2)) vs1 fi g t i1 g1 t1 fe)) (gName i)) := fun k W X cx =>
  PS.imp (ps_setLc2 (i := i) cx.calm cx.nd (by rw [cx.n]; exact hy) (by rw [cx.sco]; exact hyl) (sw_true (by rw [cx.sco]; exact hk) (by rw [cx.sco]; exact hyl) hl ha) (hi k W X cx) (by rw [cx.n, cx.sco]; exact blkOk_by hb) hv (fun s H C cl fp => ct_ok (ecx_blk cx s H scope C cl fp) hg) (fun s H C cl fp => ht k _ _ (ecx_blk cx s H scope C cl fp)) (fun s H C cl fp => hi1 k _ _ (ecx_blk cx s H scope C cl fp))
    (fun s H C cl fp => ct_ok (ecx_blk cx s H scope C cl fp) hg1) (fun s H C cl fp => ht1 k _ _ (ecx_blk cx s H scope C cl fp)) (fun s H C cl fp => he k _ _ (ecx_blk cx s H scope C cl fp)) (folded hs _) (folded hs1)) fun D σ H h => lc2_read hin hin1 (tn_asg h)
end
end Ev
end

section
set_option Elab.async false
set_option linter.all false
set_option maxRecDepth 100000
/-! Ev: stores. -/
namespace Ev
open PySem PySem.Spec PyProof.Rows L2
section
variable {G : GT} {p : Pl} {sc : Sc} {a b d : Expr} {fa fb fd : XE} {pos : Pos}
/-! ### name op= e -/
def augF (o : BO) : Option (Int → Int → Int) := match o with
  | .add => some fun x y => x + y
  | .sub => some fun x y => x - y
  | .mul => some fun x y => x * y
  | _ => none
def augOp (o : BO) : Operator := match o with
  | .add => .Add
  | .sub => .Sub
  | .mul => .Mult
  | _ => .Div
theorem ss_aug {x : Str} {i : Nat} {o : BO} {pos' : Pos} (ho : (augF o).isSome = true) (hi : sc.N[i]? = some x) (hx : Loc sc.scope x) (hf : sc.fn x = true ∨ sc.scope.names.lookup x = some .local) (ha : SE G p sc a fa) : SS G p sc (.AugAssign (.Name x pos') (augOp o) a pos) (sAug i o fa) := fun k W X cx => by
  have key : ∀ D σ H, tsOf X.K p W (callD G.tab k) (sAug i o fa) D σ H → ∃ x : Int, σ[i]? = some (some (.int x)) ∧ teOf X.K p W (callD G.tab k) fa σ H fun v H1 => ∃ y : Int, v = .int y ∧ ∃ f, augF o = some f ∧ (o = .mul → CMul x y) ∧ D.nx (σ.set i (some (.int (f x y)))) H1 := by
    rintro D σ H ⟨s, h, m, rh, re, hp⟩
    unfold sAug at hp
    cases e : s[i]? with
    | none => rw [e] at hp; exact hp.elim
    | some w =>
      rw [e] at hp
      cases w with
      | none => exact hp.elim
      | some w =>
        cases w <;> first | exact hp.elim | skip
        rename_i x
        obtain ⟨v, ev, rv⟩ := re.at_ i _ e
        rw [rv.int_inv] at ev
        refine ⟨x, ev, ts_te rh re hp fun v H1 z h1 m1 rh1 re1 rz hp1 => ?_⟩
        cases z <;> first | exact hp1.elim | skip
        rename_i y
        refine ⟨y, rz.int_inv, ?_⟩
        cases o <;> first | exact hp1.elim | skip
        · exact ⟨_, rfl, fun z => (nomatch z), hp1 m1 H1 _ rh1.refl rh1 (re1.set i (.int _))⟩
        · exact ⟨_, rfl, fun z => (nomatch z), hp1 m1 H1 _ rh1.refl rh1 (re1.set i (.int _))⟩
        · simp only at hp1
          cases c1 : lt64 x with
          | true =>
            rw [c1] at hp1
            exact ⟨_, rfl, fun _ => .inl (lt64_iff.mp c1), hp1 m1 H1 _ rh1.refl rh1 (re1.set i (.int _))⟩
          | false =>
            rw [c1] at hp1
            cases c2 : lt64 y with
            | true =>
              rw [c2] at hp1
              exact ⟨_, rfl, fun _ => .inr (lt64_iff.mp c2), hp1 m1 H1 _ rh1.refl rh1 (re1.set i (.int _))⟩
            | false => rw [c2] at hp1; exact hp1.elim
  have hi' : X.N[i]? = some x := by rw [cx.n]; exact hi
  have hx' : Loc X.env.scope x := by rw [cx.sco]; exact hx
  have hf' : X.fn x = true ∨ X.env.scope.names.lookup x = some .local := by rw [cx.fn, cx.sco]; exact hf
  have mono : ∀ {σ : L2.St} {H : Hp} {Q Q' : VK}, teOf X.K p W (callD G.tab k) fa σ H Q → (∀ v H, Q v H → Q' v H) → teOf X.K p W (callD G.tab k) fa σ H Q' := fun ⟨s, h, m, rh, re, hp⟩ k => ⟨s, h, m, rh, re, hp.mono k⟩
  cases o with
  | add => exact PS.imp (ps_aug cx.nd hi' hx' (ha k W X cx) iop_add hf') fun D σ H hh => by
             obtain ⟨x, e, t⟩ := key D σ H hh
             exact ⟨_, e, mono t fun v H1 ⟨y, ev, f, ef, _, q⟩ => by cases ef; exact ⟨x, y, rfl, ev, q⟩⟩
  | sub => exact PS.imp (ps_aug cx.nd hi' hx' (ha k W X cx) iop_sub hf') fun D σ H hh => by
             obtain ⟨x, e, t⟩ := key D σ H hh
             exact ⟨_, e, mono t fun v H1 ⟨y, ev, f, ef, _, q⟩ => by cases ef; exact ⟨x, y, rfl, ev, q⟩⟩
  | mul => exact PS.imp (ps_aug cx.nd hi' hx' (ha k W X cx) iop_mul hf') fun D σ H hh => by
             obtain ⟨x, e, t⟩ := key D σ H hh
             exact ⟨_, e, mono t fun v H1 ⟨y, ev, f, ef, hc, q⟩ => by cases ef; exact ⟨x, y, rfl, ev, hc rfl, q⟩⟩
  | fdiv => cases ho
  | mod => cases ho
  | pow => cases ho

theorem ts_le {K : PySem.W.Frag} {W : WX} {c : Calls} {D : Ends} {fa : XE} {s : Env} {h : Mem} {m : Mp} {σ : L2.St} {H : Hp} {f : PV → Mem → SR} {Q2 : VK} (rh : RH K p.C m h H) (re : RE m h.size H s σ) (hp : PostS K p W D h m H (sOf s (fa c s h) f))
    (k : ∀ v H1 a h1 m1, Le h m H h1 m1 H1 → RH K p.C m1 h1 H1 → RE m1 h1.size H1 s σ → RP m1 h1.size H1 a v → PostS K p W D h1 m1 H1 (f a h1) → Q2 v H1) : teOf K p W c fa σ H Q2 :=
  ⟨s, h, m, rh, re, (sOf_post re hp).mono fun b H1 ⟨a, h1, m1, l, rh1, ra, q⟩ => k b H1 a h1 m1 l rh1 (re.mono l) ra (q.shift l)⟩
/-! ### o[i] = v -/
theorem noswapT {v tg : Expr} {l : Nat} {env : PySem.Env} (h : ∀ x q, tg ≠ .Name x q) : swapsWith v (some tg) l env = pure false := by
  cases v <;> first | rfl | skip
  all_goals (cases tg <;> first | rfl | exact absurd rfl (h _ _))
theorem setI_ok {X : Cx} (hu : X.A.units + 9 < cLine) : PSet X (fun x y v H Q => ∃ (r : Nat) (w : PV) (h : Mem) (m : Mp), x = .ref (m.a r) ∧ RH X.K p.C m h H ∧ h.free r = true ∧ RP m h.size H w v ∧
    ((∃ (k : Int) (xs : List PV) (j : Nat), y = .int k ∧ h.get r = some (.lst xs) ∧ ixN xs.length k = some j ∧ ∀ H', Le h m H (h.set r (.lst (xs.set j w))) m H' → RH X.K p.C m (h.set r (.lst (xs.set j w))) H' → Q H') ∨
     ∃ (k : PV) (NK : NestedKey) (b : Addr) (kvs : List (PV × PV)), y = .ref b ∧ h.get r = some (.dic kvs) ∧ keyN k = some NK ∧ RP m h.size H k (.ref b) ∧ fits kvs = true ∧ ∀ H', Le h m H (h.set r (.dic (dput k w kvs))) m H' → RH X.K p.C m (h.set r (.dic (dput k w kvs))) H' → Q H')) := by
  rintro pins s σ H o i v ov iv u Q I ro ri rv ⟨r, w, h, m, rfl, rh, hfr, rw', hh⟩
  rcases hh with ⟨k, xs, j, rfl, e, ej, kk⟩ | ⟨k, NK, b, kvs, rfl, e, eK, rk, hf, kk⟩
  · obtain ⟨_, vs, ev, rs⟩ := rh.obj r _ e
    obtain ⟨l, rh'⟩ := rh.putL e (Mem.free_iff.mp hfr) (rs.set rw' j)
    exact set_list pins s σ H _ _ v ov iv u Q I ro ri rv ⟨_, vs, k, j, rfl, rfl, ev, by rw [rs.length]; exact ixN_eq ej, kk _ l rh'⟩
  · obtain rfl : ov = Value.ref (m.a r) := ro
    obtain rfl : iv = Value.ref b := ri
    have hz : kvs.length < sizeLine := by
      have h1 : kvs.length ≤ 65536 := by unfold fits fitsN at hf; rwa [Nat.ble_eq] at hf
      have : sizeLine = 16777216 := by decide
      omega
    exact kd_setItem hu I rh e (Mem.free_iff.mp hfr) hz rk eK rw' rv fun s' H' I' l rh' => ⟨H', I', kk H' l rh'⟩
theorem assign_each {tg : Expr} {env : PySem.Env} (h : match tg with | .Name .. => True | .Tuple .. => True | .Subscript .. => True | _ => False) : (assignEach [tg] env).map (·.2) = [assign tg env] := by
  cases tg <;> first | rfl | exact h.elim
theorem ss_setI {c e : Expr} {fc fe : XE} {pos' : Pos} (ha : SE G p sc a fa) (hc : SE G p sc c fc) (he : SE G p sc e fe) (hb : ∀ (X : Cx) v, assign (.Subscript c e pos') X.env v = (do
      let ov ← holding [v] (eval c X.env)
      let iv ← holding [v, ov] (eval e X.env)
      standAt pos'
      holding [v, ov, iv] (setItem ov iv v)
      release [v, ov, iv] [])) : SS G p sc (.Assign [.Subscript c e pos'] a pos) (sSetI fc fe fa) := fun k W X cx =>
  PS.imp (ps_asg (ha k W X cx) (pg_sub (hc k W X cx) (he k W X cx) (setI_ok (p := p) (by have := hu_cx cx; omega)) (hb X)) (show swapsWith a (some (.Subscript c e pos')) pos.line X.env = pure false from noswapT (fun _ _ z => (nomatch z)))) fun D σ H ⟨s, h, m, rh, re, hp⟩ => by
    refine ts_le rh re hp fun v H1 w h1 m1 l1 rh1 re1 rw1 hp1 => ?_
    refine ts_le rh1 re1 hp1 fun o H2 x h2 m2 l2 rh2 re2 rx hp2 => ?_
    refine ts_le rh2 re2 hp2 fun i H3 y h3 m3 l3 rh3 re3 ry hp3 => ?_
    cases x <;> first | exact hp3.elim | skip
    rename_i r
    cases y <;> first | exact hp3.elim | skip
    · rename_i k
      cases e : h3.get r with
      | none => simp only [e] at hp3; exact hp3.elim
      | some ob =>
        simp only [e] at hp3
        cases ob <;> first | exact hp3.elim | skip
        rename_i xs
        simp only at hp3
        cases ej : ixN xs.length k with
        | none => simp only [ej] at hp3; exact hp3.elim
        | some j =>
          simp only [ej] at hp3
          cases ef : h3.free r with
          | false => rw [ef] at hp3; exact hp3.elim
          | true =>
            rw [ef] at hp3
            exact ⟨r, w, h3, m3, (rx.mono l3).ref_inv.1, rh3, ef, (rw1.mono l2).mono l3, .inl ⟨k, xs, j, ry.int_inv, e, ej, fun H' l' rh' => hp3 m3 H' _ l' rh' (re3.mono l')⟩⟩
    · rename_i ks
      cases e : h3.get r with
      | none => simp only [e] at hp3; exact hp3.elim
      | some ob =>
        simp only [e] at hp3
        cases ob <;> first | exact hp3.elim | skip
        rename_i kvs
        simp only at hp3
        cases et : isTKey (.tup ks) with
        | false => rw [et] at hp3; exact hp3.elim
        | true =>
          rw [et] at hp3
          cases ez : fits kvs with
          | false => rw [ez] at hp3; exact hp3.elim
          | true =>
            rw [ez] at hp3
            cases ef : h3.free r with
            | false => rw [ef] at hp3; exact hp3.elim
            | true =>
              rw [ef] at hp3
              obtain ⟨NK, eK⟩ := isTKey_ok et
              obtain ⟨b, eb⟩ := key_ref ry eK
              exact ⟨r, w, h3, m3, (rx.mono l3).ref_inv.1, rh3, ef, (rw1.mono l2).mono l3, .inr ⟨.tup ks, NK, b, kvs, eb, e, eK, by rw [← eb]; exact ry, ez, fun H' l' rh' => hp3 m3 H' _ l' rh' (re3.mono l')⟩⟩
/-! ### o.f = v -/
def SlotOk (G : GT) (f : Str) (tab : List (Nat × Nat)) : Prop := ∀ k i, (k, i) ∈ tab → (k, f, i) ∈ G.slots
theorem RSl.put {m : Mp} {z : Nat} {H : Hp} {fs : List (Option PV)} {vs : List (Option V)} {i : Nat} {w : PV} {v : V} (r : RSl m z H fs vs) (hi : i < fs.length) (rw' : RP m z H w v) : RSl m z H (fs.set i (some w)) (SlX.putS i v vs) := fun j x e => by
  by_cases h : i = j
  · subst h
    rw [List.getElem?_set_self hi] at e
    cases e
    exact ⟨v, SlX.putS_get _ _ _, rw'⟩
  · rw [List.getElem?_set_ne h] at e
    obtain ⟨u, eu, ru⟩ := r j x e
    exact ⟨u, (SlX.putS_ne (Ne.symm h)).mpr eu, ru⟩
theorem ss_slot {f : Str} {o : Expr} {fo : XE} {tab : List (Nat × Nat)} {pos' : Pos} (ht : SlotOk G f tab) (ho : SE G p sc o fo) (ha : SE G p sc a fa) : SS G p sc (.Assign [.Attribute o f pos'] a pos) (sSlot tab fo fa) := fun k W X cx =>
  PS.imp (SlX.ps_sl (ho k W X cx) (ha k W X cx) (noswapT (fun _ _ z => (nomatch z)))) fun D σ H ⟨s, h, m, rh, re, hp⟩ => by
    refine ts_le rh re hp fun v H1 w h1 m1 l1 rh1 re1 rw1 hp1 => ?_
    refine ts_le rh1 re1 hp1 fun o H2 x h2 m2 l2 rh2 re2 rx hp2 => ?_
    cases x <;> first | exact hp2.elim | skip
    rename_i r
    cases e : h2.get r with
    | none => simp only [e] at hp2; exact hp2.elim
    | some ob =>
      simp only [e] at hp2
      cases ob <;> first | exact hp2.elim | skip
      rename_i c fs
      simp only at hp2
      cases el : lookC c tab with
      | none => simp only [el] at hp2; exact hp2.elim
      | some i =>
        simp only [el] at hp2
        cases e1 : Nat.blt i fs.length with
        | false => rw [e1] at hp2; exact hp2.elim
        | true =>
          rw [e1] at hp2
          cases e2 : h2.free r with
          | false => rw [e2] at hp2; exact hp2.elim
          | true =>
            rw [e2] at hp2
            obtain ⟨sc1, q, sl⟩ := cx.g.sl c f i (ht c i (lookC_mem el))
            obtain ⟨dne, dn, vs, hsl, rs⟩ := rh2.obj r _ e
            have hr := Mem.get_lt e
            refine ⟨m2.a r, p.C c, m2.d r, q, vs, i, rx.ref_inv.1, hsl, sc1, sl, ?_⟩
            have na : ∃ u, H2 (m2.a r) = some u ∧ ∀ us, u ≠ .tup us := by
              cases eu : H2 (m2.a r) with
              | none => exact absurd eu (rh2.live hr).1
              | some u => exact ⟨u, rfl, fun us z => (rh2.live hr).2.2 us (by rw [eu, z])⟩
            have nd := dn.2
            obtain ⟨l3, rh3⟩ := rh2.put (u := .ins c (fs.set i (some w))) hr (Mem.free_iff.mp e2) (SlX.slH H2 (m2.a r) (p.C c) (m2.d r) (SlX.putS i v vs)) (fun b h1 h2 => SlX.slH_ne h1 h2)
              (fun b us eb => by
                obtain ⟨u, eu, nu⟩ := na
                rw [SlX.slH_ne (fun z => by rw [z, eu] at eb; exact nu us (Option.some.inj eb)) (fun z => by rw [z] at eb; exact nd us eb)]
                exact eb)
              ⟨by unfold SlX.slH; rw [upd_same]; exact fun z => (nomatch z), by unfold SlX.slH; rw [upd_ne dne, upd_same]; exact fun z => (nomatch z)⟩
              (fun l => ⟨dne, by unfold SlX.slH; rw [upd_ne dne, upd_same]; exact ⟨fun z => (nomatch z), fun us z => (nomatch z)⟩, _, SlX.slH_slt dne, (rs.weak l.lw).put (blt_iff.mp e1) ((rw1.mono l2).weak l.lw)⟩)
            exact hp2 m2 _ _ l3 rh3 (re2.mono l3)

/-! ### a, b = .. -/
def bkOf (scope : Scope) : ScopeKind := if scope.kind.isAnnotationScope then .function else scope.kind
def swC1 (scope : Scope) (ts vs : List Expr) : Bool := !(ts.length == 2 || ts.length == 3) || vs.length != ts.length || bkOf scope != .function
def swC2 (vs : List Expr) : Bool := vs.any fun | .Starred .. => true | _ => false
/-- the names of the targets that can be swapped -/
def swNames (scope : Scope) (ts : List Expr) : List Str := ts.filterMap fun
  | .Name id pos => if (scope.names.lookup id == some .local && pos.line == (ts.head?.map (·.pos.line)).getD 0) = true then some id else none
  | _ => none
def swC3 (scope : Scope) (ts : List Expr) : Bool := (swNames scope ts).length != ts.length || (swNames scope ts).eraseDups.length != (swNames scope ts).length
def swO (scope : Scope) (tg e : Expr) : Option (Option (List Str)) := match tg with
  | .Tuple ts _ _ => match e with
    | .Tuple vs _ _ => cnd (swC1 scope ts vs) (some none) (cnd (swC2 vs) (some none) (cnd (swC3 scope ts) (some none) (cnd (vs.all (foldedForSure 8)) (some none) (cnd (vs.all (constantsAlone 8)) none (some (some (swNames scope ts)))))))
    | _ => some none
  | .List _ _ => none
  | _ => some none
theorem swO_ok {scope : Scope} {tg e : Expr} {env : PySem.Env} {r : Option (List Str)} (he : env.scope = scope) (h : swO scope tg e = some r) : swappedStores [tg] e env = pure r := by
  subst he
  cases tg <;> first | (cases h; rfl) | (cases h; done) | skip
  cases e <;> first | (cases h; rfl) | skip
  rename_i ts _ _ vs _ _
  have h : cnd (swC1 env.scope ts vs) (some none) (cnd (swC2 vs) (some none) (cnd (swC3 env.scope ts) (some none) (cnd (vs.all (foldedForSure 8)) (some none) (cnd (vs.all (constantsAlone 8)) none (some (some (swNames env.scope ts))))))) = some r := h
  unfold swappedStores
  simp only
  show (if swC1 env.scope ts vs = true then pure none else if swC2 vs = true then pure none else if swC3 env.scope ts = true then pure none else if vs.all (foldedForSure 8) = true then pure none else
    if vs.all (constantsAlone 8) = true then _ else pure (some (swNames env.scope ts))) = _
  cases c1 : swC1 env.scope ts vs with
  | true => rw [c1] at h; cases h; rfl
  | false =>
    rw [c1] at h
    cases c2 : swC2 vs with
    | true => rw [c2] at h; cases h; rfl
    | false =>
      rw [c2] at h
      cases c3 : swC3 env.scope ts with
      | true => rw [c3] at h; cases h; rfl
      | false =>
        rw [c3] at h
        cases c4 : vs.all (foldedForSure 8) with
        | true => rw [c4] at h; cases h; rfl
        | false =>
          rw [c4] at h
          cases c5 : vs.all (constantsAlone 8) with
          | true => rw [c5] at h; cases h
          | false => rw [c5] at h; cases h; rfl
def tgKind : Expr → Bool
  | .Name _ _ => true
  | .Tuple _ _ _ => true
  | _ => false
theorem ss_tg {tg e : Expr} {fe : XE} {g : Tg} (hk : tgKind tg = true) (hs : ∀ x q, tg ≠ .Name x q) (hw : swO sc.scope tg e = some none) (hg : TgOk sc tg g) (he : SE G p sc e fe) : SS G p sc (.Assign [tg] e pos) (sAsg fe (tgG g)) := fun k W X cx =>
  PS.imp (ps_asg (he k W X cx) (sg_tg hg k W X cx) (show swapsWith e (some tg) pos.line X.env = pure false from noswapT hs) (swO_ok cx.sco hw) (by cases tg <;> first | rfl | cases hk)) fun D σ H ⟨s, h, m, rh, re, hp⟩ => by
    refine ts_le rh re hp fun v H1 x h1 m1 l1 rh1 re1 rx hp1 => ?_
    refine ⟨s, h1, m1, x, rh1, re1, rx, ?_⟩
    have q := sOf_post (R := RE) (σ := σ) re1 hp1
    exact q.mono fun σ' H2 ⟨s', h2, m2, l2, rh2, re2, q2⟩ => q2 m2 H2 σ' l2 rh2 re2
theorem par_read {K : PySem.W.Frag} {W : WX} {c : Calls} {l : XA} {is : List Nat} {D : Ends} {σ : L2.St} {H : Hp} (h : tsOf K p W c (sAsg (eTup l) (gUnp is)) D σ H) : taOf K p W c l σ H fun vs H1 => vs.length = is.length ∧ D.nx (setV is vs σ) H1 := by
  obtain ⟨s, h, m, rh, re, hp⟩ := h
  refine ⟨s, h, m, rh, re, ?_⟩
  unfold sAsg eTup at hp
  cases e : l c s h with
  | bad => rw [e] at hp; exact hp
  | err x h1 => rw [e] at hp; exact fun m1 H1 cls d l1 rh1 rx => hp m1 H1 σ cls d l1 rh1 (re.mono l1) rx
  | ok xs h1 =>
    rw [e] at hp
    simp only [Res.bind_ok] at hp
    cases cf : fits xs with
    | false => rw [cf] at hp; exact hp.elim
    | true =>
      rw [cf] at hp
      intro m1 H1 vs l1 rh1 rs
      have hp : PostS K p W D h m H (sOf s (ofO (setAll is xs s) h1) fun s' h2 => .nx s' h2) := hp
      cases es : setAll is xs s with
      | none => rw [es] at hp; exact hp.elim
      | some s' =>
        rw [es] at hp
        exact ⟨by rw [rs.length, setAll_len es], hp m1 H1 _ l1 rh1 (setAll_re es rs (re.mono l1))⟩
variable {x y z : Str} {i j l : Nat} {px py pz pt : Pos} {kt k2 : Nat} {pt2 : Pos} {la : XA}
theorem ss_par {e1 e2 : Expr} (hi : sc.N[i]? = some x) (hj : sc.N[j]? = some y) (hij : i ≠ j) (hx : sc.scope.names.lookup x = some .local) (hy : sc.scope.names.lookup y = some .local) (ha : SA G p sc [e1, e2] la)
    (hw : swO sc.scope (.Tuple [.Name x px, .Name y py] kt pt) (.Tuple [e1, e2] k2 pt2) = some (some [x, y])) : SS G p sc (.Assign [.Tuple [.Name x px, .Name y py] kt pt] (.Tuple [e1, e2] k2 pt2) pos) (sAsg (eTup la) (gUnp [i, j])) := fun k W X cx =>
  PS.imp (ps_par cx.calm cx.nd (by rw [cx.n]; exact hi) (by rw [cx.n]; exact hj) hij (by rw [cx.sco]; exact hx) (by rw [cx.sco]; exact hy) (ha k W X cx) (swO_ok cx.sco hw)) fun D σ H h => by
    obtain ⟨s, h, m, rh, re, hp⟩ := par_read h
    refine ⟨s, h, m, rh, re, hp.mono fun vs H1 ⟨hl, q⟩ => ?_⟩
    match vs, hl, q with
    | [v, w], _, q => exact ⟨v, w, rfl, q⟩
theorem ss_par3 {e1 e2 e3 : Expr} (hi : sc.N[i]? = some x) (hj : sc.N[j]? = some y) (hl : sc.N[l]? = some z) (hij : i ≠ j) (hil : i ≠ l) (hjl : j ≠ l) (hx : sc.scope.names.lookup x = some .local) (hy : sc.scope.names.lookup y = some .local) (hz : sc.scope.names.lookup z = some .local) (ha : SA G p sc [e1, e2, e3] la)
    (hw : swO sc.scope (.Tuple [.Name x px, .Name y py, .Name z pz] kt pt) (.Tuple [e1, e2, e3] k2 pt2) = some (some [x, y, z])) : SS G p sc (.Assign [.Tuple [.Name x px, .Name y py, .Name z pz] kt pt] (.Tuple [e1, e2, e3] k2 pt2) pos) (sAsg (eTup la) (gUnp [i, j, l])) := fun k W X cx =>
  PS.imp (ps_par3 cx.calm cx.nd (by rw [cx.n]; exact hi) (by rw [cx.n]; exact hj) (by rw [cx.n]; exact hl) hij hil hjl (by rw [cx.sco]; exact hx) (by rw [cx.sco]; exact hy) (by rw [cx.sco]; exact hz) (ha k W X cx) (swO_ok cx.sco hw)) fun D σ H h => by
    obtain ⟨s, h, m, rh, re, hp⟩ := par_read h
    refine ⟨s, h, m, rh, re, hp.mono fun vs H1 ⟨hl, q⟩ => ?_⟩
    match vs, hl, q with
    | [u, v, w], _, q => exact ⟨u, v, w, rfl, q⟩
end
end Ev
end

section
set_option Elab.async false
set_option linter.all false
set_option maxRecDepth 100000
/-! Ev: sorted(set(l)). -/
namespace Ev
open PySem PySem.Spec PyProof.Rows L2
theorem code_cons (B d : Int) (r : List Int) : TS.code B (d :: r) = d * B ^ r.length + TS.code B r := rfl
theorem lex_code {B : Int} : ∀ {q r : List Int}, q.length = r.length → TS.Bd B q → TS.Bd B r → (HT.lexLt q r = true ↔ TS.code B q < TS.code B r)
  | [], [], _, _, _ => ⟨fun h => (by cases h), fun h => (by exact absurd h (Int.lt_irrefl _))⟩
  | [], _ :: _, h, _, _ => (by cases h)
  | _ :: _, [], h, _, _ => (by cases h)
  | x :: q, y :: r, h, h1, h2 => by
    have hl : q.length = r.length := Nat.succ.inj h
    rw [HT.lexLt_cons]
    by_cases e : x = y
    · subst e
      rw [if_pos rfl, lex_code hl h1.tail h2.tail, code_cons, code_cons, hl]
      generalize TS.code B q = u
      generalize TS.code B r = v
      generalize x * B ^ r.length = w
      omega
    · rw [if_neg e, decide_eq_true_iff]
      refine ⟨fun z => TS.code_lt hl h1.tail h2.tail z, fun z => ?_⟩
      rcases Int.lt_or_gt_of_ne e with g | g
      · exact g
      · have := TS.code_lt (B := B) hl.symm h2.tail h1.tail g
        omega
theorem lex_eq : ∀ {q r : List Int}, q.length = r.length → HT.lexLt q r = false → HT.lexLt r q = false → q = r
  | [], [], _, _, _ => rfl
  | [], _ :: _, h, _, _ => (by cases h)
  | _ :: _, [], h, _, _ => (by cases h)
  | x :: q, y :: r, h, h1, h2 => by
    have hl : q.length = r.length := Nat.succ.inj h
    rw [HT.lexLt_cons] at h1 h2
    by_cases e : x = y
    · subst e
      rw [if_pos rfl] at h1 h2
      rw [lex_eq hl h1 h2]
    · rw [if_neg e] at h1
      rw [if_neg (Ne.symm e)] at h2
      have := of_decide_eq_false h1
      have := of_decide_eq_false h2
      exact absurd (by omega) e
/-- the tuples that are served -/
def Okt (d : Nat) (ks : List (List Int)) : Prop := ∀ k ∈ ks, k.length = d ∧ TS.Bd 64 k
theorem small64_ok : ∀ {k : List Int}, small64 k = true → TS.Bd 64 k
  | [], _ => fun m h => (by cases h)
  | i :: r, h => by
    unfold small64 at h
    cases e1 : ile 0 i with
    | false => rw [e1] at h; cases h
    | true =>
      rw [e1] at h
      simp only [cnd_true] at h
      cases e2 : ilt i 64 with
      | false => rw [e2] at h; cases h
      | true =>
        rw [e2] at h
        have ih := small64_ok (k := r) h
        rw [ile_eq] at e1
        rw [ilt_eq] at e2
        intro m hm
        rcases List.mem_cons.mp hm with z | z
        · rw [z]; exact ⟨of_decide_eq_true e1, of_decide_eq_true e2⟩
        · exact ih m z
theorem allT_ok {d : Nat} : ∀ {ks : List (List Int)}, allT d ks = true → Okt d ks
  | [], _ => fun m h => (by cases h)
  | k :: r, h => by
    unfold allT at h
    cases e1 : Nat.beq k.length d with
    | false => rw [e1] at h; cases h
    | true =>
      rw [e1] at h
      simp only [cnd_true] at h
      cases e2 : small64 k with
      | false => rw [e2] at h; cases h
      | true =>
        rw [e2] at h
        have ih := allT_ok (ks := r) h
        intro m hm
        rcases List.mem_cons.mp hm with z | z
        · rw [z]; exact ⟨Nat.eq_of_beq_eq_true e1, small64_ok e2⟩
        · exact ih m z
theorem insT_mem {d : Nat} {k : List Int} (hk : k.length = d) : ∀ {l : List (List Int)}, (∀ j ∈ l, j.length = d) → ∀ x, x ∈ insT k l ↔ x = k ∨ x ∈ l
  | [], _, x => by simp [insT]
  | j :: r, h, x => by
    unfold insT
    cases e1 : HT.lexLt k j with
    | true => simp
    | false =>
      simp only [cnd_false]
      cases e2 : HT.lexLt j k with
      | true =>
        simp only [cnd_true, List.mem_cons]
        rw [insT_mem hk (fun j hj => h j (List.mem_cons_of_mem _ hj)) x]
        constructor
        · rintro (z | z | z) <;> simp [z]
        · rintro (z | z | z) <;> simp [z]
      | false =>
        have := lex_eq (hk.trans (h j List.mem_cons_self).symm) e1 e2
        subst this
        simp
abbrev LtC (q r : List Int) : Prop := TS.code 64 q < TS.code 64 r
theorem insT_sorted {d : Nat} {k : List Int} (hk : k.length = d ∧ TS.Bd 64 k) : ∀ {l : List (List Int)}, Okt d l → l.Pairwise LtC → (insT k l).Pairwise LtC
  | [], _, _ => by simp [insT]
  | j :: r, h, hp => by
    have hj := h j List.mem_cons_self
    have hr : Okt d r := fun m hm => h m (List.mem_cons_of_mem _ hm)
    obtain ⟨h1, h2⟩ := List.pairwise_cons.mp hp
    unfold insT
    cases e1 : HT.lexLt k j with
    | true =>
      have c := (lex_code (hk.1.trans hj.1.symm) hk.2 hj.2).mp e1
      refine List.pairwise_cons.mpr ⟨fun m hm => ?_, hp⟩
      rcases List.mem_cons.mp hm with z | z
      · rw [z]; exact c
      · exact Int.lt_trans c (h1 m z)
    | false =>
      simp only [cnd_false]
      cases e2 : HT.lexLt j k with
      | true =>
        have c := (lex_code (hj.1.trans hk.1.symm) hj.2 hk.2).mp e2
        refine List.pairwise_cons.mpr ⟨fun m hm => ?_, insT_sorted hk hr h2⟩
        rcases (insT_mem hk.1 (fun j hj => (hr j hj).1) m).mp hm with z | z
        · rw [z]; exact c
        · exact h1 m z
      | false => exact hp
theorem ssort_mem {d : Nat} : ∀ {l : List (List Int)}, Okt d l → ∀ x, x ∈ ssort l ↔ x ∈ l
  | [], _, x => Iff.rfl
  | k :: r, h, x => by
    have hr : Okt d r := fun m hm => h m (List.mem_cons_of_mem _ hm)
    have ih := ssort_mem hr
    unfold ssort
    rw [insT_mem (h k List.mem_cons_self).1 (fun j hj => (hr j ((ih j).mp hj)).1) x, ih x, List.mem_cons]
theorem ssort_sorted {d : Nat} : ∀ {l : List (List Int)}, Okt d l → (ssort l).Pairwise LtC
  | [], _ => .nil
  | k :: r, h => by
    have hr : Okt d r := fun m hm => h m (List.mem_cons_of_mem _ hm)
    unfold ssort
    exact insT_sorted (h k List.mem_cons_self) (fun m hm => hr m ((ssort_mem hr m).mp hm)) (ssort_sorted hr)
theorem uniq : ∀ {l1 l2 : List (List Int)}, l1.Pairwise LtC → l2.Pairwise LtC → (∀ x, x ∈ l1 ↔ x ∈ l2) → l1 = l2
  | [], [], _, _, _ => rfl
  | [], y :: l2, _, _, h => absurd ((h y).mpr List.mem_cons_self) (by simp)
  | x :: l1, [], _, _, h => absurd ((h x).mp List.mem_cons_self) (by simp)
  | x :: l1, y :: l2, h1, h2, h => by
    obtain ⟨a1, b1⟩ := List.pairwise_cons.mp h1
    obtain ⟨a2, b2⟩ := List.pairwise_cons.mp h2
    have e : x = y := by
      rcases List.mem_cons.mp ((h x).mp List.mem_cons_self) with z | z
      · exact z
      · rcases List.mem_cons.mp ((h y).mpr List.mem_cons_self) with w | w
        · exact w.symm
        · have q1 : LtC y x := a2 x z
          have q2 : LtC x y := a1 y w
          unfold LtC at q1 q2
          omega
    subst e
    rw [uniq b1 b2 fun z => ⟨fun hz => ?_, fun hz => ?_⟩]
    · rcases List.mem_cons.mp ((h z).mp (List.mem_cons_of_mem _ hz)) with w | w
      · have q := a1 z hz
        rw [w] at q
        exact absurd q (Int.lt_irrefl _)
      · exact w
    · rcases List.mem_cons.mp ((h z).mpr (List.mem_cons_of_mem _ hz)) with w | w
      · have q := a2 z hz
        rw [w] at q
        exact absurd q (Int.lt_irrefl _)
      · exact w
section
variable {K : PySem.W.Frag} {C : CT} {m : Mp} {h : Mem} {H : Hp}
theorem ints_back {z : Nat} : ∀ {xs : List PV} {k : List Int} {vs : List V}, intsOf xs = some k → RPs m z H xs vs → vs = k.map V.int
  | [], k, _, e, .nil => by cases e; rfl
  | x :: xs, k, _, e, .cons r t => by
    cases x <;> first | (cases e; done) | skip
    rename_i i
    unfold intsOf at e
    cases e2 : intsOf xs with
    | none => rw [e2] at e; cases e
    | some k2 =>
      rw [e2] at e
      cases e
      rw [r.int_inv, ints_back e2 t] <;> rfl
theorem tints_back {z : Nat} : ∀ {xs : List PV} {ks : List (List Int)} {vs : List V}, tInts xs = some ks → RPs m z H xs vs → ∃ ps : List (Addr × List Int), vs = ps.map (fun p => V.ref p.1) ∧ ps.map (·.2) = ks ∧ ∀ p ∈ ps, H p.1 = some (.tup (p.2.map V.int))
  | [], ks, _, e, .nil => by cases e; exact ⟨[], rfl, rfl, fun p hp => (by cases hp)⟩
  | x :: xs, ks, _, e, .cons r t => by
    cases x <;> first | (cases e; done) | skip
    rename_i ys
    unfold tInts at e
    cases e1 : intsOf ys with
    | none => rw [e1] at e; cases e
    | some k =>
      rw [e1] at e
      cases e2 : tInts xs with
      | none => simp only [e2] at e; cases e
      | some k2 =>
        simp only [e2] at e
        cases e
        obtain ⟨ps, e3, e4, e5⟩ := tints_back e2 t
        obtain ⟨a, us, rfl, ea, rs⟩ := r.tup_inv
        rw [ints_back e1 rs] at ea
        refine ⟨(a, k) :: ps, by rw [e3]; rfl, by rw [List.map_cons, e4], fun p hp => ?_⟩
        rcases List.mem_cons.mp hp with w | w
        · rw [w]; exact ea
        · exact e5 p w
theorem ints_rps {z : Nat} : ∀ k : List Int, RPs m z H (k.map PV.int) (k.map V.int)
  | [] => .nil
  | i :: k => .cons (.int i) (ints_rps k)
theorem tups_rps {z : Nat} : ∀ L : List (Addr × List Int), (∀ p ∈ L, H p.1 = some (.tup (p.2.map V.int))) → RPs m z H (L.map fun p => tupI p.2) (L.map fun p => V.ref p.1)
  | [], _ => .nil
  | p :: L, h => .cons (.tup (h p List.mem_cons_self) (ints_rps p.2)) (tups_rps L fun q hq => h q (List.mem_cons_of_mem _ hq))
end
section
variable {G : GT} {p : Pl} {sc : Sc} {a : Expr} {fa : XE} {pos q1 q2 pos2 : Pos}
theorem se_ss (hg : sc.scope.names.lookup ("sorted" : Str) = some .globalImplicit) (hf : ("sorted" : Str) ∈ G.free) (hg2 : sc.scope.names.lookup ("set" : Str) = some .globalImplicit) (hf2 : ("set" : Str) ∈ G.free) (hs : notStar a = true) (ha : SE G p sc a fa) :
    SE G p sc (.Call (.Name "sorted" q1) [.Call (.Name "set" q2) [a] [] pos2] [] pos) (eSS fa) := fun k W X cx =>
  PE.imp (pe_callB (cr_sortedT cx.calm) (glob_of cx hg) (cx.g.free _ hf) (by decide +kernel) (pa_cons (pe_callTy (cr_setOfT cx.calm (by have := hu_cx cx; omega)) (glob_of cx hg2) (cx.g.free _ hf2) (by decide +kernel) (pa_cons (ha k W X cx) pa_nil (star_no hs)) (by decide) (by decide) (star_no hs)) pa_nil (star_no rfl)) (by decide) (by decide) (star_no rfl))
    fun σ H Q ⟨s, h, m, rh, re, hp⟩ => by
      show teOf X.K p W (callD G.tab k) fa σ H _
      refine te_bind rh re hp fun v H1 x h1 m1 l1 rh1 re1 rx hp1 => ?_
      unfold gSS at hp1
      cases e1 : listsOf h1 x with
      | none => rw [e1] at hp1; exact hp1.elim
      | some xs =>
        rw [e1] at hp1
        simp only at hp1
        cases e2 : tInts xs with
        | none => rw [e2] at hp1; exact hp1.elim
        | some ks =>
          rw [e2] at hp1
          simp only at hp1
          obtain ⟨c1, hp1⟩ := cnd_post hp1
          obtain ⟨c2, hp1⟩ := cnd_post hp1
          obtain ⟨c3, hp1⟩ := cnd_post hp1
          have okt := allT_ok c3
          cases x <;> first | (cases e1; done) | skip
          rename_i r
          have el : h1.get r = some (.lst xs) ∨ h1.get r = some (.scr xs) := by
            have e1 : (match h1.get r with
              | some (.lst xs) => some xs
              | some (.scr xs) => some xs
              | _ => none) = some xs := e1
            split at e1 <;> cases e1
            · exact .inl (by assumption)
            · exact .inr (by assumption)
          obtain ⟨vs, hl, rs⟩ := rh1.sqL el
          obtain ⟨ps, e3, e4, e5⟩ := tints_back e2 rs
          rw [rx.ref_inv.1]
          refine ⟨m1.a r, ps, rfl, by rw [← e3]; exact hl, fun p hp => SqT.of (e5 p hp), ?_, fun b L hb hsub hall => ?_⟩
          · have := blt_iff.mp c1
            rw [← e4, List.length_map] at this
            exact this
          · obtain ⟨l2, rh2⟩ := rh1.tmp (u := SetTO X.prog X.w b L) hb
            have hL : ∀ q ∈ L, q.2.length = headLen ks ∧ TS.Bd 64 q.2 := fun q hq => okt q.2 (by rw [← e4]; exact List.mem_map_of_mem (hsub q hq))
            refine ⟨b, L, headLen ks, 64, rfl, upd_same, fun q hq => SqT.of (l2.tups _ _ (e5 q (hsub q hq))), blt_iff.mp c2, hL, fun L' c pm nd few pw hc => ?_⟩
            have eL : L'.map (·.2) = ssort ks := by
              refine uniq ?_ (ssort_sorted okt) fun z => ?_
              · refine List.pairwise_map.mpr ?_
                have nd' : L'.Pairwise (fun q r => q.2 ≠ r.2) := List.pairwise_map.mp nd
                refine (pw.and nd').imp_of_mem fun {q r} hq hr hh => ?_
                have h1 := hL q (pm.mem_iff.mp hq)
                have h2 := hL r (pm.mem_iff.mp hr)
                have hle : TS.code 64 q.2 ≤ TS.code 64 r.2 := hh.1
                have hne := hh.2
                show TS.code 64 q.2 < TS.code 64 r.2
                rcases Int.lt_or_eq_of_le hle with z | z
                · exact z
                · exfalso
                  refine hne (lex_eq (h1.1.trans h2.1.symm) ?_ ?_)
                  · cases e : HT.lexLt q.2 r.2 with
                    | false => rfl
                    | true => have := (lex_code (h1.1.trans h2.1.symm) h1.2 h2.2).mp e; omega
                  · cases e : HT.lexLt r.2 q.2 with
                    | false => rfl
                    | true => have := (lex_code (h2.1.trans h1.1.symm) h2.2 h1.2).mp e; omega
              · rw [ssort_mem okt z]
                constructor
                · intro hz
                  obtain ⟨q, hq, rfl⟩ := List.mem_map.mp hz
                  rw [← e4]
                  exact List.mem_map_of_mem (hsub q (pm.mem_iff.mp hq))
                · intro hz
                  rw [← e4] at hz
                  obtain ⟨q, hq, rfl⟩ := List.mem_map.mp hz
                  obtain ⟨r, hr, er⟩ := List.mem_map.mp (hall q hq)
                  rw [← er]
                  exact List.mem_map_of_mem (pm.mem_iff.mpr hr)
            have rs' : RPs m1 h1.size (upd H1 b (SetTO X.prog X.w b L)) ((ssort ks).map tupI) (L'.map fun q => V.ref q.1) := by
              rw [← eL, List.map_map]
              exact tups_rps L' fun q hq => l2.tups _ _ (e5 q (hsub q (pm.mem_iff.mp hq)))
            exact post_newL rh2 hc rs' (hp1.shift l2)
end
end Ev
end

section
set_option Elab.async false
set_option linter.all false
set_option maxRecDepth 100000
/-! Ev: dicts made, read, copied; lists extended; starred items. -/
namespace Ev
open PySem PySem.Spec PyProof.Rows L2

section
variable {X : Cx} {C : CT} {pins : List (Addr × Obj)} {σ : L2.St} {H : Hp} {s : Shared} {h : Mem} {m : Mp} {A : Around} {E : Value → Shared → Prop}
theorem isTKey_N {k : PV} (h : isTKey k = true) : ∃ K, keyN k = some K := isTKey_ok h
/-- the pairs of a list, in the heap -/
theorem pairs_at (I : L2.Inv X pins σ H s) : ∀ {xs : List PV} {vs : List V} {its : List Value} {ps : List (PV × PV)}, pairsOf xs = some ps → RPs m h.size H xs vs → Vals vs its →
    ∃ (Tl : List Addr) (ws : Wx) (xx : Xx), its = Tl.map Value.ref ∧ Tl.length = xx.length ∧ RKv m h.size H ps ws ∧ PWx ws xx ∧ ∀ (j : Nat) (T : Addr) (q : NestedKey × Addr × Value), Tl[j]? = some T → xx[j]? = some q → s.heap.IsTuple T #[.ref q.2.1, q.2.2]
  | [], _, _, ps, e, .nil, r => by
    cases e
    cases r
    exact ⟨[], [], [], rfl, rfl, .nil, .nil, fun j T q e => by simp at e⟩
  | .tup [k, x] :: xs, v :: vs, u :: its, ps, e, .cons rx rt, .cons rv rvt => by
    have e : (match isTKey k with
      | true => match pairsOf xs with
        | some ps => some ((k, x) :: ps)
        | none => none
      | false => none) = some ps := e
    cases ek : isTKey k with
    | false => rw [ek] at e; cases e
    | true =>
      rw [ek] at e
      cases ep : pairsOf xs with
      | none => rw [ep] at e; cases e
      | some ps' =>
        rw [ep] at e
        cases e
        obtain ⟨T, vv, rfl, eT, rr⟩ := rx.tup_inv
        obtain rfl : u = Value.ref T := rv
        obtain ⟨vk, vx, rfl, rk, rxx⟩ := rr.two
        obtain ⟨K, eK⟩ := isTKey_ok ek
        obtain ⟨b, rfl⟩ := key_ref rk eK
        obtain ⟨_, its2, rv2, it2⟩ := (show ObjOk X.prog X.w H s.heap T (.tup [.ref b, vx]) from I.hok _ _ eT)
        obtain ⟨uk, ux, rfl, ruk, rux⟩ : ∃ uk ux, its2 = [uk, ux] ∧ RelV (.ref b) uk ∧ RelV vx ux := by
          cases rv2 with
          | cons a t => cases t with
            | cons c t => cases t; exact ⟨_, _, rfl, a, c⟩
        obtain rfl : uk = Value.ref b := ruk
        obtain ⟨Tl, ws, xx, e1, e2, e3, e4, e5⟩ := pairs_at I ep rt rvt
        refine ⟨T :: Tl, (K, b, vx) :: ws, (K, b, ux) :: xx, by rw [e1]; rfl, by rw [List.length_cons, List.length_cons, e2], .cons eK rk rxx e3, .cons ⟨rfl, rfl, rux⟩ e4, fun j T' q ej eq => ?_⟩
        cases j with
        | zero =>
          simp at ej eq
          subst ej
          subst eq
          exact it2
        | succ j => exact e5 j T' q (by simpa using ej) (by simpa using eq)
  | .non :: _, _, _, _, e, _, _ => by cases e
  | .bl _ :: _, _, _, _, e, _, _ => by cases e
  | .int _ :: _, _, _, _, e, _, _ => by cases e
  | .str _ :: _, _, _, _, e, _, _ => by cases e
  | .ref _ :: _, _, _, _, e, _, _ => by cases e
  | .tup [] :: _, _, _, _, e, _, _ => by cases e
  | .tup [_] :: _, _, _, _, e, _, _ => by cases e
  | .tup (_ :: _ :: _ :: _) :: _, _, _, _, e, _, _ => by cases e
theorem refsV : ∀ {ps : List Addr}, (ps.map Value.ref).toArray.size = ps.length := by intro ps; simp
theorem kd_pairs {i : Nat} {xs : List PV} {ps : List (PV × PV)} {Q : Value → Shared → Prop} (hc : A.handled = none) (hu : A.units + 10 < cLine) (I : L2.Inv X pins σ H s) (rh : RH X.K C m h H) (e : h.get i = some (.lst xs)) (ep : pairsOf xs = some ps)
    (q : ∀ s' H', L2.Inv X pins σ H' s' → Le h m H (h.push (.dic (dputs [] ps))) (m.ext h.size s.heap.objs.size s.heap.objs.size) H' → RH X.K C (m.ext h.size s.heap.objs.size s.heap.objs.size) (h.push (.dic (dputs [] ps))) H' → Q (.ref s.heap.objs.size) s') :
    wpAny (model X.prog X.w) A (call (.type "dict") [.ref (m.a i)]) Q E s := by
  obtain ⟨_, vs, ev, rs⟩ := rh.obj i _ e
  obtain ⟨its, rv, pl, hz⟩ := I.list (SqL.of ev)
  obtain ⟨Tl, ws, xx, e1, e2, e3, e4, e5⟩ := pairs_at (h := h) I ep rs rv
  subst e1
  obtain ⟨o, n, ho, hcl, hd, hdat⟩ := pl
  have hl : xx.length ≤ sizeLine := by
    have := rv.length
    rw [List.length_map] at this
    omega
  have hh := rkv_is (P := X.prog) (w := X.w) I.hok e3 e4
  let pv : List (Value × Value) := xx.map fun q => (.ref q.2.1, q.2.2)
  have hpv : pv.length = xx.length := by simp [pv]
  have hok : PlainSeq "list" s.heap (m.a i) (Tl.map Value.ref).toArray ∧ PairItems s.heap (Tl.map Value.ref).toArray (fun j => Tl.getD j 0) pv := by
    refine ⟨⟨o, n, ho, hcl, hd, hdat⟩, by rw [refsV, hpv, e2], fun j k v hj => ?_⟩
    rw [List.getElem?_map] at hj
    obtain ⟨q, hq, ee⟩ := Option.map_eq_some_iff.mp hj
    cases ee
    have hjl : j < Tl.length := by
      have := (List.getElem?_eq_some_iff.mp hq).1
      omega
    have hT : Tl[j]? = some (Tl.getD j 0) := by
      rw [List.getD_eq_getElem?_getD, List.getElem?_eq_getElem hjl]
      rfl
    refine ⟨by rw [List.getElem?_toArray, List.getElem?_map, hT]; rfl, .inl (e5 j _ q hT hq)⟩
  refine call_dict_pairsH (knd := nestedKind X.prog X.w) (ps := xx) (PairArg.list (m.a i) (Tl.map Value.ref).toArray (fun j => Tl.getD j 0) pv) hc (show A.in1.in1.units + 8 < cLine by have : A.in1.in1.units = A.units + 1 + 1 := rfl; omega) hok ⟨hpv.symm, fun j k v hj => ?_⟩ (fun h' kp x hx => ?_) (by rw [hpv]; exact hl) fun h' tk hd' kp => ?_
  · have hj : pv[j]? = some (k, v) := hj
    rw [List.getElem?_map] at hj
    obtain ⟨q, hq, ee⟩ := Option.map_eq_some_iff.mp hj
    cases ee
    exact ⟨q.1, q.2.1, hq, rfl⟩
  · have hi := (hh x hx).1
    refine ⟨NestedIs.at (fun b ob vs n eb _ => kp b ob (Nat.ne_of_lt (Heap.lt_size eb)) (fun z => nomatch z) eb) _ _ hi.1, hi.2⟩
  · obtain ⟨ws', r1, r2, r3⟩ := puts_rel e3 e4 (acc := []) (aw := []) (ax := []) .nil .nil List.nodup_nil
    have hws : ws.length = xx.length := Paired.length e4
    have hh' : ∀ x ∈ storedAllH [] xx, x.1.hash X.w = hk x.1 := by
      exact storedAllH_keys (P := fun (k : NestedKey) (_ : Addr) => k.hash X.w = hk k) (fun x hx => nomatch hx) fun x hx => (hh x hx).2
    obtain ⟨H', I', l, rh'⟩ := kd_laid (tk := tk) I rh r1 r2 (by simp only [List.length_nil] at r3; omega) hh' hd' fun b u eb => kp b u (fun z => nomatch z) eb
    exact q _ H' I' l rh'
end
section
variable {G : GT} {p : Pl} {sc : Sc} {a b d : Expr} {fa fb fd : XE} {pos apos q : Pos}
theorem post_new {K : PySem.W.Frag} {E : XK} {h : Mem} {m : Mp} {H H' : Hp} {o : Ob} {a : Addr} {Q : VK} (hp : Post K p RP E h m H (.ok (.ref h.size) (h.push o)) Q) (l : Le h m H (h.push o) (m.ext h.size a a) H') (rh : RH K p.C (m.ext h.size a a) (h.push o) H') : Q (.ref a) H' := by
  refine hp _ H' _ l rh ?_
  have r : RP (m.ext h.size a a) (h.push o).size H' (.ref h.size) (.ref ((m.ext h.size a a).a h.size)) := .ref (by rw [Mem.size_push]; omega)
  rwa [Mp.ext_a] at r
theorem se_dic0 : SE G p sc (.Dict [] [] pos) eDic0 := fun k W X cx => ⟨fun pins s σ H Q I ⟨sv, h, m, rh, re, hp⟩ =>
  kd_new (kx := []) I rh fun s' H' I' l rh' => ⟨.ref s.heap.objs.size, H', I', rfl, post_new hp l rh'⟩⟩
theorem se_dict {l : XA} (hg : sc.scope.names.lookup ("dict" : Str) = some .globalImplicit) (hf : ("dict" : Str) ∈ G.free) (hs : noStars [a] = true) (ha : SA G p sc [a] l) : SE G p sc (.Call (.Name "dict" q) [a] [] pos) (eB gDict l) := by
  refine se_callTy hg hf (T := "dict") (by decide +kernel) (by decide) (by decide) hs ha fun k W X cx pins s σ H vs us Q args h m I rv rh ra hp => ?_
  have hu := hu_cx cx
  cases args with
  | nil => exact hp.elim
  | cons x xs =>
    cases xs with
    | cons _ _ => exact hp.elim
    | nil =>
      have hp : Post X.K p RP (fun cls d H' => W cls d σ H') h m H (dictV x h) Q := hp
      obtain ⟨v, rfl, rx⟩ := ra.one
      obtain ⟨u, rfl, ru⟩ := vals1 rv
      cases x <;> first | exact hp.elim | skip
      rename_i i hp0
      obtain ⟨rfl, hi⟩ := rx.ref_inv
      obtain rfl : u = Value.ref (m.a i) := ru
      unfold dictV at hp
      simp only at hp
      cases eo : h.get i with
      | none => rw [eo] at hp; exact hp.elim
      | some o =>
        rw [eo] at hp
        cases o <;> first | exact hp.elim | skip
        · rename_i xs
          simp only at hp
          cases ep : pairsOf xs with
          | none => rw [ep] at hp; exact hp.elim
          | some ps =>
            rw [ep] at hp
            exact kd_pairs (I.ok.hd cx.calm) (by omega) I rh eo ep fun s' H' I' l rh' => ⟨.ref s.heap.objs.size, H', I', rfl, post_new hp l rh'⟩
        · rename_i kvs
          obtain ⟨c, hp⟩ := cnd_post hp
          exact kd_copy (by omega) I rh eo c fun s' H' I' l rh' => ⟨.ref s.heap.objs.size, H', I', rfl, post_new hp l rh'⟩
theorem isDic_ok {x : PV} {h : Mem} (e : isDic x h = true) : ∃ r kvs, x = .ref r ∧ h.get r = some (.dic kvs) := by
  cases x <;> first | (cases e; done) | skip
  rename_i r
  unfold isDic at e
  simp only at e
  cases eo : h.get r with
  | none => rw [eo] at e; cases e
  | some o =>
    rw [eo] at e
    cases o <;> first | (cases e; done) | skip
    exact ⟨r, _, rfl, eo⟩
theorem dget_inv {x k d c : PV} {h : Mem} (e : dgetV x k d h = some c) : ∃ r kvs, x = .ref r ∧ h.get r = some (.dic kvs) ∧ ((k = .non ∧ noneFree kvs = true ∧ c = d) ∨ ∃ K, keyN k = some K ∧ c = (dlook k kvs).getD d) := by
  cases x <;> first | (cases e; done) | skip
  rename_i r
  unfold dgetV at e
  simp only at e
  cases eo : h.get r with
  | none => rw [eo] at e; cases e
  | some o =>
    rw [eo] at e
    cases o <;> first | (cases e; done) | skip
    rename_i kvs
    refine ⟨r, kvs, rfl, eo, ?_⟩
    have key : cnd (isTKey k) (some ((dlook k kvs).getD d)) none = some c → ∃ K, keyN k = some K ∧ c = (dlook k kvs).getD d := fun e => by
      cases et : isTKey k with
      | false => rw [et] at e; cases e
      | true =>
        rw [et] at e
        obtain ⟨K, eK⟩ := isTKey_ok et
        exact ⟨K, eK, (Option.some.inj e).symm⟩
    cases k <;> first | exact .inr (key e) | skip
    simp only at e
    cases en : noneFree kvs with
    | false => rw [en] at e; cases e
    | true => rw [en] at e; cases e; exact .inl ⟨rfl, rfl, rfl⟩
theorem dic_call {X : Cx} {pins : List (Addr × Obj)} {σ : L2.St} {H : Hp} {s : Shared} {h : Mem} {m : Mp} {i : Nat} {kvs : List (PV × PV)} (I : L2.Inv X pins σ H s) (rh : RH X.K p.C m h H) (e : h.get i = some (.dic kvs)) :
    s.TypeIs (.ref (m.a i)) "dict" ∧ ∀ b, Value.ref (m.a i) = .ref b → ∃ ob, s.heap.get? b = some ob ∧ ob.dict = none := by
  obtain ⟨o, ws, xs, es, ep, e1, r, pw, d0, d1, d2, d3, hd, z, dd, hh⟩ := dic_at I rh e
  exact ⟨⟨o, d0, d1.1⟩, fun b q => by cases q; exact ⟨o, d0, d1.2.1⟩⟩
theorem se_get1 (hb : plainBase a = true) (hs : notStar b = true) (hl : (apos.endLine == pos.line) = true) (ha : SE G p sc a fa) (hbb : SE G p sc b fb) : SE G p sc (.Call (.Attribute a ("get" : Str) apos) [b] [] pos) (eGet1 fa fb) := fun k W X cx => by
  have hu := hu_cx cx
  refine ⟨fun pins s σ H Q I ⟨sv, h, m, rh, re, hp⟩ => ?_⟩
  refine wpAny_Call_method (base_ok hb) (few_app hs) hl PySem.F.plainAttrs_dict PySem.F.slot_dict_get PySem.F.type_dict_get (thn ((ha k W X cx).run pins s σ H _ I
    (te_bind (Q2 := fun v H1 => ∃ x h1 m1, RH X.K p.C m1 h1 H1 ∧ RE m1 h1.size H1 sv σ ∧ RP m1 h1.size H1 x v ∧ Post X.K p RP (fun cls d H' => W cls d σ H') h1 m1 H1 (cnd (isDic x h1) ((fb (callD G.tab k) sv h1).bind fun y h2 => ofO (dgetV x y .non h2) h2) .bad) Q)
      rh re hp fun v H1 x h1 m1 l1 rh1 re1 ra hp1 => ⟨x, h1, m1, rh1, re1, ra, hp1⟩)) fun u s1 ⟨v, H1, I1, rv, x, h1, m1, rh1, re1, ra, hp1⟩ => ?_)
  obtain ⟨c, hp1⟩ := cnd_post hp1
  obtain ⟨r, kvs, rfl, er⟩ := isDic_ok c
  obtain ⟨rfl, hr⟩ := ra.ref_inv
  obtain rfl : u = Value.ref (m1.a r) := rv
  obtain ⟨t1, t2⟩ := dic_call I1 rh1 er
  refine ⟨t1, t2, ?_⟩
  rw [star_no hs]
  refine Calls.callWith_builtin rfl (Calls.evalArgs_plain (Calls.spliced_cons (thn ((hbb k W X cx).run pins s1 σ H1 _ I1
    (te_bind (Q2 := fun v H2 => ∃ y h2 m2, Le h1 m1 H1 h2 m2 H2 ∧ RH X.K p.C m2 h2 H2 ∧ RP m2 h2.size H2 y v ∧ Post X.K p RP (fun cls d H' => W cls d σ H') h2 m2 H2 (ofO (dgetV (.ref r) y .non h2) h2) Q)
      rh1 re1 hp1 fun v H2 y h2 m2 l2 rh2 re2 rb hp2 => ⟨y, h2, m2, l2, rh2, rb, hp2⟩)) fun iv s2 ⟨w, H2, I2, rw2, y, h2, m2, l2, rh2, rb, hp2⟩ => Calls.spliced_nil ?_)))
  obtain ⟨cc, ec, hp2⟩ := ofO_post hp2
  obtain ⟨r', kvs', e1, e2, e3⟩ := dget_inv ec
  cases e1
  rw [← (l2.keep r hr).1]
  rcases e3 with ⟨rfl, nf, rfl⟩ | ⟨K, eK, rfl⟩
  · rw [rb.non_inv] at rw2
    obtain rfl : iv = Value.none := rw2
    exact kd_getNone (by omega) I2 rh2 e2 nf fun s' I' => ⟨.non, H2, I', rfl, hp2 m2 H2 _ rh2.refl rh2 .non⟩
  · obtain ⟨bb, rfl⟩ := key_ref rb eK
    obtain rfl : iv = Value.ref bb := rw2
    exact kd_get (by omega) I2 rh2 e2 rb eK fun v w' s' rr I' rw' => ⟨v, H2, I', rw', hp2 m2 H2 _ rh2.refl rh2 rr⟩
theorem star_two (h1 : notStar a = true) (h2 : notStar b = true) {env : PySem.Env} : starEach [a, b] env = [(false, eval a env), (false, eval b env)] := by
  rw [star_no h1, star_no h2]
  rfl
theorem few_two {env : PySem.Env} (h1 : notStar a = true) (h2 : notStar b = true) : ((backTo pos (starEach [a, b] env)).all (fun x => !x.1) && (backToKw pos (keywordEach [] env)).all (fun x => x.1.isSome)
      && decide (([a, b] : List Expr).length + ([] : List Keyword).length + (if ([] : List Keyword).isEmpty then 0 else 1) < 30)) = true := by
  rw [star_two h1 h2]
  rfl
theorem se_get2 (hb : plainBase a = true) (hs : notStar b = true) (hs2 : notStar d = true) (hl : (apos.endLine == pos.line) = true) (ha : SE G p sc a fa) (hbb : SE G p sc b fb) (hdd : SE G p sc d fd) : SE G p sc (.Call (.Attribute a ("get" : Str) apos) [b, d] [] pos) (eGet2 fa fb fd) := fun k W X cx => by
  have hu := hu_cx cx
  refine ⟨fun pins s σ H Q I ⟨sv, h, m, rh, re, hp⟩ => ?_⟩
  refine wpAny_Call_method (base_ok hb) (few_two hs hs2) hl PySem.F.plainAttrs_dict PySem.F.slot_dict_get PySem.F.type_dict_get (thn ((ha k W X cx).run pins s σ H _ I
    (te_bind (Q2 := fun v H1 => ∃ x h1 m1, RH X.K p.C m1 h1 H1 ∧ RE m1 h1.size H1 sv σ ∧ RP m1 h1.size H1 x v ∧ Post X.K p RP (fun cls d H' => W cls d σ H') h1 m1 H1 (cnd (isDic x h1) ((fb (callD G.tab k) sv h1).bind fun y h2 => (fd (callD G.tab k) sv h2).bind fun z h3 => ofO (dgetV x y z h3) h3) .bad) Q)
      rh re hp fun v H1 x h1 m1 l1 rh1 re1 ra hp1 => ⟨x, h1, m1, rh1, re1, ra, hp1⟩)) fun u s1 ⟨v, H1, I1, rv, x, h1, m1, rh1, re1, ra, hp1⟩ => ?_)
  obtain ⟨c, hp1⟩ := cnd_post hp1
  obtain ⟨r, kvs, rfl, er⟩ := isDic_ok c
  obtain ⟨rfl, hr⟩ := ra.ref_inv
  obtain rfl : u = Value.ref (m1.a r) := rv
  obtain ⟨t1, t2⟩ := dic_call I1 rh1 er
  refine ⟨t1, t2, ?_⟩
  rw [star_two hs hs2]
  refine Calls.callWith_builtin rfl (Calls.evalArgs_plain (Calls.spliced_cons (thn ((hbb k W X cx).run pins s1 σ H1 _ I1
    (te_bind (Q2 := fun v H2 => ∃ y h2 m2, Le h1 m1 H1 h2 m2 H2 ∧ RH X.K p.C m2 h2 H2 ∧ RE m2 h2.size H2 sv σ ∧ RP m2 h2.size H2 y v ∧ Post X.K p RP (fun cls d H' => W cls d σ H') h2 m2 H2 ((fd (callD G.tab k) sv h2).bind fun z h3 => ofO (dgetV (.ref r) y z h3) h3) Q)
      rh1 re1 hp1 fun v H2 y h2 m2 l2 rh2 re2 rb hp2 => ⟨y, h2, m2, l2, rh2, re2, rb, hp2⟩)) fun iv s2 ⟨w, H2, I2, rw2, y, h2, m2, l2, rh2, re2, rb, hp2⟩ =>
    Calls.spliced_cons (thn ((hdd k W X cx).run pins s2 σ H2 _ I2
    (te_bind (Q2 := fun v H3 => ∃ z h3 m3, Le h2 m2 H2 h3 m3 H3 ∧ RH X.K p.C m3 h3 H3 ∧ RP m3 h3.size H3 z v ∧ Post X.K p RP (fun cls d H' => W cls d σ H') h3 m3 H3 (ofO (dgetV (.ref r) y z h3) h3) Q)
      rh2 re2 hp2 fun v H3 z h3 m3 l3 rh3 re3 rz hp3 => ⟨z, h3, m3, l3, rh3, rz, hp3⟩)) fun dv s3 ⟨w3, H3, I3, rw3, z, h3, m3, l3, rh3, rz, hp3⟩ => Calls.spliced_nil ?_))))
  obtain ⟨cc, ec, hp4⟩ := ofO_post hp3
  obtain ⟨r', kvs', e1, e2, e3⟩ := dget_inv ec
  cases e1
  rw [← (l2.keep r hr).1, ← (l3.keep r (Nat.lt_of_lt_of_le hr l2.le)).1]
  have rb := rb.mono l3
  rcases e3 with ⟨rfl, nf, ec'⟩ | ⟨K, eK, ec'⟩
  · subst ec'
    rw [rb.non_inv] at rw2
    obtain rfl : iv = Value.none := rw2
    exact kd_getNone2 (by omega) I3 rh3 e2 nf fun s' I' => ⟨w3, H3, I', rw3, hp4 m3 H3 _ rh3.refl rh3 rz⟩
  · subst ec'
    obtain ⟨bb, rfl⟩ := key_ref rb eK
    obtain rfl : iv = Value.ref bb := rw2
    exact kd_get2 (by omega) I3 rh3 e2 rb eK rz rw3 fun v w' s' rr I' rw' => ⟨v, H3, I', rw', hp4 m3 H3 _ rh3.refl rh3 rr⟩
theorem se_clrD (hb : plainBase a = true) (hl : (apos.endLine == pos.line) = true) (ha : SE G p sc a fa) : SE G p sc (.Call (.Attribute a ("clear" : Str) apos) [] [] pos) (eClrD fa) := fun k W X cx => by
  refine ⟨fun pins s σ H Q I ⟨sv, h, m, rh, re, hp⟩ => ?_⟩
  refine wpAny_Call_method (base_ok hb) rfl hl PySem.F.plainAttrs_dict PySem.F.slot_dict_clear PySem.F.type_dict_clear (thn ((ha k W X cx).run pins s σ H _ I
    (te_bind (Q2 := fun v H1 => ∃ x h1 m1, RH X.K p.C m1 h1 H1 ∧ RP m1 h1.size H1 x v ∧ Post X.K p RP (fun cls d H' => W cls d σ H') h1 m1 H1 (match x with
      | .ref r => match h1.get r with
        | some (.dic _) => cnd (h1.free r) (.ok .non (h1.set r (.dic []))) .bad
        | _ => .bad
      | _ => .bad) Q)
      rh re hp fun v H1 x h1 m1 l1 rh1 re1 ra hp1 => ⟨x, h1, m1, rh1, ra, hp1⟩)) fun u s1 ⟨v, H1, I1, rv, x, h1, m1, rh1, ra, hp1⟩ => ?_)
  cases x <;> first | exact hp1.elim | skip
  rename_i r
  simp only at hp1
  cases eo : h1.get r with
  | none => rw [eo] at hp1; exact hp1.elim
  | some o =>
    rw [eo] at hp1
    cases o <;> first | exact hp1.elim | skip
    obtain ⟨c, hp1⟩ := cnd_post hp1
    obtain ⟨rfl, hr⟩ := ra.ref_inv
    obtain rfl : u = Value.ref (m1.a r) := rv
    obtain ⟨t1, t2⟩ := dic_call I1 rh1 eo
    refine ⟨t1, t2, ?_⟩
    show wpAny _ _ (callWith pos (.builtin "dict.clear") [.ref (m1.a r)] [] []) _ X.xe s1
    refine Calls.callWith_builtin rfl (PySem.evalArgs_none ?_)
    exact kd_clear I1 rh1 eo (Mem.free_iff.mp c) fun s' H' I' l rh' => ⟨.non, H', I', rfl, hp1 m1 H' _ l rh' .non⟩
/-! ### l.extend -/
theorem ext_ok {X : Cx} : MtR X "list.extend" (fun x xs H Q => ∃ (n i : Nat) (l ys : List PV) (h : Mem) (m : Mp), x = .ref (m.a n) ∧ xs = [.ref (m.a i)] ∧ RH X.K p.C m h H ∧ h.get n = some (.lst l) ∧ h.get i = some (.lst ys) ∧ fits (l ++ ys) = true ∧ h.free n = true ∧
    Post X.K p RP (fun _ _ _ => False) h m H (.ok .non (h.set n (.lst (l ++ ys)))) Q) := by
  rintro pins s σ H x xs v us Q I rx rxs ⟨n, i, l, ys, h, m, rfl, rfl, rh, hn, hi, hf, hfr, hp⟩
  obtain ⟨u, rfl, ru⟩ := vals1 rxs
  obtain rfl : v = Value.ref (m.a n) := rx
  obtain rfl : u = Value.ref (m.a i) := ru
  obtain ⟨_, vs, ev, rs⟩ := rh.obj n _ hn
  obtain ⟨_, ws, ew, rt⟩ := rh.obj i _ hi
  have hfl := fits_le hf
  rw [List.length_append] at hfl
  have hvl := rs.length
  have hwl := rt.length
  obtain ⟨l', rh'⟩ := rh.putL hn (Mem.free_iff.mp hfr) (rs.append rt)
  obtain ⟨z, its, n1, r, hl, e⟩ := I.lstM ev
  obtain ⟨z2, its2, n2, r2, hl2, e2⟩ := I.lstM ew
  have hsz : its.toArray.size + its2.toArray.size ≤ sizeLine := by rw [List.size_toArray, List.size_toArray]; omega
  have hlong : ¬ (!its.toArray.isEmpty && Builtin.List.listTooLong (its.toArray.size + its2.toArray.size)) = true := by
    rw [notLongL hsz, Bool.and_false]
    exact Bool.false_ne_true
  refine call_meets F.slot_list_extend ⟨_, e, rfl⟩ F.entry_list_extend (F.args_list_extend_2 _ _) (AutoSeq1.list_extend_list_list_0 _ its.toArray n1 (m.a i) its2.toArray n2 hlong (by rw [List.size_toArray]; omega) (by omega)) ⟨e, e2, ?_⟩
  refine ⟨.non, _, I.lset (its' := its ++ its2) ev e (by simp) (r.append r2) ?_, rfl, hp _ _ _ l' rh' .non⟩
  rw [List.length_append]
  omega
theorem listOf_inv {x : PV} {h : Mem} {ys : List PV} (e : listOf h x = some ys) : ∃ i, x = .ref i ∧ h.get i = some (.lst ys) := by
  cases x <;> first | (cases e; done) | skip
  rename_i r
  unfold listOf at e
  simp only at e
  cases eo : h.get r with
  | none => rw [eo] at e; cases e
  | some o =>
    rw [eo] at e
    cases o <;> first | (cases e; done) | skip
    cases e
    exact ⟨r, rfl, eo⟩
theorem se_ext (hb : plainBase a = true) (hs : notStar b = true) (hp : (apos.endLine == pos.line) = true) (ha : SE G p sc a fa) (hbb : SE G p sc b fb) : SE G p sc (.Call (.Attribute a ("extend" : Str) apos) [b] [] pos) (eExt fa fb) := by
  intro k W X cx
  refine PE.imp (pe_bm PySem.F.plainAttrs_list PySem.F.slot_list_extend PySem.F.type_list_extend (ext_ok (p := p)) (ha k W X cx) (pa_cons (hbb k W X cx) pa_nil (star_no hs)) (base_ok hb) (few_app hs) hp (star_no hs) rfl) ?_
  rintro σ H Q ⟨s, h, m, rh, re, hq⟩
  refine te_bind rh re hq fun v H1 x h1 m1 l1 rh1 re1 ra hp1 => ?_
  cases x <;> first | exact hp1.elim | skip
  rename_i n
  cases e : h1.get n with
  | none => simp only [e] at hp1; exact hp1.elim
  | some o =>
    cases o <;> simp only [e] at hp1 <;> first | exact hp1.elim | skip
    rename_i xs
    obtain ⟨ev, hn⟩ := ra.ref_inv
    subst ev
    obtain ⟨_, vs, hv, rs⟩ := rh1.obj n _ e
    refine ⟨.inl ⟨rfl, vs, SqL.of hv⟩, ?_⟩
    refine te_bind rh1 re1 hp1 fun u H2 y h2 m2 l2 rh2 re2 ry hp2 => ?_
    cases e3 : listOf h2 y with
    | none => simp only [e3] at hp2; exact hp2.elim
    | some ys =>
      simp only [e3] at hp2
      obtain ⟨i, rfl, ei⟩ := listOf_inv e3
      cases e2 : h2.get n with
      | none => simp only [e2] at hp2; exact hp2.elim
      | some o =>
        cases o <;> simp only [e2] at hp2 <;> first | exact hp2.elim | skip
        rename_i zs
        obtain ⟨c1, hp2⟩ := cnd_post hp2
        obtain ⟨c2, hp2⟩ := cnd_post hp2
        refine ⟨n, i, zs, ys, h2, m2, ?_, ?_, rh2, e2, ei, c1, c2, hp2⟩
        · rw [(l2.keep n hn).1]
        · rw [ry.ref_inv.1]
/-! ### starred items -/
theorem sa_star {es : List Expr} {l : XA} {q : Pos} (ha : SE G p sc a fa) (hr : SA G p sc es l) : SA G p sc (.Starred a q :: es) (aStar fa l) := fun k W X cx =>
  PA.imp (StX.pa_star (ha k W X cx) (hr k W X cx)) fun σ H Q ⟨s, h, m, rh, re, hp⟩ => by
    refine te_bind rh re hp fun v H1 x h1 m1 l1 rh1 re1 ra hp1 => ?_
    cases e : itemsOf h1 x with
    | none => simp only [e] at hp1; exact hp1.elim
    | some xs =>
      simp only [e] at hp1
      obtain ⟨r, vs, rfl, hl, rs⟩ := itemsOf_ok rh1 ra e
      refine ⟨r, vs, rfl, ?_, ?_⟩
      · rcases hl with hl | hl
        · exact .inr hl
        · exact .inl (SqT.of hl)
      · exact ta_bind rh1 re1 hp1 fun ws H2 ys h2 m2 l2 rh2 re2 rw2 hp2 => hp2 m2 H2 _ rh2.refl rh2 ((rs.mono l2).append rw2)
end
end Ev
end

section
set_option Elab.async false
set_option linter.all false
set_option maxRecDepth 100000
/-! Ev: dict comprehensions whose keys are tuples. -/
namespace Ev
open PySem PySem.Spec PyProof.Rows L2

abbrev oD0 : Obj := { cls := .type "dict", data := .dict #[] }
theorem dx_empty {P : Program} {w : World} {H : Hp} (h : Heap) (hb : sysModules < h.objs.size) : ObjOk P w H (h.push oD0) h.objs.size (DxO h.objs.size oD0 []) :=
  dxo_ok (Heap.get?_push_size _ rfl) (beq_eq_false_iff_ne.mpr (Ne.symm (Nat.ne_of_lt hb))) ⟨Nat.zero_le _, #[], 0, [], ⟨rfl, rfl, rfl⟩, rfl, rfl, .nil, List.nodup_nil⟩
theorem dx_set {X : Cx} {pins : List (Addr × Obj)} {σ : L2.St} {H : Hp} {s : Shared} {E : Value → Shared → Prop} {D : Addr} {o : Obj} {ws : Wx} {m : Mp} {z : Nat} {kvs : List (PV × PV)} {k x : PV} {K : NestedKey} {b : Addr} {v : V} {r : Value} {Q : Unit → Shared → Prop} (hu : X.A.units + 9 < cLine) (I : L2.Inv X pins σ H s)
    (hD : H D = some (DxO D o ws)) (rk : RKv m z H kvs ws) (hz : kvs.length < sizeLine) (ek : keyN k = some K) (rb : RP m z H k (.ref b)) (rx : RP m z H x v) (rv : RelV v r)
    (h : ∀ s' o' ws', L2.Inv X pins σ (upd H D (DxO D o' ws')) s' → RKv m z H (dput k x kvs) ws' → Q () s') : wpAny (model X.prog X.w) X.A (dictSet D (.ref b) r) Q E s := by
  obtain ⟨h1, hd, h3, es, ep, xs, d1, d2, d3, pw, dd⟩ := dx_ok I.hok hD rk
  have hh := fun x hx => (rkv_is (P := X.prog) (w := X.w) I.hok rk pw x hx).2
  have hl : kvs.length = xs.length := by rw [← rk.length]; exact Paired.length pw
  refine wpAny_dictSet_heap (hsz := by omega) (show X.A.units + 8 < cLine by omega) (key_is I.hok ek rb) dd fun h' dd' hs => ?_
  rw [stored_eq dd.nodup] at dd'
  obtain ⟨r', pw'⟩ := put_rel ek rb rx rv rk pw
  have hz' : (putW K b v ws).length ≤ sizeLine := by
    have := putW_len K b v ws
    have := rk.length
    omega
  obtain ⟨o', ho', ok'⟩ := dx_back hd hz' pw' (hash_putX (w := X.w) (hash_key ek) hh) dd'
  exact h _ o' _ (d_write I (by rw [hD]; exact True.intro) hs ⟨o', ho'⟩ (ok' _)) r'
section
variable {X : Cx}
def tDcX (wi : TI) (g : TG) (tt : TT) (tk tv : TE) (vs : List Nat) : TE := fun σ H Q => wi σ H fun J H1 => ∀ D, H1 D = none → ∃ W : Nat → Nat → Hp → Prop, (∃ m, W 0 m (upd H1 D (DxO D oD0 []))) ∧ ∀ i m H, W i m H →
  (J.stop i H ∧ Q (.ref D) H) ∨ (J.go i H ∧ ∃ Nx : Hp → Prop, (∀ H', Nx H' → ∃ m', m' < m ∧ W (i + 1) m' H') ∧ ∀ x H', J.yld i H x H' → g x (wipe σ vs) H' fun σ2 H2 => wipe σ2 vs = wipe σ vs ∧ tt σ2 H2 fun b H3 =>
    if b = true then tk σ2 H3 fun y H4 => tv σ2 H4 fun z H5 => ∃ (m : Mp) (n : Nat) (o : Obj) (ws : Wx) (kvs : List (PV × PV)) (k x : PV) (K : NestedKey) (b : Addr), y = .ref b ∧ H5 D = some (DxO D o ws) ∧ RKv m n H5 kvs ws ∧ kvs.length < sizeLine ∧ keyN k = some K ∧ RP m n H5 k (.ref b) ∧ RP m n H5 x z ∧ ∀ o' ws', RKv m n H5 (dput k x kvs) ws' → Nx (upd H5 D (DxO D o' ws')) else Nx H3)
theorem dc_coreX {pins : List (Addr × Obj)} {s : Shared} {σ : L2.St} {H : Hp} {Q : VK} {kx vx tg iter : Expr} {ifs : List Expr} {scope : Scope} {own : List (Str × Nat)} {pos pos' : Pos} {wi : TI} {g : TG} {tt : TT} {tk tv : TE} {use : Option (Value → Sem Unit)} {Qf : Value → Shared → Prop}
    (hu : X.A.units + 9 < cLine) (hc : X.calm = true) (hN : X.N.Nodup) (I : Inv X pins σ H s) (hi : PI X tg iter wi) (ok : BlkOk X.N X.env.scope scope own)
    (hg : ∀ (s : Shared) (H : Hp) (C : Addr) (cl : List (Str × Addr)) (fp : List Addr), PG (X.blk s H scope (compEnvC scope cl C X.env) fp) tg g) (ht : ∀ (s : Shared) (H : Hp) (C : Addr) (cl : List (Str × Addr)) (fp : List Addr), PTs (X.blk s H scope (compEnvC scope cl C X.env) fp) ifs tt)
    (hk : ∀ (s : Shared) (H : Hp) (C : Addr) (cl : List (Str × Addr)) (fp : List Addr), PE (X.blk s H scope (compEnvC scope cl C X.env) fp) kx tk)
    (he : ∀ (s : Shared) (H : Hp) (C : Addr) (cl : List (Str × Addr)) (fp : List Addr), PE (X.blk s H scope (compEnvC scope cl C X.env) fp) vx tv) (hs : ∀ x, foldedSetIterable iter X.env x = pure x)
    (h : tDcX wi g tt tk tv (own.map (·.2)) σ H Q)
    (hRR : ∀ D C s' m H', Inv X pins σ H' s' → Q (.ref D) H' → s'.heap.Ns C m → FpOk X pins H' C → compPost (model X.prog X.w) X.A X.xe use Qf (.ref D) C (.ok .next) s') :
    wpAny (model X.prog X.w) X.A (comprehension (.DictComp kx vx [⟨tg, iter, ifs, 0⟩] scope pos) scope X.env pos' newDict false (eval iter X.env) use) Qf X.xe s := by
  have hfree : ∀ y ∈ scope.names, y.2 = .free → ∃ c, X.env.cells.lookup y.1 = some c := fun y hy e => by
    rcases ok.free y hy e with k | k
    · exact I.ok.has _ (.inl k)
    · exact I.ok.has _ (.inr k)
  refine wpAny_comprehension_free (use := use) rfl hs (closure_ok hfree) ok.kind (fun y hy e => by rw [ok.uniq y hy, e])
    (thn (hi.run pins s σ H _ I h) fun xv s1 hx => thn hx fun itv s2 h2 => ?_)
  obtain ⟨it, fp, tn, J, H2, e, I2, T, st2, f2, q⟩ := h2
  subst e
  refine wpAny_newObj_type (newEnv_comp ?_)
  generalize hD : s2.heap.objs.size = D
  have hDn : H2 D = none := I2.hok.fresh (Nat.le_of_eq hD)
  obtain ⟨W, ⟨m0, w0⟩, turn⟩ := q D hDn
  -- the new list
  generalize hs3 : ({ s2 with heap := s2.heap.push { cls := .type "dict", data := .dict #[] } } : Shared) = s3
  have I3 : Inv X pins σ (upd H2 D (DxO D oD0 [])) s3 := by
    rw [← hs3]
    refine I2.laid (t' := s2.toks) (fun b o e => Heap.get?_push_of_some _ e) (Nat.le_of_eq hD) ?_
    rw [← hD]
    exact dx_empty s2.heap I2.big
  have h3 : s3.heap = s2.heap.push { cls := .type "dict", data := .dict #[] } := by rw [← hs3]
  have sz : ∀ b ∈ fp, b < s2.heap.objs.size := fun b hb => by
    obtain ⟨o, e, _⟩ := T.obj _ _ st2 b hb
    exact Heap.lt_size e
  have f3 : ∀ b ∈ fp, FpOk X pins (upd H2 D (DxO D oD0 [])) b ∧ b < s3.heap.objs.size := fun b hb => by
    have hlt := sz b hb
    refine ⟨⟨?_, (f2 b hb).2⟩, by rw [h3, Heap.size_push]; exact Nat.lt_succ_of_lt hlt⟩
    rw [upd_ne (by rw [← hD]; exact Nat.ne_of_lt hlt)]
    exact (f2 b hb).1
  have st3 : tn 0 s3.heap := T.keep _ _ _ st2 fun b _ o e => by rw [h3]; exact Heap.get?_push_of_some _ e
  have I4 := block_start I3 ok hN f3
  have pg := hg s3 (upd H2 D (DxO D oD0 [])) s3.heap.objs.size (cellsFrom (s3.heap.objs.size + 1) scope.names (cloFrom X.env.cells scope.names [])) fp
  have pt := ht s3 (upd H2 D (DxO D oD0 [])) s3.heap.objs.size (cellsFrom (s3.heap.objs.size + 1) scope.names (cloFrom X.env.cells scope.names [])) fp
  have pk := hk s3 (upd H2 D (DxO D oD0 [])) s3.heap.objs.size (cellsFrom (s3.heap.objs.size + 1) scope.names (cloFrom X.env.cells scope.names [])) fp
  have pe := he s3 (upd H2 D (DxO D oD0 [])) s3.heap.objs.size (cellsFrom (s3.heap.objs.size + 1) scope.names (cloFrom X.env.cells scope.names [])) fp
  show codeAny _ _ (.compStart (.DictComp kx vx [⟨tg, iter, ifs, 0⟩] scope pos) 0 (.ref it) (.ref D) (compEnvC scope (cellsFrom (s3.heap.objs.size + 1) scope.names (cloFrom X.env.cells scope.names [])) s3.heap.objs.size X.env)) (compPost (model X.prog X.w) X.A X.xe use Qf (.ref D) s3.heap.objs.size) { s3 with heap := pushCells (s3.heap.push { cls := .type "dict", data := .dict #[] }) scope.names }
  have nfp : ∀ b ∈ fp, (upd H2 D (DxO D oD0 [])) b = none := fun b hb => (f3 b hb).1.1
  generalize hce : compEnvC scope (cellsFrom (s3.heap.objs.size + 1) scope.names (cloFrom X.env.cells scope.names [])) s3.heap.objs.size X.env = ce at I4 pg pt pk pe ⊢
  have cL : ce.locals = s3.heap.objs.size := by subst hce; rfl
  generalize hH3 : upd H2 D (DxO D oD0 []) = H3 at I3 I4 pg pt pk pe w0 nfp f3
  generalize hs4 : ({ s3 with heap := pushCells (s3.heap.push { cls := .type "dict", data := .dict #[] }) scope.names } : Shared) = s4 at I4 ⊢
  have st4 : tn 0 s4.heap := T.keep _ _ _ st3 fun b _ o e => by rw [← hs4]; exact pushCells_keeps _ _ _ _ (Heap.get?_push_of_some _ e)
  have stat : ∀ {σ' : L2.St} {H' : Hp} {s' : Shared}, Inv (X.blk s3 H3 scope ce fp) [] σ' H' s' → (∀ b ∈ fp, H' b = none) → ∀ b ∈ fp, FpOk (X.blk s3 H3 scope ce fp) [] H' b := fun {σ' H' s'} I' hn b hb =>
    ⟨hn b hb, (I'.ok.exf b hb).1, I'.ok.exfs b hb, .inl hb, fun x c e => (I'.ok.exf b hb).2 x c e, fun p hp => absurd (show p ∈ ([] : List (Addr × Obj)) ++ [] from hp) (by simp)⟩
  have loop : codeAny (model X.prog X.w) X.A (.compLoop (.DictComp kx vx [⟨tg, iter, ifs, 0⟩] scope pos) 0 (.ref it) (.ref D) ce) (compPost (model X.prog X.w) X.A X.xe use Qf (.ref D) s3.heap.objs.size) s4 := by
    refine compLoop_anyD (fun n s' => ∃ i H', Inv (X.blk s3 H3 scope ce fp) [] (wipe σ (own.map (·.2))) H' s' ∧ tn i s'.heap ∧ (∀ b ∈ fp, H' b = none) ∧ W i n H') ?_ m0 ⟨0, H3, I4, st4, nfp, w0⟩
    rintro n s5 ⟨i, H5, I5, st5, n5, w5⟩
    rcases turn i n H5 w5 with ⟨stop, qq⟩ | ⟨go, Nx, hNx, step⟩
    · have td := T.done (X.blk s3 H3 scope ce fp) rfl rfl rfl hc i [] s5 _ H5 (fun _ _ => False) I5 (stat I5 n5) st5 stop
      refine thnF td fun r s6 ⟨hr, I6⟩ => ?_
      subst hr
      -- back in the def's context
      have I7 : Inv X pins σ H5 s6 := I3.call' (ch := fp) I6.os I6.base I6.hok I6.bare fun b hb => ⟨(f3 b hb).1.2.2.2.1, (f3 b hb).1.2.1, (f3 b hb).1.2.2.2.2.1, (f3 b hb).1.2.2.2.2.2⟩
      have nC : H5 s3.heap.objs.size = none := by
        have z : H5 ce.locals = none := I6.free
        rw [cL] at z
        exact z
      obtain ⟨m, hn, _⟩ := I6.loc
      have hn : s6.heap.Ns ce.locals m := hn
      rw [cL] at hn
      exact hRR D s3.heap.objs.size s6 m H5 I7 qq hn (I3.fpOk (Nat.le_refl _) nC)
    · have ti := T.item (X.blk s3 H3 scope ce fp) rfl rfl rfl hc i [] s5 _ H5 (fun _ _ => False) I5 (stat I5 n5) st5 go
      refine thnF ti fun r s6 ⟨u, hr, h6⟩ => ?_
      subst hr
      refine thnF h6 fun _ s7 ⟨x, H7, I7, r7, y7, st7, n7⟩ => ?_
      have I7' := I7.pinned (stat I7 n7) (T.obj _ _ st7)
      refine thnF (pg.run _ s7 _ H7 x u _ I7' r7 (step x H7 y7)) fun _ s8 ⟨σ8, H8, I8, hw8, q8⟩ => ?_
      refine thnF (pt.run _ s8 σ8 H8 _ I8 q8) fun b s9 ⟨H9, I9, q9⟩ => ?_
      -- the turn's end
      have fin : ∀ {s' : Shared} {H' : Hp}, Inv (X.blk s3 H3 scope ce fp) ([] ++ pinsAt fp s7.heap) σ8 H' s' → Nx H' → ∃ m, m < n ∧ ∃ i H', Inv (X.blk s3 H3 scope ce fp) [] (wipe σ (own.map (·.2))) H' s' ∧ tn i s'.heap ∧ (∀ b ∈ fp, H' b = none) ∧ W i m H' := fun {s' H'} I' nx => by
        obtain ⟨m', hm, w'⟩ := hNx H' nx
        have pin' : ∀ b ∈ fp, ∀ o, s7.heap.get? b = some o → s'.heap.get? b = some o ∧ H' b = none := fun b hb o e =>
          let z := I'.pin (b, o) (List.mem_append_right _ (List.mem_append_right _ (mem_pinsAt hb e)))
          ⟨z.1, z.2.1⟩
        have hl : (wipe σ (own.map (·.2))).length = σ8.length := by rw [← hw8, wipe_length]
        refine ⟨m', hm, i + 1, H', (I'.unpinned (pins := [])).weak hl (fun j v e => ?_), T.keep _ _ _ st7 fun b hb o e => (pin' b hb o e).1, fun b hb => ?_, w'⟩
        · rw [← hw8] at e
          exact (wipe_some e).1
        · obtain ⟨o, e, _⟩ := T.obj _ _ st7 b hb
          exact (pin' b hb o e).2
      cases b with
      | false =>
        simp only [Bool.false_eq_true, if_false] at q9 ⊢
        exact fin I9 q9
      | true =>
        simp only [if_true] at q9 ⊢
        refine thnF (pk.run _ s9 σ8 H9 _ I9 q9) fun z s10 ⟨yk, H10, I10, r10, q10⟩ => ?_
        refine thnF (pe.run _ s10 σ8 H10 _ I10 q10) fun z2 s11 ⟨yv, H11, I11, r11, mm, nn, oo, ws, kvs, kk, xx, KK, bb, ek, hD11, rk11, hz11, eK, rb11, rx11, nx⟩ => ?_
        subst ek
        obtain rfl : z = Value.ref bb := r10
        exact dx_set (X := X.blk s3 H3 scope ce fp) hu I11 hD11 rk11 hz11 eK rb11 rx11 r11 fun s12 o12 ws12 I12 r12 => fin I12 (nx o12 ws12 r12)
  exact codeAny_compStart_dict loop (T.self X.A 0 _ _ _ st4 loop)
/-- as a value -/
theorem pe_dcX {kx vx tg iter : Expr} {ifs : List Expr} {scope : Scope} {own : List (Str × Nat)} {pos : Pos} {wi : TI} {g : TG} {tt : TT} {tk tv : TE} (hu : X.A.units + 9 < cLine) (hc : X.calm = true) (hN : X.N.Nodup) (hi : PI X tg iter wi) (ok : BlkOk X.N X.env.scope scope own)
    (hg : ∀ (s : Shared) (H : Hp) (C : Addr) (cl : List (Str × Addr)) (fp : List Addr), PG (X.blk s H scope (compEnvC scope cl C X.env) fp) tg g) (ht : ∀ (s : Shared) (H : Hp) (C : Addr) (cl : List (Str × Addr)) (fp : List Addr), PTs (X.blk s H scope (compEnvC scope cl C X.env) fp) ifs tt)
    (hk : ∀ (s : Shared) (H : Hp) (C : Addr) (cl : List (Str × Addr)) (fp : List Addr), PE (X.blk s H scope (compEnvC scope cl C X.env) fp) kx tk)
    (he : ∀ (s : Shared) (H : Hp) (C : Addr) (cl : List (Str × Addr)) (fp : List Addr), PE (X.blk s H scope (compEnvC scope cl C X.env) fp) vx tv) (hs : ∀ x, foldedSetIterable iter X.env x = pure x := by intro _; rfl) :
    PE X (.DictComp kx vx [⟨tg, iter, ifs, 0⟩] scope pos) (tDcX wi g tt tk tv (own.map (·.2))) := by
  refine ⟨fun pins s σ H Q I h => ?_⟩
  rw [arm_eval_DictComp]
  refine dc_coreX hu hc hN I hi ok hg ht hk he hs h fun D C s' m H' I' q hn f => ⟨m, hn, fun h'' sb => ?_⟩
  obtain ⟨f0, f1, f2, f3, f4, f5⟩ := f
  exact ⟨.ref D, H', I'.turned (t' := s'.toks) (fun b o hb e => (sb.2 b hb).trans e) f0 f1 f3 f4 f5, rfl, q⟩
end
end Ev
end

section
set_option Elab.async false
set_option linter.all false
set_option maxRecDepth 100000
/-! Ev: dict comprehensions; walks over dicts. -/
namespace Ev
open PySem PySem.Spec PyProof.Rows L2

section
variable {K : PySem.W.Frag} {p : Pl} {E : XK} {h h' : Mem} {m m' : Mp} {H H' : Hp} {a : Addr}
/-- the memory takes a dict that no one knew -/
theorem Le.adoptD {o : Obj} {ws : Wx} {kvs : List (PV × PV)} (l : Le h m H h' m' H') (rh : RH K p.C m' h' H') (hn : H a = none) (e : H' a = some (DxO a o ws)) (na : ∀ n, n < h'.size → a ≠ m'.a n ∧ a ≠ m'.d n) (rs : RKv m' h'.size H' kvs ws) :
    Le h m H (h'.push (.dic kvs)) (m'.ext h'.size a a) H' ∧ RH K p.C (m'.ext h'.size a a) (h'.push (.dic kvs)) H' := by
  have kp : ∀ n, n < h'.size → (m'.ext h'.size a a).a n = m'.a n ∧ (m'.ext h'.size a a).d n = m'.d n := fun n hn => ⟨Mp.ext_a_ne (by omega), Mp.ext_d_ne (by omega)⟩
  -- a step that leaves the heap as it is
  have st : Lw h'.size m' H' (h'.push (.dic kvs)).size (m'.ext h'.size a a) H' := ⟨by rw [Mem.size_push]; omega, kp, fun _ _ e => e⟩
  refine ⟨⟨Nat.le_trans l.le (by rw [Mem.size_push]; omega), l.lk, l.ld, fun n hn => (Mem.get_push_old _ (rh.lok n (by rw [l.lk]; exact hn))).trans (l.lkd n hn), l.lkh, fun n hn => ?_, l.frame, l.tbls, l.tups, fun n h1 h2 => ?_, l.old⟩, fun n hn => ?_, fun n o e' => ?_, fun i j hi hj ne => ?_, fun n hn => Nat.lt_succ_of_lt (rh.lok n hn), fun n hn => Nat.lt_succ_of_lt (rh.lod n hn), rh.tab.adopt e nfx_ext⟩
  · have q := kp n (Nat.lt_of_lt_of_le hn l.le)
    rw [q.1, q.2]
    exact l.keep n hn
  · rw [Mem.size_push] at h2
    by_cases q : n = h'.size
    · subst q
      rw [Mp.ext_a, Mp.ext_d]
      exact ⟨hn, hn⟩
    · have q' := kp n (by omega)
      rw [q'.1, q'.2]
      exact l.new n h1 (by omega)
  · rw [Mem.size_push] at hn
    by_cases q : n = h'.size
    · subst q; exact ⟨_, Mem.get_push_new _ _⟩
    · obtain ⟨o, eo⟩ := rh.all n (by omega)
      exact ⟨o, Mem.get_push eo⟩
  · by_cases q : n = h'.size
    · subst q
      rw [Mem.get_push_new] at e'
      cases e'
      exact ⟨by rw [Mp.ext_a, Mp.ext_d], o, ws, by rw [Mp.ext_a]; exact e, rs.weak st⟩
    · have hl : n < h'.size := by
        have := Mem.get_lt e'
        rw [Mem.size_push] at this; omega
      rw [Mem.get_push_old _ hl] at e'
      exact (rh.obj n o e').weak st hl rfl rfl
  · rw [Mem.size_push] at hi hj
    by_cases qi : i = h'.size
    · subst qi
      have q := kp j (by omega)
      rw [Mp.ext_a, Mp.ext_d, q.1, q.2]
      have := na j (by omega)
      exact ⟨this.1, this.2, this.1, this.2⟩
    · by_cases qj : j = h'.size
      · subst qj
        have q := kp i (by omega)
        rw [Mp.ext_a, Mp.ext_d, q.1, q.2]
        have := na i (by omega)
        exact ⟨this.1.symm, this.1.symm, this.2.symm, this.2.symm⟩
      · have q := kp i (by omega)
        have q' := kp j (by omega)
        rw [q.1, q.2, q'.1, q'.2]
        exact rh.inj i j (by omega) (by omega) ne
end
theorem pairsOf_cons {x : PV} {xs : List PV} {ps : List (PV × PV)} (e : pairsOf (x :: xs) = some ps) : ∃ k y r, x = .tup [k, y] ∧ isTKey k = true ∧ pairsOf xs = some r ∧ ps = (k, y) :: r := by
  unfold pairsOf at e
  split at e
  · rename_i h; cases h
  · rename_i k y r h
    cases h
    cases ek : isTKey k with
    | false => rw [ek] at e; cases e
    | true =>
      rw [ek] at e
      cases er : pairsOf xs with
      | none => rw [er] at e; cases e
      | some q => rw [er] at e; cases e; exact ⟨k, y, q, rfl, ek, rfl, rfl⟩
  · cases e
theorem pairsOf_mk {k y : PV} {xs : List PV} {r : List (PV × PV)} (ek : isTKey k = true) (er : pairsOf xs = some r) : pairsOf (.tup [k, y] :: xs) = some ((k, y) :: r) := by
  unfold pairsOf
  rw [ek, er]
theorem pairsOf_append : ∀ {a b : List PV} {ps : List (PV × PV)}, pairsOf (a ++ b) = some ps → ∃ p1 p2, pairsOf a = some p1 ∧ pairsOf b = some p2 ∧ ps = p1 ++ p2
  | [], b, ps, e => ⟨[], ps, rfl, e, rfl⟩
  | x :: a, b, ps, e => by
    obtain ⟨k, y, r, rfl, ek, er, rfl⟩ := pairsOf_cons e
    obtain ⟨p1, p2, q1, q2, rfl⟩ := pairsOf_append er
    exact ⟨(k, y) :: p1, p2, pairsOf_mk ek q1, q2, rfl⟩
theorem pairsOf_one {k y : PV} {ps : List (PV × PV)} (e : pairsOf [.tup [k, y]] = some ps) : isTKey k = true := by
  obtain ⟨k', y', r, h, ek, _, _⟩ := pairsOf_cons e
  cases h
  exact ek
theorem pairsOf_join : ∀ {a b : List PV} {p1 p2 : List (PV × PV)}, pairsOf a = some p1 → pairsOf b = some p2 → pairsOf (a ++ b) = some (p1 ++ p2)
  | [], b, p1, p2, e1, e2 => by cases e1; exact e2
  | x :: a, b, p1, p2, e1, e2 => by
    obtain ⟨k, y, r, rfl, ek, er, rfl⟩ := pairsOf_cons e1
    exact pairsOf_mk ek (pairsOf_join er e2)
theorem dputs_append : ∀ (a b acc : List (PV × PV)), dputs acc (a ++ b) = dputs (dputs acc a) b
  | [], b, acc => rfl
  | (k, v) :: a, b, acc => dputs_append a b (dput k v acc)
theorem pairsOf_snoc {ys : List PV} {ps : List (PV × PV)} {k y : PV} (e : pairsOf ys = some ps) (ek : isTKey k = true) : (pairsOf (ys ++ [.tup [k, y]])).map (dputs []) = some (dput k y (dputs [] ps)) := by
  rw [pairsOf_join e (pairsOf_mk ek rfl), Option.map_some, dputs_append]
  rfl
theorem dputs_len : ∀ (a acc : List (PV × PV)), (dputs acc a).length ≤ acc.length + a.length
  | [], acc => Nat.le_refl _
  | (k, v) :: a, acc => by
    have h1 := dputs_len a (dput k v acc)
    have h2 := dput_len k v acc
    simp only [List.length_cons]
    unfold dputs
    omega
theorem pairsOf_len : ∀ {ys : List PV} {ps : List (PV × PV)}, pairsOf ys = some ps → ps.length = ys.length
  | [], _, e => by cases e; rfl
  | x :: ys, ps, e => by
    obtain ⟨k, y, r, rfl, ek, er, rfl⟩ := pairsOf_cons e
    simp only [List.length_cons]
    rw [pairsOf_len er]
/-- the new dict's own place -/
structure OwnD (h2 : Mem) (m2 : Mp) (H2 : Hp) (D : Addr) (ys : List PV) : Prop where
  ni : ∀ n, n < h2.size → D ≠ m2.a n ∧ D ≠ m2.d n
  at_ : ∃ o kvs ws, (pairsOf ys).map (dputs []) = some kvs ∧ H2 D = some (DxO D o ws) ∧ RKv m2 h2.size H2 kvs ws
theorem OwnD.mono {h2 h3 : Mem} {m2 m3 : Mp} {H2 H3 : Hp} {D : Addr} {ys : List PV} (o : OwnD h2 m2 H2 D ys) (l : Le h2 m2 H2 h3 m3 H3) : OwnD h3 m3 H3 D ys := by
  obtain ⟨oo, kvs, ws, ek, e, r⟩ := o.at_
  refine ⟨fun n hn => ?_, oo, kvs, ws, ek, l.frame D _ e o.ni nt_ext, r.mono l⟩
  by_cases q : n < h2.size
  · rw [(l.keep n q).1, (l.keep n q).2]; exact o.ni n q
  · have nn := l.new n (by omega) hn
    refine ⟨fun w => ?_, fun w => ?_⟩
    · rw [← w, e] at nn; exact nomatch nn.1
    · rw [← w, e] at nn; exact nomatch nn.2
section
variable {G : GT} {p : Pl} {sc : Sc} {pos : Pos}
/-- the thing at D, which no one knows, is changed -/
theorem RH.asideU {K : PySem.W.Frag} {h2 : Mem} {m2 : Mp} {H2 : Hp} {D : Addr} {u : HO} (rh : RH K p.C m2 h2 H2) (ni : ∀ n, n < h2.size → D ≠ m2.a n ∧ D ≠ m2.d n) (nt : ∀ us, H2 D ≠ some (.tup us)) (nf : ∀ v, H2 D = some v → ¬ Fx v) :
    Lw h2.size m2 H2 h2.size m2 (upd H2 D u) ∧ RH K p.C m2 h2 (upd H2 D u) := by
  have st : Lw h2.size m2 H2 h2.size m2 (upd H2 D u) := ⟨Nat.le_refl _, fun _ _ => ⟨rfl, rfl⟩, fun a us ea => by rw [upd_ne (fun q => by rw [q] at ea; exact nt us ea)]; exact ea⟩
  refine ⟨st, rh.all, fun n o eo => ?_, rh.inj, rh.lok, rh.lod, rh.tab.gen (fun b o eb f _ => by
    rw [upd_ne fun w => by
      rw [w] at eb
      exact nf _ eb f]
    exact eb) fun _ _ _ _ q => q⟩
  have := ni n (Mem.get_lt eo)
  exact (rh.obj n o eo).weak st (Mem.get_lt eo) (upd_ne this.1.symm) (upd_ne this.2.symm)
theorem Le.asideU {h1 h2 : Mem} {m1 m2 : Mp} {H1 H2 : Hp} {D : Addr} {u : HO} (l : Le h1 m1 H1 h2 m2 H2) (hn : H1 D = none) (ni : ∀ n, n < h2.size → D ≠ m2.a n ∧ D ≠ m2.d n) : Le h1 m1 H1 h2 m2 (upd H2 D u) :=
  ⟨l.le, l.lk, l.ld, l.lkd, fun n hn hl => by
    have q := ni n (Nat.lt_of_lt_of_le hl l.le)
    rw [(l.keep n hl).1] at q
    rw [upd_ne q.1.symm]
    exact l.lkh n hn hl, l.keep, fun a o ea hk nt => by rw [upd_ne (ne_of_none ea hn)]; exact l.frame a o ea hk nt, fun a ps ea hk => by rw [upd_ne (ne_of_none ea hn)]; exact l.tbls a ps ea hk, fun a vs ea => by rw [upd_ne (ne_of_none ea hn)]; exact l.tups a vs ea, l.new, fun n hn' => by
    have q := ni n (Nat.lt_of_lt_of_le hn' l.le)
    rw [← (l.keep n hn').1, ← (l.keep n hn').2, upd_ne q.1.symm, upd_ne q.2.symm, (l.keep n hn').1, (l.keep n hn').2]
    exact l.old n hn'⟩
/-- ONE CLAUSE -/
theorem dc_read {K : PySem.W.Frag} {W : WX} {c : Calls} {fi : XI} {g : Tg} {t : XT} {fk fe : XE} {own : List Nat} {σ : L2.St} {H : Hp} {Q : VK} (hin : tgIn own g) (h : teOf K p W c (dC1 own fi g t fk fe) σ H Q) :
    tDcX (tiOf K p W c fi) (ctR K g) (ttOf K p (fun _ _ _ _ => False) c t) (teOf K p (fun _ _ _ _ => False) c fk) (teOf K p (fun _ _ _ _ => False) c fe) own σ H Q := by
  obtain ⟨s, h, m, rh, re, hp⟩ := h
  refine ⟨s, h, m, rh, re, ?_⟩
  unfold dC1 at hp
  cases ei : fi c s h with
  | bad => rw [ei] at hp; exact hp
  | err x h1 => rw [ei] at hp; exact hp
  | ok q h1 =>
    rw [ei] at hp
    simp only [Res.bind_ok] at hp
    obtain ⟨xs, ls⟩ := q
    intro m1 H1 J l1 rh1 wk D hD
    simp only at hp wk
    rw [wipeV_eq] at hp
    have hD0 : H D = none := l1.fresh hD
    -- the whole ends well
    generalize hf : turns (tgG g) t c (wipeE s own) (fun s' h' => (fk c s' h').bind fun k h' => (fe c s' h').bind fun y h'' => .ok [.tup [k, y]] h'') = tr at hp
    cases er : noErr (tr xs (h1.lock ls)) with
    | bad => rw [er] at hp; exact hp.elim
    | err x h2 => rw [er] at hp; unfold noErr at er; split at er <;> cases er
    | ok ys hE =>
      rw [er] at hp
      simp only [Res.bind_ok] at hp
      have er := noErr_ok er
      cases cf : fits ys with
      | false => rw [cf] at hp; exact hp.elim
      | true =>
        rw [cf] at hp
        have fy := fits_le cf
        obtain ⟨l2, rh2⟩ := rh1.tmp (u := DxO D oD0 []) hD
        cases ep : pairsOf ys with
        | none => rw [ep] at hp; exact hp.elim
        | some ps =>
        rw [ep] at hp
        simp only [cnd_true] at hp
        -- the invariant
        refine ⟨fun i mz H2 => ∃ h2 m2 ys1 ys2, i ≤ xs.length ∧ mz = xs.length - i ∧ Le (h1.lock ls) m1 H1 h2 m2 H2 ∧ RH K p.C m2 h2 H2 ∧ OwnD h2 m2 H2 D ys1 ∧ ys1 ++ ys2 = ys ∧ tr (xs.drop i) h2 = .ok ys2 hE,
          ⟨xs.length, h1.lock ls, m1, [], ys, Nat.zero_le _, rfl, ?_, rh2.lock wk.loc, ⟨fun n hn => ⟨fun z => (rh1.fresh hD hn).1 z.symm, fun z => (rh1.fresh hD hn).2 z.symm⟩, oD0, [], [], rfl, upd_same, .nil⟩, rfl, by simpa using er⟩, ?_⟩
        · exact (rh1.lrefl ls).trans ⟨l2.le, rfl, rfl, fun _ _ => rfl, fun n hn hl => (upd_ne (rh1.fresh (by assumption) hl).1), l2.keep, l2.frame, l2.tbls, l2.tups, l2.new, l2.old⟩
        rintro i mz H2 ⟨h2, m2, ys1, ys2, hi, rfl, l3, rh3, ow, ey, et⟩
        by_cases hlt : i < xs.length
        · have ex : xs[i]? = some xs[i] := List.getElem?_eq_getElem hlt
          obtain ⟨hgo, hy⟩ := wk.item i _ h2 m2 H2 ex l3.lz rh3
          rw [List.drop_eq_getElem_cons hlt] at et
          refine .inr ⟨hgo, fun H5 => ∃ h5 m5 ys1 ys2, Le (h1.lock ls) m1 H1 h5 m5 H5 ∧ RH K p.C m5 h5 H5 ∧ OwnD h5 m5 H5 D ys1 ∧ ys1 ++ ys2 = ys ∧ tr (xs.drop (i + 1)) h5 = .ok ys2 hE,
            fun H5 ⟨h5, m5, y1, y2, l5, rh5, ow5, ey5, et5⟩ => ⟨xs.length - (i + 1), by omega, h5, m5, y1, y2, hlt, rfl, l5, rh5, ow5, ey5, et5⟩, fun v H3 hyv => ?_⟩
          obtain ⟨l4, rh4, rx⟩ := hy v H3 hyv
          have l04 := l3.trans l4
          have ow4 := ow.mono l4
          have rew : RE m2 h2.size H3 (wipeE s own) (wipe σ own) := (((re.mono l1).wipe own).mono l3).mono l4
          -- the turn
          subst hf
          obtain ⟨zs, h4, ez, et⟩ := bind_ok et
          obtain ⟨ws, h5, ew, et⟩ := bind_ok et
          cases et
          obtain ⟨s1, hg1, eg, ez⟩ := bind_ok ez
          obtain ⟨b, ht1, eb, ez⟩ := bind_ok ez
          obtain ⟨eh, _⟩ := ct_read (K := K) (Q := fun _ _ => True) rh4 rew rx eg fun _ _ => True.intro
          subst eh
          refine (ct_read (K := K) rh4 rew rx eg fun vs re5 => ⟨by rw [wipe_ct hin, wipe_wipe], s1, _, m2, rh4, re5, post_ok eb fun m6 H6 b' l6 rh6 rb => ?_⟩).2
          have eb' : b = b' := rb
          subst eb'
          have l06 := l04.trans l6
          have ow6 := ow4.mono l6
          cases b with
          | true =>
            rw [if_pos rfl]
            obtain ⟨kv, h7, ey7, ez⟩ := bind_ok ez
            obtain ⟨y, h9, ey9, ez⟩ := bind_ok ez
            cases ez
            refine ⟨s1, ht1, m6, rh6, re5.mono l6, post_ok ey7 fun m8 H8 v8 l8 rh8 ry8 => ⟨s1, h7, m8, rh8, (re5.mono l6).mono l8, post_ok ey9 fun m9 H9 v9 l9 rh9 ry9 => ?_⟩⟩
            obtain ⟨o9, kvs9, ws9, ek9, ea9, ra9⟩ := ((ow6.mono l8).mono l9).at_
            have ekv : ∃ ps1, pairsOf ys1 = some ps1 ∧ isTKey kv = true := by
              rw [← ey, ← List.append_assoc] at ep
              obtain ⟨p1, p2, q1, q2, _⟩ := pairsOf_append ep
              obtain ⟨p3, p4, q3, q4, _⟩ := pairsOf_append q1
              exact ⟨p3, q3, pairsOf_one q4⟩
            obtain ⟨ps1, eps, etk⟩ := ekv
            obtain ⟨KK, eK⟩ := isTKey_ok etk
            obtain ⟨bb, rfl⟩ := key_ref ry8 eK
            have hk9 : kvs9 = dputs [] ps1 := by rw [eps] at ek9; exact (Option.some.inj ek9).symm
            have hlen : kvs9.length < sizeLine := by
              rw [hk9]
              have := dputs_len ps1 []
              have h2 := pairsOf_len eps
              have h3 : (ys1 ++ ([PV.tup [kv, y]] ++ ws)).length = ys.length := by rw [ey]
              simp only [List.length_append, List.length_cons, List.length_nil] at this h3
              omega
            refine ⟨m9, _, o9, ws9, kvs9, kv, y, KK, bb, rfl, ea9, ra9, hlen, eK, ry8.mono l9, ry9, fun o' ws' r' => ?_⟩
            have ow9 := ((ow6.mono l8).mono l9)
            obtain ⟨st, rha⟩ := rh9.asideU (u := DxO D o' ws') ow9.ni (fun us => by rw [ea9]; unfold DxO; exact fun z => nomatch z) (fun v ev => by rw [ea9] at ev; cases ev; exact nfx_ext)
            refine ⟨_, m9, ys1 ++ [.tup [kv, y]], ws, Le.asideU ((l06.trans l8).trans l9) hD ow9.ni, rha, ⟨ow9.ni, o', dput kv y kvs9, ws', ?_, upd_same, r'.weak st⟩, ?_, ew⟩
            · rw [hk9]
              exact pairsOf_snoc eps etk
            · rw [List.append_assoc]; exact ey
          | false =>
            rw [if_neg Bool.false_ne_true]
            cases ez
            exact ⟨_, m6, ys1, ws, l06, rh6, ow6, ey, ew⟩
        · have e : i = xs.length := by omega
          subst e
          rw [List.drop_length] at et
          subst hf
          cases et
          rw [List.append_nil] at ey
          subst ey
          refine .inl ⟨wk.stop _ m2 H2 l3.lz rh3, ?_⟩
          obtain ⟨oo, kvs, wss, ek, ea, ra⟩ := ow.at_
          have hk : kvs = dputs [] ps := by rw [ep] at ek; exact (Option.some.inj ek).symm
          subst hk
          obtain ⟨la, rha⟩ := Le.adoptD (l1.trans l3.unlock) (rh3.unlock ls) hD0 ea ow.ni ra
          refine hp _ H2 _ la rha ?_
          have r : RP (m2.ext (hE.unlock ls).size D D) ((hE.unlock ls).push (.dic (dputs [] ps))).size H2 (.ref (hE.unlock ls).size) (.ref ((m2.ext (hE.unlock ls).size D D).a (hE.unlock ls).size)) := .ref (by rw [Mem.size_push]; omega)
          rwa [Mp.ext_a] at r

variable {a b d tg iter elt : Expr} {fa fb fd : XE}
theorem se_dc1 {kx vx : Expr} {ifs : List Expr} {scope : Scope} {own : List (Str × Nat)} {fi : XI} {g : Tg} {t : XT} {fk fe : XE} (hb : blkC sc.N sc.scope scope own = true) (hs : notSet iter = true) (hin : tgIn (own.map (·.2)) g) (hi : SI G p sc tg iter fi) (hg : TgOk (blkSc sc scope) tg g) (ht : STs G p (blkSc sc scope) ifs t)
    (hk : SE G p (blkSc sc scope) kx fk) (he : SE G p (blkSc sc scope) vx fe) : SE G p sc (.DictComp kx vx [⟨tg, iter, ifs, 0⟩] scope pos) (dC1 (own.map (·.2)) fi g t fk fe) := fun k W X cx =>
  PE.imp (pe_dcX (by have := hu_cx cx; omega) cx.calm cx.nd (hi k W X cx) (by rw [cx.n, cx.sco]; exact blkOk_by hb) (fun s H C cl fp => ct_ok (ecx_blk cx s H scope C cl fp) hg) (fun s H C cl fp => ht k _ _ (ecx_blk cx s H scope C cl fp))
    (fun s H C cl fp => hk k _ _ (ecx_blk cx s H scope C cl fp)) (fun s H C cl fp => he k _ _ (ecx_blk cx s H scope C cl fp)) (folded hs _)) fun σ H Q h => dc_read hin h
/-! ### walks -/
theorem rkv_get {m : Mp} {z : Nat} {H : Hp} : ∀ {kvs : List (PV × PV)} {ws : Wx} {i : Nat} {q : PV × PV}, RKv m z H kvs ws → kvs[i]? = some q → ∃ w, ws[i]? = some w ∧ RP m z H q.1 (.ref w.2.1) ∧ RP m z H q.2 w.2.2
  | _, _, _, _, .nil, e => by simp at e
  | _, _, 0, q, .cons _ r1 r2 _, e => by simp at e; subst e; exact ⟨_, rfl, r1, r2⟩
  | _, _, i + 1, q, .cons _ _ _ t, e => by
    obtain ⟨w, h1, h2⟩ := rkv_get (i := i) t (by simpa using e)
    exact ⟨w, by simpa using h1, h2⟩
section
variable {K : PySem.W.Frag} {h1 : Mem} {m1 : Mp} {H1 : Hp} {r : Nat} {kvs : List (PV × PV)} {o : Obj} {ws : Wx}
theorem dic_same (hr : r < h1.size) (eH : H1 (m1.a r) = some (DxO (m1.a r) o ws)) {h2 : Mem} {m2 : Mp} {H2 : Hp} (lz : Lz (h1.lock [r]) m1 H1 h2 m2 H2) : H2 (m1.a r) = some (DxO (m1.a r) o ws) :=
  (lz.lkh r (by simp) hr).trans eH
theorem Walks.keysD (hr : r < h1.size) (eH : H1 (m1.a r) = some (DxO (m1.a r) o ws)) (rk : RKv m1 h1.size H1 kvs ws) : Walks K p h1 m1 H1 [r] (ItkX (m1.a r) o) (kvs.map fun q => q.1) where
  loc := fun n hn => by
    cases hn with
    | head => exact hr
    | tail _ z => cases z
  item := fun i x h2 m2 H2 ex lz rh => by
    have e2 := dic_same hr eH lz
    rw [List.getElem?_map] at ex
    obtain ⟨q, hq, rfl⟩ := Option.map_eq_some_iff.mp ex
    obtain ⟨w, hw, r1, r2⟩ := rkv_get rk hq
    refine ⟨⟨ws, e2, (List.getElem?_eq_some_iff.mp hw).1⟩, fun v H3 y => ?_⟩
    obtain ⟨e, hu⟩ := y
    subst e
    obtain ⟨w', hw', rfl⟩ := hu ws e2
    rw [hw] at hw'
    cases hw'
    exact ⟨rh.refl, rh, r1.weak lz.lw⟩
  stop := fun h2 m2 H2 lz rh => ⟨ws, dic_same hr eH lz, by rw [List.length_map, rk.length]; exact Nat.le_refl _⟩
theorem Walks.valsD (hr : r < h1.size) (eH : H1 (m1.a r) = some (DxO (m1.a r) o ws)) (rk : RKv m1 h1.size H1 kvs ws) : Walks K p h1 m1 H1 [r] (ItvX (m1.a r) o) (kvs.map fun q => q.2) where
  loc := fun n hn => by
    cases hn with
    | head => exact hr
    | tail _ z => cases z
  item := fun i x h2 m2 H2 ex lz rh => by
    have e2 := dic_same hr eH lz
    rw [List.getElem?_map] at ex
    obtain ⟨q, hq, rfl⟩ := Option.map_eq_some_iff.mp ex
    obtain ⟨w, hw, r1, r2⟩ := rkv_get rk hq
    refine ⟨⟨ws, e2, (List.getElem?_eq_some_iff.mp hw).1⟩, fun v H3 y => ?_⟩
    obtain ⟨e, hu⟩ := y
    subst e
    obtain ⟨w', hw', rfl⟩ := hu ws e2
    rw [hw] at hw'
    cases hw'
    exact ⟨rh.refl, rh, r2.weak lz.lw⟩
  stop := fun h2 m2 H2 lz rh => ⟨ws, dic_same hr eH lz, by rw [List.length_map, rk.length]; exact Nat.le_refl _⟩
theorem Walks.itemsD (hr : r < h1.size) (eH : H1 (m1.a r) = some (DxO (m1.a r) o ws)) (rk : RKv m1 h1.size H1 kvs ws) : Walks K p h1 m1 H1 [r] (ItiX (m1.a r) o) (kvs.map fun q => .tup [q.1, q.2]) where
  loc := fun n hn => by
    cases hn with
    | head => exact hr
    | tail _ z => cases z
  item := fun i x h2 m2 H2 ex lz rh => by
    have e2 := dic_same hr eH lz
    rw [List.getElem?_map] at ex
    obtain ⟨q, hq, rfl⟩ := Option.map_eq_some_iff.mp ex
    obtain ⟨w, hw, r1, r2⟩ := rkv_get rk hq
    refine ⟨⟨ws, e2, (List.getElem?_eq_some_iff.mp hw).1⟩, fun v H3 y => ?_⟩
    obtain ⟨T, k, v', rfl, hT, rfl, hu⟩ := y
    obtain ⟨w', hw', rfl, rfl⟩ := hu ws e2
    rw [hw] at hw'
    cases hw'
    exact pair_made rh hT (r1.weak lz.lw) (r2.weak lz.lw)
  stop := fun h2 m2 H2 lz rh => ⟨ws, dic_same hr eH lz, by rw [List.length_map, rk.length]; exact Nat.le_refl _⟩
end
theorem si_any (ha : SE G p sc a fa) : SI G p sc tg a (iAny fa) := fun k W X cx => PI.imp (pi_anyX (ha k W X cx)) fun σ H R ⟨s, h, m, rh, re, hp⟩ => by
  refine ⟨s, h, m, rh, re, ?_⟩
  unfold iAny at hp
  cases e : fa (callD G.tab k) s h with
  | bad => rw [e] at hp; exact hp
  | err x h1 => rw [e] at hp; exact hp
  | ok x h1 =>
    rw [e] at hp
    simp only [Res.bind_ok] at hp
    intro m1 H1 v l rh1 rx
    cases x <;> first | exact hp.elim | skip
    · rename_i xs
      obtain ⟨q, vs, rfl, eq, rs⟩ := rx.tup_inv
      have w : WSq X.K p h1 m1 H1 [] false q xs := ⟨fun n hn => (by cases hn), fun h2 m2 H2 lz rh2 => ⟨vs, SqT.of (lz.tups _ _ eq), rs.weak lz.lw⟩⟩
      exact .inl ⟨false, q, vs, rfl, SqT.of eq, hp m1 H1 _ l rh1 (Walks.sq w)⟩
    · rename_i r
      obtain ⟨rfl, hr⟩ := rx.ref_inv
      have key : ∀ xs, h1.get r = some (.lst xs) ∨ h1.get r = some (.scr xs) → WSq X.K p h1 m1 H1 [r] true (m1.a r) xs := fun xs e => by
        refine ⟨fun n hn => ?_, fun h2 m2 H2 lz rh2 => ?_⟩
        · cases hn with
          | head => exact hr
          | tail _ z => cases z
        · have e2 : h2.get r = h1.get r := lz.lkd r (by simp)
          have ka := (lz.keep r hr).1
          rw [← ka]
          rcases e with e | e
          · obtain ⟨_, vs, ev, rs⟩ := rh2.obj r _ (e2.trans e)
            exact ⟨vs, SqL.of ev, rs⟩
          · obtain ⟨_, _, vs, ev, _, rs⟩ := rh2.obj r _ (e2.trans e)
            exact ⟨vs, ev, rs⟩
      cases eo : h1.get r with
      | none => simp only [eo] at hp; exact hp.elim
      | some o =>
        simp only [eo] at hp
        cases o <;> first | exact hp.elim | skip
        · obtain ⟨vs, hq⟩ := (key _ (.inl eo)).now rh1
          exact .inl ⟨true, _, vs, rfl, hq, hp m1 H1 _ l rh1 (Walks.sq (key _ (.inl eo)))⟩
        · rename_i kvs
          obtain ⟨_, o, ws, eH, rk⟩ := rh1.obj r _ eo
          exact .inr ⟨_, o, ws, rfl, eH, hp m1 H1 _ l rh1 (Walks.keysD hr eH rk)⟩
        · obtain ⟨vs, hq⟩ := (key _ (.inr eo)).now rh1
          exact .inl ⟨true, _, vs, rfl, hq, hp m1 H1 _ l rh1 (Walks.sq (key _ (.inr eo)))⟩
theorem si_items {elts : List Expr} {kk : Nat} {tpos apos : Pos} (hb : plainBase a = true) (hl : (apos.endLine == pos.line) = true) (ha : SE G p sc a fa) : SI G p sc (.Tuple elts kk tpos) (.Call (.Attribute a ("items" : Str) apos) [] [] pos) (iItems fa) := fun k W X cx =>
  PI.imp (pi_itemsX (ha k W X cx) (base_ok hb) hl) fun σ H R ⟨s, h, m, rh, re, hp⟩ => by
  refine ⟨s, h, m, rh, re, ?_⟩
  unfold iItems at hp
  cases e : fa (callD G.tab k) s h with
  | bad => rw [e] at hp; exact hp
  | err x h1 => rw [e] at hp; exact hp
  | ok x h1 =>
    rw [e] at hp
    simp only [Res.bind_ok] at hp
    intro m1 H1 v l rh1 rx
    cases x <;> first | exact hp.elim | skip
    rename_i r
    obtain ⟨rfl, hr⟩ := rx.ref_inv
    unfold itemsD at hp
    simp only at hp
    cases eo : h1.get r with
    | none => rw [eo] at hp; exact hp.elim
    | some o =>
      rw [eo] at hp
      cases o <;> first | exact hp.elim | skip
      rename_i kvs
      obtain ⟨_, o, ws, eH, rk⟩ := rh1.obj r _ eo
      exact ⟨_, o, ws, rfl, eH, hp m1 H1 _ l rh1 (Walks.itemsD hr eH rk)⟩
theorem si_vals {apos : Pos} (hb : plainBase a = true) (hl : (apos.endLine == pos.line) = true) (ha : SE G p sc a fa) : SI G p sc tg (.Call (.Attribute a ("values" : Str) apos) [] [] pos) (iVals fa) := fun k W X cx =>
  PI.imp (pi_valsX (ha k W X cx) (base_ok hb) hl) fun σ H R ⟨s, h, m, rh, re, hp⟩ => by
  refine ⟨s, h, m, rh, re, ?_⟩
  unfold iVals at hp
  cases e : fa (callD G.tab k) s h with
  | bad => rw [e] at hp; exact hp
  | err x h1 => rw [e] at hp; exact hp
  | ok x h1 =>
    rw [e] at hp
    simp only [Res.bind_ok] at hp
    intro m1 H1 v l rh1 rx
    cases x <;> first | exact hp.elim | skip
    rename_i r
    obtain ⟨rfl, hr⟩ := rx.ref_inv
    unfold itemsD at hp
    simp only at hp
    cases eo : h1.get r with
    | none => rw [eo] at hp; exact hp.elim
    | some o =>
      rw [eo] at hp
      cases o <;> first | exact hp.elim | skip
      rename_i kvs
      obtain ⟨_, o, ws, eH, rk⟩ := rh1.obj r _ eo
      exact ⟨_, o, ws, rfl, eH, hp m1 H1 _ l rh1 (Walks.valsD hr eH rk)⟩
end
end Ev
end

section
set_option Elab.async false
set_option linter.all false
set_option maxRecDepth 100000
/-! Ev: a dict comprehension stored within. -/
namespace Ev
open PySem PySem.Spec PyProof.Rows L2

theorem ps_setDcX {X : Cx} {i : Nat} {y : Str} {py : Pos} {kx vx tg iter : Expr} {ifs : List Expr} {scope : Scope} {own : List (Str × Nat)} {pos spos : Pos} {wi : TI} {g : TG} {tt : TT} {tk tv : TE} (hu : X.A.units + 9 < cLine) (hc : X.calm = true) (hN : X.N.Nodup) (hy : X.N[i]? = some y) (hyl : X.env.scope.names.lookup y = some .local)
    (hsw : swapsWith (.DictComp kx vx [⟨tg, iter, ifs, 0⟩] scope pos) (some (.Name y py)) spos.line X.env = pure true) (hi : PI X tg iter wi) (ok : BlkOk X.N X.env.scope scope own)
    (hg : ∀ (s : Shared) (H : Hp) (C : Addr) (cl : List (Str × Addr)) (fp : List Addr), PG (X.blk s H scope (compEnvC scope cl C X.env) fp) tg g) (ht : ∀ (s : Shared) (H : Hp) (C : Addr) (cl : List (Str × Addr)) (fp : List Addr), PTs (X.blk s H scope (compEnvC scope cl C X.env) fp) ifs tt)
    (hk : ∀ (s : Shared) (H : Hp) (C : Addr) (cl : List (Str × Addr)) (fp : List Addr), PE (X.blk s H scope (compEnvC scope cl C X.env) fp) kx tk)
    (he : ∀ (s : Shared) (H : Hp) (C : Addr) (cl : List (Str × Addr)) (fp : List Addr), PE (X.blk s H scope (compEnvC scope cl C X.env) fp) vx tv) (hs : ∀ x, foldedSetIterable iter X.env x = pure x) :
    PS X (.Assign [.Name y py] (.DictComp kx vx [⟨tg, iter, ifs, 0⟩] scope pos) spos) (tAsg (tDcX wi g tt tk tv (own.map (·.2))) (L2.gName i)) := by
  refine ⟨fun pins s σ H D I h => ?_⟩
  rw [exec_Assign_Name_used _ _ _ _ hsw]
  refine wpAny_bind (wpAny_standAt (wpAny_bind ?_))
  show wpAny _ X.A (do let _ ← comprehension (.DictComp kx vx [⟨tg, iter, ifs, 0⟩] scope pos) scope X.env (firstIterPos [⟨tg, iter, ifs, 0⟩] pos) newDict false (eval iter X.env) (some (assign (.Name y py) X.env))) _ _ s
  have h : tDcX wi g tt tk tv (own.map (·.2)) σ H (fun x H1 => L2.gName i x σ H1 D.nx) := h
  refine wpAny_bind (thn (dc_coreX (Qf := fun _ s' => SP X pins D .next s') hu hc hN I hi ok hg ht hk he hs h fun L C s' m H' I' q hn f => ?_) fun _ s' hq => wpAny_pure (wpAny_pure hq))
  show wpAny _ _ (assign (.Name y py) X.env (.ref L)) _ _ _
  refine wpAny_assign_Name (store_ok2 (v := V.ref L) I' hN hy (.inl hyl) rfl (fun s2 I2 ⟨a, sb, ha⟩ => ?_) (.inr hyl))
  obtain ⟨f0, f1, f2, f3, f4, f5⟩ := f
  have haC : C ≠ a := by
    rcases ha with z | z
    · rw [z]; exact f1
    · exact fun e => f4 y a z e.symm
  refine ⟨m, hn.sameBut sb haC, fun h3 sb3 => ?_⟩
  exact ⟨_, H', I2.turned (t' := s2.toks) (fun b o hb e => (sb3.2 b hb).trans e) f0 f1 f3 f4 f5, q⟩
theorem sw_trueD {kx vx : Expr} {gs : List Comprehension} {scope : Scope} {pos py : Pos} {y : Str} {l : Nat} {env : PySem.Env} (hk : env.scope.kind = .function) (hy : env.scope.names.lookup y = some .local) (hl : (py.line == pos.line) = true)
    (ha : (scope.names.any fun (n, k) => n == y && (k == .local || k == .cell)) = false) : swapsWith (.DictComp kx vx gs scope pos) (some (.Name y py)) l env = pure true := by
  have ky : env.kindOf y = some .local := hy
  have hb : env.blockKind = .function := by unfold Env.blockKind; rw [hk]; rfl
  unfold swapsWith
  simp only [hb, ky, ha, Expr.pos, hl]
  rfl
section
variable {G : GT} {p : Pl} {sc : Sc} {pos spos : Pos}
theorem te_asg {K : PySem.W.Frag} {W : WX} {c : Calls} {fe : XE} {i : Nat} {D : Ends} {σ : L2.St} {H : Hp} (h : tsOf K p W c (sAsg fe (gName i)) D σ H) : teOf K p W c fe σ H (fun x H1 => L2.gName i x σ H1 D.nx) := by
  obtain ⟨s, hm, m, rh, re, hp⟩ := h
  exact ts_te rh re hp fun v H1 y h1 m1 rh1 re1 ra hp1 => hp1 m1 H1 _ rh1.refl rh1 (re1.set i ra)
theorem ss_setDc1 {y : Str} {py : Pos} {i : Nat} {kx vx tg iter : Expr} {ifs : List Expr} {scope : Scope} {own : List (Str × Nat)} {fi : XI} {g : Tg} {t : XT} {fk fe : XE} (hk : sc.scope.kind = .function) (hy : sc.N[i]? = some y) (hyl : sc.scope.names.lookup y = some .local) (hl : (py.line == pos.line) = true) (ha : (scope.names.any fun (n, k) => n == y && (k == .local || k == .cell)) = false)
    (hb : blkC sc.N sc.scope scope own = true) (hs : notSet iter = true) (hin : tgIn (own.map (·.2)) g) (hi : SI G p sc tg iter fi) (hg : TgOk (blkSc sc scope) tg g) (ht : STs G p (blkSc sc scope) ifs t) (hkk : SE G p (blkSc sc scope) kx fk) (he : SE G p (blkSc sc scope) vx fe) :
    SS G p sc (.Assign [.Name y py] (.DictComp kx vx [⟨tg, iter, ifs, 0⟩] scope pos) spos) (sAsg (dC1 (own.map (·.2)) fi g t fk fe) (gName i)) := fun k W X cx =>
  PS.imp (ps_setDcX (i := i) (by have := hu_cx cx; omega) cx.calm cx.nd (by rw [cx.n]; exact hy) (by rw [cx.sco]; exact hyl) (sw_trueD (by rw [cx.sco]; exact hk) (by rw [cx.sco]; exact hyl) hl ha) (hi k W X cx) (by rw [cx.n, cx.sco]; exact blkOk_by hb) (fun s H C cl fp => ct_ok (ecx_blk cx s H scope C cl fp) hg) (fun s H C cl fp => ht k _ _ (ecx_blk cx s H scope C cl fp))
    (fun s H C cl fp => hkk k _ _ (ecx_blk cx s H scope C cl fp)) (fun s H C cl fp => he k _ _ (ecx_blk cx s H scope C cl fp)) (folded hs _))
    fun D σ H h => dc_read hin (te_asg h)
end
end Ev
end

section
set_option Elab.async false
set_option linter.all false
set_option maxRecDepth 100000
set_option maxHeartbeats 2000000
/-! Ev: lambdas: made (their code objects' tables), called. -/
namespace Ev
open PySem PySem.Spec PyProof.Rows L2

/-- an object as it is -/
def ObO (f : Addr) (o : Obj) : HO := .ext fun h => h.get? f = some o
theorem obO_ok {P : Program} {w : World} {H : Hp} {h : Heap} {f : Addr} {o : Obj} (e : h.get? f = some o) : ObjOk P w H h f (ObO f o) := ⟨e, ⟨o, e⟩, fun _ _ q k => k _ q⟩
/-- the table at P has grown; all else that was known is known -/
structure Grow (P : Addr) (H H' : Hp) : Prop where
  old : ∀ b o, b ≠ P → H b = some o → H' b = some o
  tab : ∃ ps ps', H P = some (.tbl ps) ∧ H' P = some (.tbl ps')
theorem Grow.refl {P : Addr} {H : Hp} {ps : Array Value} (e : H P = some (.tbl ps)) : Grow P H H := ⟨fun _ _ _ e => e, ps, ps, e, e⟩
theorem RH.grow {K : PySem.W.Frag} {C : CT} {m : Mp} {h : Mem} {H H' : Hp} {P : Addr} (r : RH K C m h H) (sp : ∀ n, n < h.size → P ≠ m.a n ∧ P ≠ m.d n) (g : Grow P H H') (t : TbOk C.tb m h.size H') : Le h m H h m H' ∧ RH K C m h H' := by
  obtain ⟨ps, ps', e1, e2⟩ := g.tab
  have hh : ∀ n, n < h.size → H' (m.a n) = H (m.a n) ∧ H' (m.d n) = H (m.d n) := fun n hn => by
    have l := r.live hn
    have s := sp n hn
    constructor
    · cases q : H (m.a n) with
      | none => exact absurd q l.1
      | some o => exact g.old _ _ s.1.symm q
    · cases q : H (m.d n) with
      | none => exact absurd q l.2.1
      | some o => exact g.old _ _ s.2.symm q
  have nP : ∀ a o, H a = some o → (∀ ps, o ≠ .tbl ps) → a ≠ P := fun a o e n z => by
    rw [z, e1] at e
    exact n ps (Option.some.inj e).symm
  have l : Le h m H h m H' := ⟨Nat.le_refl _, rfl, rfl, fun _ _ => rfl, fun n _ hn => (hh n hn).1, fun _ _ => ⟨rfl, rfl⟩, fun a o e _ nt => g.old a o (nP a o e nt) e, fun a qs e _ => by
      by_cases q : a = P
      · rw [q]; exact ⟨ps', e2⟩
      · exact ⟨qs, g.old a _ q e⟩,
    fun a vs e => g.old a _ (nP a _ e fun _ z => by cases z) e, fun n h1 h2 => absurd h2 (by omega), fun n hn => by
      rw [(hh n hn).1, (hh n hn).2]
      exact ⟨(r.live hn).1, (r.live hn).2.1⟩⟩
  exact ⟨l, r.all, fun n o e => (r.obj n o e).mono l (Mem.get_lt e) (hh n (Mem.get_lt e)).1 (hh n (Mem.get_lt e)).2, r.inj, r.lok, r.lod, t⟩

/-! ### tables -/
theorem among_add {pos p' : Pos} {c cv : Value} (l : List Value) (h : TriplesOk l) (hc : codeAmong p' (l ++ [rawInt pos.line, rawInt pos.col, c]) = some cv) : codeAmong p' l = some cv ∨ (cv = c ∧ p'.line = pos.line ∧ p'.col = pos.col) := by
  fun_induction TriplesOk l with
  | case1 =>
    simp only [List.nil_append, rawInt, codeAmong] at hc
    split at hc
    · rename_i q
      simp only [Bool.and_eq_true, beq_iff_eq] at q
      exact .inr ⟨(Option.some.inj hc).symm, by omega, by omega⟩
    · cases hc
  | case2 a t b u x rest ih =>
    simp only [List.cons_append, codeAmong] at hc ⊢
    split at hc
    · rename_i q
      rw [if_pos q]
      exact .inl hc
    · rename_i q
      rw [if_neg q]
      exact ih h hc
  | case3 l h1 h2 => exact h.elim
theorem isLam_pos {ls : List (Nat × Nat)} {p q : Pos} (h1 : p.line = q.line) (h2 : p.col = q.col) : isLam ls p = isLam ls q := by
  unfold isLam
  rw [h1, h2]
/-- a code object comes into a table -/
theorem TbOk.add {tb : List Tb} {m : Mp} {z : Nat} {H : Hp} {P c' : Addr} {q : Str} {ls : List (Nat × Nat)} {ps : Array Value} {pos : Pos} {oc : Obj} (t : TbOk tb m z H) (hm : (⟨P, q, ls⟩ : Tb) ∈ tb) (hu : ∀ a b, a ∈ tb → b ∈ tb → a.at_ = b.at_ → a = b)
    (lv : ∀ n, n < z → H (m.a n) ≠ none ∧ H (m.d n) ≠ none) (hP : H P = some (.tbl ps)) (ht : TriplesOk ps.toList) (nC : H c' = none) (hn : isLam ls pos = true → ∃ vs t, oc.data = .fields vs ∧ vs[1]? = some (.str q t)) :
    TbOk tb m z (upd (upd H P (.tbl (ps ++ #[rawInt pos.line, rawInt pos.col, .ref c']))) c' (.frz oc (.own 0))) ∧
      Grow P H (upd (upd H P (.tbl (ps ++ #[rawInt pos.line, rawInt pos.col, .ref c']))) c' (.frz oc (.own 0))) := by
  have nPc : P ≠ c' := ne_of_none hP nC
  have at_ : ∀ b, b ≠ P → b ≠ c' → upd (upd H P (.tbl (ps ++ #[rawInt pos.line, rawInt pos.col, .ref c']))) c' (.frz oc (.own 0)) b = H b := fun b h1 h2 => by rw [upd_ne h2, upd_ne h1]
  have nc : ∀ n, n < z → c' ≠ m.a n ∧ c' ≠ m.d n := fun n hn => ⟨fun w => (lv n hn).1 (by rw [← w]; exact nC), fun w => (lv n hn).2 (by rw [← w]; exact nC)⟩
  have frz_old : ∀ c o, H c = some (.frz o (.own 0)) → upd (upd H P (.tbl (ps ++ #[rawInt pos.line, rawInt pos.col, .ref c']))) c' (.frz oc (.own 0)) c = some (.frz o (.own 0)) := fun c o e => by
    rw [at_ c (fun w => by rw [w, hP] at e; cases e) (ne_of_none e nC)]
    exact e
  refine ⟨fun p hp => ?_, fun b o hb e => by rw [at_ b hb (ne_of_none e nC)]; exact e, _, _, hP, by rw [upd_ne nPc, upd_same]⟩
  obtain ⟨h1, qs, h2, h3, h4⟩ := t p hp
  refine ⟨h1, ?_⟩
  by_cases hb : p.at_ = P
  · have e := hu p _ hp hm hb
    subst e
    refine ⟨_, by rw [upd_ne nPc, upd_same], by
      have e : (ps ++ #[rawInt pos.line, rawInt pos.col, .ref c']).toList = ps.toList ++ [rawInt pos.line, rawInt pos.col, .ref c'] := by simp
      rw [e]
      exact PySem.TriplesOk_snoc _ _ _ _ ht, fun p' cv hl hc => ?_⟩
    have eL : (ps ++ #[rawInt pos.line, rawInt pos.col, .ref c']).toList = ps.toList ++ [rawInt pos.line, rawInt pos.col, .ref c'] := by simp
    rw [eL] at hc
    have e2 : qs = ps := by
      rw [hP] at h2
      cases h2
      rfl
    subst e2
    rcases among_add _ ht hc with z | ⟨z, z1, z2⟩
    · obtain ⟨c, o, vs, tk, e1, e2, e3, e4, e5⟩ := h4 p' cv hl z
      exact ⟨c, o, vs, tk, e1, frz_old _ _ e2, e3, e4, e5⟩
    · obtain ⟨vs, tk, e1, e2⟩ := hn (by rw [← isLam_pos z1 z2]; exact hl)
      exact ⟨c', oc, vs, tk, z, upd_same, e1, e2, nc⟩
  · refine ⟨qs, by rw [at_ _ hb (ne_of_none h2 nC)]; exact h2, h3, fun p' cv hl hc => ?_⟩
    obtain ⟨c, o, vs, tk, e1, e2, e3, e4, e5⟩ := h4 p' cv hl hc
    exact ⟨c, o, vs, tk, e1, frz_old _ _ e2, e3, e4, e5⟩

section
variable {X : Cx} {pins : List (Addr × Obj)} {σ : L2.St} {H : Hp} {s : Shared}
/-- the table's object is written, the code object at c is new and known from now on; all else is kept -/
theorem inv_tableF {P c : Addr} {oc : Obj} {ps more : Array Value} {h' : Heap} {t' : Nat} (I : Inv X pins σ H s) (hP : H P = some (.tbl ps)) (k : ∀ b o, b ≠ P → s.heap.get? b = some o → h'.get? b = some o)
    (hm : h'.get? P = some { cls := .none, data := .fields (ps ++ more) }) (hc : s.heap.objs.size ≤ c) (ho : h'.get? c = some oc) :
    Inv X pins σ (upd (upd H P (.tbl (ps ++ more))) c (.frz oc (.own 0))) { s with heap := h', toks := t' } := by
  have nC : H c = none := I.hok.fresh hc
  have nPc : P ≠ c := ne_of_none hP nC
  have at_ : ∀ b, b ≠ P → b ≠ c → upd (upd H P (.tbl (ps ++ more))) c (.frz oc (.own 0)) b = H b := fun b h1 h2 => by rw [upd_ne h2, upd_ne h1]
  have atP : upd (upd H P (.tbl (ps ++ more))) c (.frz oc (.own 0)) P = some (.tbl (ps ++ more)) := by rw [upd_ne nPc, upd_same]
  have nP : ∀ b u, H b = some u → (∀ q, u ≠ .tbl q) → b ≠ P := fun b u e q z => by
    rw [z, hP] at e
    exact q ps (Option.some.inj e).symm
  have nN : ∀ b, H b = none → b ≠ P := fun b e z => by
    rw [z, hP] at e
    cases e
  have lt' : ∀ b o, s.heap.get? b = some o → b ≠ c := fun b o e z => by
    rw [z] at e
    exact Nat.lt_irrefl _ (Nat.lt_of_lt_of_le (Heap.lt_size e) hc)
  have sm : ∀ b u, H b = some u → b ≠ c := fun b u e => ne_of_none e nC
  refine I.step (g' := s.gens) (d' := s.drawn) (ch := []) (fun b hb => absurd hb (by simp)) (fun b o _ _ _ e n => k b o (nN b n) e) (fun b o _ _ _ e n => ⟨o.slots, k b o (nN b n) e⟩)
    (fun b o _ e n => by rw [at_ b (nN b n) (lt' b o e)]; exact n) (fun b o _ e => ?_) (fun b xs e => by rw [at_ b (nP b _ e (fun q z => by cases z)) (sm b _ e)]; exact e) (fun b o u e => by rw [at_ b (nP b _ e (fun q z => by cases z)) (sm b _ e)]; exact e) (fun b qs e => ?_) (fun m hn => ?_) (fun b u e => ?_) I.bare
  · by_cases hb : b = P
    · rw [hb]
      exact ⟨_, hm⟩
    · exact ⟨o, k b o hb e⟩
  · by_cases hb : b = P
    · rw [hb, hP] at e
      cases e
      rw [hb, atP]
      exact ⟨more, rfl⟩
    · rw [at_ b hb (sm b _ e), e]
      exact ⟨#[], by simp⟩
  · obtain ⟨ob, es, ep, ho, r⟩ := hn
    exact ⟨ob, es, ep, k _ ob (nN _ I.free) ho, r⟩
  · by_cases hb : b = c
    · rw [hb, upd_same] at e
      cases e
      rw [hb]
      exact ⟨ho, oc, ho⟩
    · by_cases hb2 : b = P
      · rw [hb2, atP] at e
        cases e
        rw [hb2]
        exact hm
      · rw [at_ b hb2 hb] at e
        refine (I.hok b u e).stay (fun d v hd q => k d v ?_ q) (fun d q => by rw [at_ d (nP d _ q (fun q z => by cases z)) (sm d _ q)]; exact q) fun d xs q => by rw [at_ d (nP d _ q (fun q z => by cases z)) (sm d _ q)]; exact q
        rcases hd with z | z
        · rw [z]
          exact hb2
        · exact nP d _ z (fun q z => by cases z)
/-- the lambda is made: its code object is new, or found in the table -/
theorem lam_makeF {tb : List Tb} {m : Mp} {z : Nat} {ls : List (Nat × Nat)} {c P : Addr} {params : Arguments} {body : Expr} {scope : Scope} {pos : Pos} {E : Value → Shared → Prop} {Q : Value → Shared → Prop} (I : Inv X pins σ H s) (TB : LamX.TabB X.base X.mg c P) (hcode : X.env.code = .ref c)
    (hm : (⟨P, X.env.qual ++ "<lambda>", ls⟩ : Tb) ∈ tb) (hu : ∀ a b, a ∈ tb → b ∈ tb → a.at_ = b.at_ → a = b) (hT : TbOk tb m z H) (lv : ∀ n, n < z → H (m.a n) ≠ none ∧ H (m.d n) ≠ none) (hl : isLam ls pos = true) (hdef : defaultsOf params X.env = ([], [])) (hfree : ∀ y ∈ scope.names, y.2 = .free → ∃ c, X.env.cells.lookup y.1 = some c)
    (h : ∀ (f c' : Addr) (oc : Obj) (vs : Array Value) (t : Tok) (pm ctv : Value) (H1 : Hp) (s' : Shared), Grow P H H1 → TbOk tb m z H1 → H1 f = none → (∀ n, n < z → c' ≠ m.a n ∧ c' ≠ m.d n) → H1 c' = some (.frz oc (.own 0)) → oc.data = .fields vs → vs[1]? = some (.str (X.env.qual ++ "<lambda>") t) →
      Inv X pins σ (upd H1 f (ObO f (PySem.W.kla_obj "<lambda>" (X.env.qual ++ "<lambda>") params body scope (cloFrom X.env.cells scope.names []) pm c' ctv))) s' → Q (.ref f) s') :
    wpAny (model X.prog X.w) X.A (eval (.Lambda params body scope pos) X.env) Q E s := by
  obtain ⟨_, ps, hP, ht, ha⟩ := hT _ hm
  refine PySem.W.kla_eval hdef ?_
  have bP : s.heap.BuiltinsAt X.mg P := TB.bm.keeps I.bk
  have hP' : s.heap.get? P = some { cls := .none, data := .fields ps } := I.hok P _ hP
  cases hc : codeAmong pos ps.toList with
  | none =>
    refine PySem.W.kla_makeFunction (mg := X.mg) (c := c) (P := P) (ps := ps) (closure_ok hfree) I.ok.glob (I.mod.glob.keeps I.bk) hcode (TB.code.keeps I.bk) hP' ht hc TB.gP bP fun c' ctv h' tk hx hge hlt hrec htb => ?_
    obtain ⟨c2, oc, vs, t, e2, hoc, hd, hv⟩ := hrec
    cases e2
    have hsz : s.heap.objs.size ≤ h'.objs.size := Nat.le_trans hge (Nat.le_of_lt hlt)
    have nC : H c' = none := I.hok.fresh hge
    obtain ⟨hT1, hG⟩ := hT.add (oc := oc) (pos := pos) hm hu lv hP ht nC fun _ => ⟨vs, t, hd, hv⟩
    have I0 := inv_tableF (t' := tk) (more := #[rawInt pos.line, rawInt pos.col, .ref c']) (h' := h') I hP hx htb hge hoc
    have nF : (upd (upd H P (.tbl (ps ++ #[rawInt pos.line, rawInt pos.col, .ref c']))) c' (.frz oc (.own 0))) h'.objs.size = none := I0.hok.fresh (Nat.le_refl _)
    have I1 := I0.laid (t' := tk) (a := h'.objs.size) (o := ObO h'.objs.size (PySem.W.kla_obj "<lambda>" (X.env.qual ++ "<lambda>") params body scope (cloFrom X.env.cells scope.names []) ((X.mg "__name__").getD .none) c' ctv))
      (h' := h'.push (PySem.W.kla_obj "<lambda>" (X.env.qual ++ "<lambda>") params body scope (cloFrom X.env.cells scope.names []) ((X.mg "__name__").getD .none) c' ctv)) (fun b o e => Heap.get?_push_of_some _ e) (Nat.le_refl _) (obO_ok (Heap.get?_push_size _ rfl))
    exact h h'.objs.size c' oc vs t ((X.mg "__name__").getD .none) ctv _ _ hG hT1 nF (fun n hn => ⟨fun w => (lv n hn).1 (by rw [← w]; exact nC), fun w => (lv n hn).2 (by rw [← w]; exact nC)⟩) upd_same hd hv I1
  | some cv =>
    obtain ⟨c', oc, vs, t, e, hco, hd, hv, hsp⟩ := ha pos cv hl hc
    subst e
    refine PySem.W.kla_makeFunctionHit (mg := X.mg) (c := c) (P := P) (ps := ps) (closure_ok hfree) I.ok.glob (I.mod.glob.keeps I.bk) hcode (TB.code.keeps I.bk) hP' ht hc bP fun ctv h' tk hx hsz => ?_
    have I0 : Inv X pins σ H { s with heap := h', toks := tk } := I.kept hx
    have I1 := I0.laid (t' := tk) (a := h'.objs.size) (o := ObO h'.objs.size (PySem.W.kla_obj "<lambda>" (X.env.qual ++ "<lambda>") params body scope (cloFrom X.env.cells scope.names []) ((X.mg "__name__").getD .none) c' ctv))
      (h' := h'.push (PySem.W.kla_obj "<lambda>" (X.env.qual ++ "<lambda>") params body scope (cloFrom X.env.cells scope.names []) ((X.mg "__name__").getD .none) c' ctv)) (fun b o e => Heap.get?_push_of_some _ e) (Nat.le_refl _) (obO_ok (Heap.get?_push_size _ rfl))
    exact h h'.objs.size c' oc vs t ((X.mg "__name__").getD .none) ctv H _ (Grow.refl hP) hT (I.hok.fresh hsz) hsp hco hd hv I1
end

/-! ### the lambda's names: one parameter x -/
structure LamS1 (sc scope : Scope) (x : Str) : Prop where
  kind : scope.kind = .function
  co : scope.isCoroutine = false
  gen : scope.isGenerator = false
  par : scope.names.lookup x = some .local
  own : ∀ y ∈ scope.names, y.2 ≠ .cell ∧ (y.2 = .local → y.1 = x)
  free : ∀ y ∈ scope.names, y.2 = .free → sc.names.lookup y.1 = some .cell ∨ sc.names.lookup y.1 = some .free
def kindB (k : NameKind) (o : Option NameKind) : Bool := match o with
  | some j => decide (j = k)
  | none => false
theorem kindB_ok {k : NameKind} {o : Option NameKind} (h : kindB k o = true) : o = some k := by
  cases o with
  | none => cases h
  | some j => rw [show j = k from of_decide_eq_true h]
def lamS1B (sc scope : Scope) (x : Str) : Bool :=
  decide (scope.kind = .function) && (!scope.isCoroutine && (!scope.isGenerator && (kindB .local (scope.names.lookup x) && scope.names.all fun y => !decide (y.2 = .cell) && ((!decide (y.2 = .local) || decide (y.1 = x)) &&
    (!decide (y.2 = .free) || (kindB .cell (sc.names.lookup y.1) || kindB .free (sc.names.lookup y.1)))))))
theorem lamS1_by {sc scope : Scope} {x : Str} (h : lamS1B sc scope x = true) : LamS1 sc scope x := by
  unfold lamS1B at h
  simp only [Bool.and_eq_true, Bool.or_eq_true, Bool.not_eq_true', decide_eq_true_eq, decide_eq_false_iff_not, List.all_eq_true] at h
  obtain ⟨h1, h2, h3, h4, h5⟩ := h
  refine ⟨h1, h2, h3, kindB_ok h4, fun y hy => ⟨(h5 y hy).1, fun e => (h5 y hy).2.1.elim (fun z => absurd e z) id⟩, fun y hy e => ?_⟩
  rcases (h5 y hy).2.2 with z | z
  · exact absurd e z
  · exact z.elim (fun z => .inl (kindB_ok z)) fun z => .inr (kindB_ok z)
theorem LamS1.has {X : Cx} {scope : Scope} {x : Str} (L : LamS1 X.env.scope scope x) (ok : X.Ok) : ∀ y ∈ scope.names, y.2 = .free → ∃ c, X.env.cells.lookup y.1 = some c := fun y hy e => by
  rcases L.free y hy e with k | k
  · exact ok.has _ (.inl k)
  · exact ok.has _ (.inr k)
/-- the context of the lambda's body, entered at s -/
def lamC (X : Cx) (A : Around) (s : Shared) (H : Hp) (scope : Scope) (f c' : Addr) : Cx where
  prog := X.prog
  w := X.w
  K := X.K
  mg := X.mg
  base := X.base
  A := A.deeper (LamX.lamEnv X scope s.heap.objs.size f c')
  N := X.N
  s_0 := s
  H_0 := H
  env := LamX.lamEnv X scope s.heap.objs.size f c'
  outer := X.stack
  stack := LamX.lamEnv X scope s.heap.objs.size f c' :: X.stack
  ex := []
  fn := fun _ => false
  calm := true
  pn := []
  xe := fun _ _ => False
theorem nodup_ix {α : Type} : ∀ {l : List α} {i j : Nat} {h1 : i < l.length} {h2 : j < l.length}, l.Nodup → l[i] = l[j] → i = j
  | _ :: _, 0, 0, _, _, _, _ => rfl
  | a :: l, 0, j + 1, _, h2, nd, e => absurd (by rw [List.getElem_cons_zero, List.getElem_cons_succ] at e; rw [e]; exact List.getElem_mem _) (List.nodup_cons.mp nd).1
  | a :: l, i + 1, 0, h1, _, nd, e => absurd (by rw [List.getElem_cons_zero, List.getElem_cons_succ] at e; rw [← e]; exact List.getElem_mem _) (List.nodup_cons.mp nd).1
  | a :: l, i + 1, j + 1, h1, h2, nd, e => congrArg (· + 1) (nodup_ix (List.nodup_cons.mp nd).2 (by simpa using e))
section
variable {X : Cx} {pins : List (Addr × Obj)} {σ : L2.St} {H : Hp} {s : Shared}
theorem lam_start1 {A : Around} {scope : Scope} {f c' : Addr} {h₁ : Heap} {tk ip : Nat} {x : Str} {v : V} {u : Value} (I : Inv X pins σ H s) (nd : X.N.Nodup) (L : LamS1 X.env.scope scope x) (e0 : Env0 X.prog X.w X.K X.mg X.base A X.stack s H) (hd : A.handled = none)
    (hN : X.N[ip]? = some x) (r : RelV v u) (hns : h₁.Ns s.heap.objs.size fun y => ([(x, u)] : List (Str × Value)).reverse.lookup y) (kp : ∀ b o, s.heap.get? b = some o → h₁.get? b = some o) :
    Inv (lamC X A s H scope f c') [] (σ.set ip (some v)) H { s with heap := h₁, toks := tk } := by
  have hfree := L.has I.ok
  have cm : ∀ {y c}, (cloFrom X.env.cells scope.names []).lookup y = some c → X.env.cells.lookup y = some c := fun {y c} e => by
    rcases cloFrom_mem (PySem.mem_of_lookup e) with hm | ⟨h1, h2⟩
    · cases hm
    · obtain ⟨c1, hc⟩ := hfree _ h1 rfl
      have hc : X.env.cells.lookup y = some c1 := hc
      have e2 : c = c1 := by
        rw [h2, hc] <;> rfl
      rw [e2]
      exact hc
  have look : ∀ {y}, scope.names.lookup y = some .free → ∃ c, (cloFrom X.env.cells scope.names []).lookup y = some c := fun {y} hl => by
    have hy : (y, NameKind.free) ∈ scope.names := PySem.mem_of_lookup hl
    exact mem_lookup (cloFrom_has (cells := X.env.cells) (acc := []) hy)
  have cellK : ∀ {c : Addr} {v : Option Value}, s.heap.IsCell c v → h₁.IsCell c v := fun {c v} ⟨o, ho, hd⟩ => ⟨_, kp _ _ ho, hd⟩
  have noA : ∀ b : Addr, b ∉ (lamC X A s H scope f c').ex := fun b z => absurd (show b ∈ ([] : List Addr) from z) (by simp)
  refine ⟨⟨e0.mod, L.kind, rfl, rfl, Nat.le_refl _, fun y z c e1 e2 => I.ok.inj y z c (cm e1) (cm e2), fun y hy => ?_, fun y c z _ => ?_, fun _ => hd, Around.frames_deeper e0.frames, .inr ⟨rfl, rfl⟩, fun b z => absurd z (noA b), e0.bs, e0.bsz, fun b _ _ => noA b,
      fun b z => absurd z (noA b), e0.funs, e0.frf⟩,
    rfl, e0.bare, Un.kept kp, ⟨_, hns, fun i y w e1 e2 e3 => ?_⟩, fun y c e => ?_, e0.hok.fresh (Nat.le_refl _), fun y c e => ?_, fun q hq => absurd (show q ∈ ([] : List (Addr × Obj)) ++ [] from hq) (by simp), e0.hok.kept kp, by rw [List.length_set]; exact I.len⟩
  · have hy : scope.names.lookup y = some .cell ∨ scope.names.lookup y = some .free := hy
    rcases hy with hy | hy
    · exact absurd rfl (L.own _ (PySem.mem_of_lookup hy)).1
    · exact look hy
  · have z : false = true := z
    cases z
  · have e3 : Vis scope y := e3
    have e1 : X.N[i]? = some y := e1
    by_cases hi : i = ip
    · subst hi
      rw [hN] at e1
      cases e1
      have hlt : i < σ.length := by
        rw [I.len]
        exact (List.getElem?_eq_some_iff.mp hN).1
      rw [List.getElem?_set_self hlt] at e2
      cases e2
      exact ⟨u, r, .inl ⟨L.par, by simp⟩⟩
    · rw [List.getElem?_set_ne (Ne.symm hi)] at e2
      have ny : y ≠ x := fun z => by
        rw [z] at e1
        obtain ⟨l1, q1⟩ := List.getElem?_eq_some_iff.mp e1
        obtain ⟨l2, q2⟩ := List.getElem?_eq_some_iff.mp hN
        exact hi (nodup_ix nd (q1.trans q2.symm))
      rcases e3 with k | k | k
      · exact absurd ((L.own _ (PySem.mem_of_lookup k)).2 rfl) ny
      · exact absurd rfl (L.own _ (PySem.mem_of_lookup k)).1
      · obtain ⟨m, hn, hl⟩ := I.loc
        have hvis : Vis X.env.scope y := (L.free _ (PySem.mem_of_lookup k) rfl).elim (fun k => .inr (.inl k)) (fun k => .inr (.inr k))
        obtain ⟨w', r', q⟩ := hl i y w e1 e2 hvis
        obtain ⟨c2, h2⟩ := look k
        refine ⟨w', r', .inr ⟨.inr k, c2, h2, ?_⟩⟩
        have c1 := cm h2
        rcases q with ⟨k', _⟩ | ⟨_, c3, e', z⟩
        · have k' : X.env.scope.names.lookup y = some .local := k'
          rcases L.free _ (PySem.mem_of_lookup k) rfl with k2 | k2 <;> rw [show X.env.scope.names.lookup y = _ from k2] at k' <;> cases k'
        · rw [c1] at e'
          cases e'
          exact cellK z
  · obtain ⟨w', z⟩ := I.cell y c (cm e)
    exact ⟨w', cellK z⟩
  · exact I.freeC y c (cm e)
/-- f(u), f such a lambda -/
theorem lam_call1 {A : Around} {scope : Scope} {f c' : Addr} {oc : Obj} {vs : Array Value} {t : Tok} {params : Arguments} {body : Expr} {pm ctv : Value} {ip j : Nat} {x : Str} {v : V} {u : Value} {tb : TE} {Q : VK} {E : Value → Shared → Prop} (I : Inv X pins σ H s) (nd : X.N.Nodup) (L : LamS1 X.env.scope scope x)
    (hA : A.frames = some X.stack) (hr : Room (j + 1) A) (hN : X.N[ip]? = some x) (r : RelV v u)
    (hf : H f = some (ObO f (PySem.W.kla_obj "<lambda>" (X.env.qual ++ "<lambda>") params body scope (cloFrom X.env.cells scope.names []) pm c' ctv))) (hco : H c' = some (.frz oc (.own 0))) (hd : oc.data = .fields vs) (hv : vs[1]? = some (.str (X.env.qual ++ "<lambda>") t))
    (hbind : bindArgs (PySem.W.kla_fn "<lambda>" (X.env.qual ++ "<lambda>") params body scope (cloFrom X.env.cells scope.names []) pm (.ref c') ctv) ⟨[u], []⟩ = pure [(x, u)])
    (hb : Room j (A.deeper (LamX.lamEnv X scope s.heap.objs.size f c')) → PE (lamC X A s H scope f c') body tb) (ht : tb (σ.set ip (some v)) H Q) :
    wpAny (model X.prog X.w) A (call (.ref f) [u]) (EP X pins σ Q) E s := by
  have hfo := (I.hok f _ hf).1
  have hfo : s.heap.get? f = some (PySem.W.kla_obj "<lambda>" (X.env.qual ++ "<lambda>") params body scope (cloFrom X.env.cells scope.names []) pm c' ctv) := hfo
  have hoc : s.heap.get? c' = some oc := (I.hok c' _ hco).1
  have e0 : Env0 X.prog X.w X.K X.mg X.base A X.stack s H := ⟨hA, I.ok.mod, I.bs, Nat.le_trans I.ok.bsz I.sz, I.stack, I.stkFree, I.hok, I.bare⟩
  refine wpAny_call ?_
  refine PySem.W.kla_callFunE hr.depth hfo rfl L.co L.gen rfl ⟨c', oc, vs, t, rfl, hoc, hd, hv⟩ ?_
  rw [hbind]
  refine wpAny_pure (wpAny_newFunctionEnv (fun y hy => (L.own y hy).1) (fun y hy => ?_) (fun h₁ hns hsb => ⟨I.nolimit.fresh _ hsb, ?_⟩) L.kind)
  · have : y = (x, u) := by simpa using hy
    rw [this]
    exact L.par
  show codeAny _ _ (.expr body (LamX.lamEnv X scope s.heap.objs.size f c')) _ _
  have kp : ∀ b o, s.heap.get? b = some o → h₁.get? b = some o := fun b o e => hsb.extBut b o (Nat.ne_of_lt (Heap.lt_size e)) (Heap.get?_push_of_some _ e)
  have J := lam_start1 (A := A) (f := f) (c' := c') (tk := s.toks + ([(x, u)] : List (Str × Value)).length) I nd L e0 hr.hd hN r hns kp
  refine PySem.W.kla_codeExpr (wpAny_mono ((hb (hr.deeper _)).run [] _ _ H Q J ht) (fun w' s' hq => ?_) fun e s' hq => False.elim hq)
  obtain ⟨z, H', J', rv, q⟩ := hq
  exact I.after ⟨z, H', J'.os, J'.bare, J'.base, J'.hok, rv, q⟩
end
end Ev
end

section
set_option Elab.async false
set_option linter.all false
set_option maxRecDepth 100000
set_option maxHeartbeats 2000000
/-! Ev: sorted(l, key=lambda x: ..). -/
namespace Ev
open PySem PySem.Spec PyProof.Rows L2

/-- the keys of the items, one after another; Fc: what must still be known -/
def tKeys (tb : TE) (Fc : Hp → Prop) (σ : L2.St) (ip : Nat) : List V → Hp → (List V → Hp → Prop) → Prop
  | [], H, Q => Q [] H
  | x :: xs, H, Q => tb (σ.set ip (some x)) H fun k H1 => Fc H1 ∧ tKeys tb Fc σ ip xs H1 fun ks H2 => Q (k :: ks) H2
/-- b is untracked, young, none of the frame's -/
structure Fp0 (X : Cx) (pins : List (Addr × Obj)) (b : Addr) : Prop where
  ne : b ≠ X.env.locals
  nf : b ∉ X.fs
  yo : X.s_0.heap.objs.size ≤ b
  nc : ∀ x c, X.env.cells.lookup x = some c → c ≠ b
  np : ∀ p ∈ X.pn ++ pins, p.1 ≠ b
section
variable {X : Cx} {pins : List (Addr × Obj)} {σ : L2.St} {H : Hp} {s : Shared}
theorem Fp0.of (I : Inv X pins σ H s) {b : Addr} (hb : s.heap.objs.size ≤ b) : Fp0 X pins b := by
  obtain ⟨_, h1, h2, h3, h4, h5⟩ := I.fpOk (H' := H) hb (I.hok.fresh hb)
  refine ⟨h1, h2, ?_, h4, h5⟩
  exact Nat.le_trans I.sz hb
theorem Fp0.fp {b : Addr} (f : Fp0 X pins b) (n : H b = none) : FpOk X pins H b := ⟨n, f.ne, f.nf, .inr f.yo, f.nc, f.np⟩
/-- pinned -/
theorem inv_pin (I : Inv X pins σ H s) {l : List (Addr × Obj)} (h : ∀ p ∈ l, s.heap.get? p.1 = some p.2 ∧ H p.1 = none ∧ Fp0 X pins p.1 ∧ ∀ v, p.2.data ≠ .cell v) : Inv X (pins ++ l) σ H s :=
  I.pins_of fun p hp => (List.mem_append.mp hp).elim (fun z => I.pin p (List.mem_append_right _ z)) fun z => ⟨(h p z).1, (h p z).2.1, (h p z).2.2.1.ne, (h p z).2.2.1.nf, (h p z).2.2.2⟩
theorem vals_each {xs : List V} {kz : List PyData} {vs : List Value} (r : Vals xs vs) (hl : kz.length = xs.length) : PySem.W.EachIs (fun u (b : V × PyData) => RelV b.1 u) vs (xs.zip kz) := by
  induction r generalizing kz with
  | nil => exact .nil
  | cons a b ih =>
    cases kz with
    | nil => cases hl
    | cons d kz => exact .cons a (ih (by simpa using hl))
theorem each_vals {bs : List (V × PyData)} {vs : List Value} (e : PySem.W.EachIs (fun u (b : V × PyData) => RelV b.1 u) vs bs) : Vals (bs.map Prod.fst) vs := by
  induction e with
  | nil => exact .nil
  | cons a b ih => exact .cons a ih
theorem dpAll_len {K : PySem.W.Frag} {H : Hp} : ∀ {vs : List V} {ds : List PyData}, DpAll K H vs ds → ds.length = vs.length
  | _, _, .nil => rfl
  | _, _, .cons _ t => congrArg (· + 1) (dpAll_len t)
theorem dp_each (I : Inv X pins σ H s) : ∀ {vs : List V} {ds : List PyData} {us : List Value}, DpAll X.K H vs ds → Vals vs us → PySem.W.EachIs (fun u d => ∃ as, Reads s.heap u d as) us ds
  | _, _, _, .nil, .nil => .nil
  | _, _, _, .cons a b, .cons r t => .cons (Dp.reads I _ _ _ a r) (dp_each I b t)
theorem zip_snd {α β : Type} : ∀ {xs : List α} {ys : List β}, ys.length = xs.length → (xs.zip ys).map Prod.snd = ys
  | [], [], _ => rfl
  | x :: xs, y :: ys, h => by simp [zip_snd (xs := xs) (ys := ys) (by simpa using h)]
abbrev sortedBy (xs : List V) (kz : List PyData) : List V := ((xs.zip kz).mergeSort (PySem.W.dataLe false Prod.snd)).map Prod.fst
/-- what is wanted of the keys -/
def KeysQ (X : Cx) (xs : List V) (Q : VK) (ks : List V) (H2 : Hp) : Prop := ∃ kz : List PyData, DpAll X.K H2 ks kz ∧ ks.length = xs.length ∧ PySem.W.AllAlike kz ∧ PySem.W.Sortable kz ∧ (∀ d ∈ kz, d.depth ≤ 20) ∧ ∀ p, H2 p = none → Q (.ref p) (upd H2 p (.lst (sortedBy xs kz)))
open PySem.W in
theorem keyI_rest {A : Around} {f a kS : Addr} {e1 ip : Nat} {vs : List Value} {xs : List V} {tb : TE} {Fc : Hp → Prop} {Q : VK} {E : Value → Shared → Prop} (I : Inv X pins σ H s) (fa : Fp0 X pins a) (fk : Fp0 X pins kS) (hka : kS ≠ a) (nk : s.heap.get? kS = some (seqObj "list" #[] 0)) (na : s.heap.get? a = some (seqObj "list" #[] e1))
    (ua : H a = none) (uk : H kS = none) (rv : Vals xs vs) (hZ : vs.length ≤ sizeLine) (hu : A.units + 21 < cLine)
    (turn : ∀ (v : V) (u : Value) (pins' : List (Addr × Obj)) (s' : Shared) (H' : Hp) (Qv : VK), Inv X pins' σ H' s' → RelV v u → Fc H' → tb (σ.set ip (some v)) H' Qv → wpAny (model X.prog X.w) A (call (.ref f) [u]) (EP X pins' σ Qv) (fun _ _ => False) s')
    (hF : Fc H) (ht : tKeys tb Fc σ ip xs H (KeysQ X xs Q)) :
    wpAny (model X.prog X.w) A (ksk_rest a (.ref f) false vs.toArray e1 (.ref kS)) (fun fin s' => fin = .done (.ret .none) ∧ EP X pins σ Q (.ref a) s') E s := by
  have hlen := rv.length
  have sob : ∀ (vs : Array Value) (e : Nat) (v : Option Value), (seqObj "list" vs e).data ≠ .cell v := fun _ _ _ z => by cases z
  have pin : ∀ {H' : Hp} {s' : Shared} {ok : Obj}, Inv X pins σ H' s' → s'.heap.get? kS = some ok → (∀ v, ok.data ≠ .cell v) → s'.heap.get? a = some (seqObj "list" #[] e1) → H' kS = none → H' a = none → Inv X (pins ++ [(kS, ok), (a, seqObj "list" #[] e1)]) σ H' s' := fun {H' s' ok} I' h1 hk h2 h3 h4 =>
    inv_pin I' fun p hp => by
      simp only [List.mem_cons, List.not_mem_nil, or_false] at hp
      rcases hp with rfl | rfl
      · exact ⟨h1, h3, fk, hk⟩
      · exact ⟨h2, h4, fa, sob _ _⟩
  unfold ksk_rest
  refine wpAny_bind (wpAny_rule ?_)
  first
    | rw [List.forIn_toArray]
    | (rw [← Array.forIn_toList]; simp only [List.toList_toArray])
    | rw [← Array.forIn_toList]
  refine wpAny_bind (ksk_fold (fun i s' => ∃ kA e ks H', Inv X pins σ H' s' ∧ s'.heap.get? kS = some (seqObj "list" kA e) ∧ s'.heap.get? a = some (seqObj "list" #[] e1) ∧ H' a = none ∧ H' kS = none ∧ Vals ks kA.toList ∧ ks.length = min i xs.length ∧ Fc H' ∧
      tKeys tb Fc σ ip (xs.drop i) H' fun ks2 H2 => KeysQ X xs Q (ks ++ ks2) H2) vs 0 s
    ⟨#[], 0, [], H, I, nk, na, ua, uk, .nil, by simp, hF, ht⟩ ?step ?done)
  case step =>
    rintro j u s' hx ⟨kA, e, ks, H', I', nk', na', ua', uk', rk, hkl, hF', ht'⟩
    simp only [Nat.zero_add] at hkl ht' ⊢
    have hj : j < vs.length := (List.getElem?_eq_some_iff.mp hx).1
    have hjx : j < xs.length := by omega
    rw [List.drop_eq_getElem_cons hjx] at ht'
    obtain ⟨u2, hu2, ru⟩ := rv.get (List.getElem?_eq_getElem hjx)
    have : u2 = u := by
      rw [hx] at hu2
      exact (Option.some.inj hu2).symm
    subst this
    have Ip := pin I' nk' (sob _ _) na' uk' ua'
    have hz : kA.size ≤ vs.length := by
      have h1 : ks.length = kA.toList.length := rk.length
      have h3 : kA.toList.length = kA.size := Array.length_toList
      have h2 : ks.length = min j xs.length := hkl
      rw [← hlen, ← h3, ← h1, h2]
      exact Nat.min_le_right _ _
    refine wpAny_bind (wpAny_attempt (wpAny_mono (turn _ _ _ _ _ _ Ip ru hF' ht') (fun v s'' he => ?_) fun _ _ hF => hF.elim))
    obtain ⟨k, H2, I2, rk2, hF2, ht2⟩ := he
    try dsimp only
    have pk := I2.pin (kS, seqObj "list" kA e) (by simp)
    have pa := I2.pin (a, seqObj "list" #[] e1) (by simp)
    have I2' := I2.unpinned
    have s1 := Heap.SameBut.update s''.heap kS (Obj.mapSeq (·.push v))
    obtain ⟨c2, hc2⟩ : ∃ c2, (s''.heap.update kS (Obj.mapSeq (·.push v))).get? kS = some (seqObj "list" (kA.push v) c2) := ⟨_, get?_update_seq pk.1 (·.push v)⟩
    refine wpAny_bind (listUpdate_at pk.1 rfl ?_ (Nat.le_trans hz hZ) (Nat.le_trans (Nat.le_of_eq (Array.size_push ..)) (Nat.succ_le_succ (Nat.le_trans hz hZ))))
    have I3 : Inv X pins σ H2 { s'' with heap := s''.heap.update kS (Obj.mapSeq (·.push v)) } := I2'.turned (t' := s''.toks) (it := kS) (fun b o hb e => (s1.2 b hb).trans e) pk.2.1 fk.ne (.inr fk.yo) fk.nc fk.np
    refine wpAny_pure ⟨rfl, kA.push v, c2, ks ++ [k], H2, I3, hc2, (s1.2 a hka.symm).trans pa.1, pa.2.1, pk.2.1, ?_, ?_, hF2, ?_⟩
    · rw [show (kA.push v).toList = kA.toList ++ [v] by simp]
      exact rk.append (.cons rk2 .nil)
    · rw [List.length_append, hkl]
      simp only [List.length_cons, List.length_nil]
      omega
    · have e : ∀ ks2, (ks ++ [k]) ++ ks2 = ks ++ (k :: ks2) := fun ks2 => by simp
      simp only [e]
      exact ht2
  case done =>
    rintro s' ⟨kA, e, ks, H', I', nk', na', ua', uk', rk, hkl, hF', ht'⟩
    rw [Nat.zero_add] at ht'
    rw [List.drop_of_length_le (by omega)] at ht'
    have ht' : KeysQ X xs Q (ks ++ []) H' := ht'
    rw [List.append_nil] at ht'
    obtain ⟨kz, hdp, hkx, hal, hsk, hdep, hq⟩ := ht'
    have hkk := dpAll_len hdp
    have hk' := dp_each I' hdp rk
    have hsz : kA.size = vs.length := by
      have h1 := hk'.length
      rw [Array.length_toList] at h1
      omega
    try dsimp only
    refine wpAny_bind (listItems_at nk' rfl ?_)
    have hide : ∀ b o, b ≠ kS → s'.heap.get? b = some o → (hideAll s'.heap [kS]).get? b = some o := fun b o hb q => hideAll_get _ q (by simpa using hb)
    refine keyH_end (κ := dataKind s'.heap kz) (h₁ := hideAll s'.heap [kS]) (P := fun fin s2 => fin = .done (.ret .none) ∧ EP X pins σ Q (.ref a) s2) (fun b o hb q => ?_) ?_ nk' na' hka (SortsAt.data hk' hal hsk fun d hd => by have := hdep d hd; omega) hsz hZ fun h3 tk3 c k3 n3 => ⟨rfl, ?_⟩
    · exact of_hideAll _ q
    · exact hideAll_none _ (by simp)
    have ko : KeyedOut false kz vs (sortVals (dataKind s'.heap kz) false kA.toList vs) := ⟨s'.heap, kA.toList, hal, rfl, hk'⟩
    have hzl : kz.length = xs.length := by omega
    have eo := keyedOut_each (bs := xs.zip kz) Prod.snd (by rw [zip_snd hzl]; exact ko) (vals_each rv hzl)
    have vo := each_vals eo
    have hol := vo.length
    have hql := hq a ua'
    refine ⟨.ref a, upd H' a (.lst (sortedBy xs kz)), ?_, rfl, hql⟩
    have keep : ∀ b o, b ∉ [a, kS] → s'.heap.get? b = some o → h3.get? b = some o := fun b o hb q => by
      simp only [List.mem_cons, List.not_mem_nil, or_false, not_or] at hb
      exact k3 b o hb.1 (hide b o hb.2 q)
    have nt : ∀ b u, H' b = some u → b ∉ [a, kS] := fun b u e hb => by
      simp only [List.mem_cons, List.not_mem_nil, or_false] at hb
      rcases hb with rfl | rfl
      · rw [ua'] at e; cases e
      · rw [uk'] at e; cases e
    have na_ : ∀ b u, H' b = some u → b ≠ a := fun b u e => ne_of_none e ua'
    have o3 : h3.get? kS ≠ none ∨ True := .inr True.intro
    refine I'.step (g' := s'.gens) (d' := s'.drawn) (t' := tk3) (ch := [a, kS]) (fun b hb => ?_) (fun b o _ _ hc e _ => keep b o hc e) (fun b o _ _ hc e _ => ⟨o.slots, keep b o hc e⟩) (fun b o hc e n => ?_) (fun b o hc e => ⟨o, keep b o hc e⟩)
      (fun b xs e => by rw [upd_ne (na_ b _ e)]; exact e) (fun b o u e => by rw [upd_ne (na_ b _ e)]; exact e) (fun b ps e => ⟨#[], by rw [upd_ne (na_ b _ e), e]; simp⟩) (fun m hm => ?_) (fun b u e => ?_) I'.bare
    · simp only [List.mem_cons, List.not_mem_nil, or_false] at hb
      rcases hb with rfl | rfl
      · exact ⟨.inr fa.yo, fa.ne, fa.nc, fa.np⟩
      · exact ⟨.inr fk.yo, fk.ne, fk.nc, fk.np⟩
    · have hb : b ≠ a := fun z => hc (by simp [z])
      rw [upd_ne hb]
      exact n
    · obtain ⟨o, es, ep, ho, r⟩ := hm
      exact ⟨o, es, ep, keep _ o (by simp only [List.mem_cons, List.not_mem_nil, or_false, not_or]; exact ⟨fa.ne.symm, fk.ne.symm⟩) ho, r⟩
    · by_cases hb : b = a
      · subst hb
        rw [upd_same] at e
        cases e
        have h5 := sortVals_length (κ := dataKind s'.heap kz) (ks := kA.toList) (vs := vs) false (by rw [Array.length_toList]; exact hsz)
        refine ⟨by
          show (List.map Prod.fst ((xs.zip kz).mergeSort (dataLe false Prod.snd))).length ≤ sizeLine
          rw [hol, h5]; exact hZ, _, c, vo, ?_⟩
        exact n3
      · rw [upd_ne hb] at e
        refine (I'.hok b u e).stay (fun d v hd q => keep d v ?_ q) (fun d q => by rw [upd_ne (na_ d _ q)]; exact q) fun d xs q => by rw [upd_ne (na_ d _ q)]; exact q
        rcases hd with z | z
        · rw [z]; exact nt b u e
        · exact nt d _ z
end
end Ev
end

section
set_option Elab.async false
set_option linter.all false
set_option maxRecDepth 100000
/-! Ev: more pieces: sorted by a key. -/
namespace Ev
open PySem

/-- a key: an int; two ints; an int and a tuple of tuples of ints -/
inductive KK where
  | k0 (i : Int)
  | k1 (a b : Int)
  | k2 (a : Int) (xs : List (List Int))
def kkOf (v : PV) : Option KK := match v with
  | .int i => some (.k0 i)
  | .tup [.int a, .int b] => some (.k1 a b)
  | .tup [.int a, .tup xs] => match tInts xs with
    | some r => some (.k2 a r)
    | none => none
  | _ => none
def rowT : List Int → List Int → List Int
  | [], r => 0 :: r
  | x :: xs, r => 1 :: x :: rowT xs r
def rowsT : List (List Int) → List Int → List Int
  | [], r => 0 :: r
  | x :: xs, r => 1 :: rowT x (rowsT xs r)
def KK.toks : KK → List Int
  | .k0 i => [i]
  | .k1 a b => [1, a, 1, b, 0]
  | .k2 a xs => 1 :: a :: 1 :: rowsT xs [0]
def KK.kind : KK → Nat
  | .k0 _ => 0
  | .k1 _ _ => 1
  | .k2 _ _ => 2
def KK.dat : KK → PyData
  | .k0 i => .int i
  | .k1 a b => .tuple [.int a, .int b]
  | .k2 a xs => .tuple [.int a, .tuple (xs.map fun r => .tuple (r.map .int))]
def llt : List Int → List Int → Bool
  | [], [] => false
  | [], _ :: _ => true
  | _ :: _, [] => false
  | x :: xs, y :: ys => match ieq x y with
    | true => llt xs ys
    | false => ilt x y
/-- the keys of one kind -/
def kksOf (n : Nat) : List PV → Option (List KK)
  | [] => some []
  | v :: vs => match kkOf v with
    | none => none
    | some k => match Nat.beq k.kind n with
      | false => none
      | true => match kksOf n vs with
        | none => none
        | some ks => some (k :: ks)
def kksAny : List PV → Option (List KK)
  | [] => some []
  | v :: vs => match kkOf v with
    | none => none
    | some k => kksOf k.kind (v :: vs)
def sinsK (k : List Int × PV) : List (List Int × PV) → List (List Int × PV)
  | [] => [k]
  | j :: r => match llt j.1 k.1 with
    | true => j :: sinsK k r
    | false => k :: j :: r
def ssortK : List (List Int × PV) → List (List Int × PV)
  | [] => []
  | k :: r => sinsK k (ssortK r)
def zipT : List KK → List PV → List (List Int × PV)
  | k :: ks, x :: xs => (k.toks, x) :: zipT ks xs
  | _, _ => []
def sndT : List (List Int × PV) → List PV
  | [] => []
  | q :: r => q.2 :: sndT r
def keysL (f : PV → Mem → Res PV) : List PV → Mem → Res (List PV)
  | [], h => .ok [] h
  | x :: xs, h => match f x h with
    | .ok k h1 => (match keysL f xs h1 with
      | .ok ks h2 => .ok (k :: ks) h2
      | _ => .bad)
    | _ => .bad
/-- sorted(l, key=lambda x: ..), the parameter at ip -/
def eSortK (ip : Nat) (l : XA) (fb : XE) : XE := fun c s h => (l c s h).bind fun xs h1 => cnd (fits xs)
  ((keysL (fun x h => fb c (s.set ip (some x)) h) xs h1).bind fun ks h2 => match kksAny ks with
    | some ts => .ok (.ref h2.size) (h2.push (.lst (sndT (ssortK (zipT ts xs)))))
    | none => .bad) .bad

/-! ### laws -/
open PySem.W in
theorem rowT_toks : ∀ (xs : List Int) (r : List Int), (rowT xs r).map (Sum.inl (β := List Nat)) = keyToksAll (xs.map PyData.int) ++ r.map Sum.inl
  | [], r => by simp [rowT, keyToksAll]
  | x :: xs, r => by
    have ih := rowT_toks xs r
    simp only [rowT, List.map_cons, keyToksAll, keyToks, ih, List.cons_append, List.nil_append, List.append_assoc]
open PySem.W in
theorem rowsT_toks : ∀ (xs : List (List Int)) (r : List Int), (rowsT xs r).map (Sum.inl (β := List Nat)) = keyToksAll (xs.map fun r => PyData.tuple (r.map .int)) ++ r.map Sum.inl
  | [], r => by simp [rowsT, keyToksAll]
  | x :: xs, r => by
    have ih := rowsT_toks xs r
    simp only [rowsT, List.map_cons, keyToksAll, keyToks, rowT_toks, ih, List.cons_append, List.append_assoc]
open PySem.W in
theorem kk_toks (k : KK) : k.toks.map (Sum.inl (β := List Nat)) = keyToks k.dat := by
  cases k with
  | k0 i => simp [KK.toks, KK.dat, keyToks]
  | k1 a b => simp [KK.toks, KK.dat, keyToks, keyToksAll]
  | k2 a xs => simp [KK.toks, KK.dat, keyToks, keyToksAll, rowsT_toks]
theorem llt_lex : ∀ (xs ys : List Int), PyProof.Rows.lexLt PyProof.Rows.itemOrd (xs.map Sum.inl) (ys.map Sum.inl) = llt xs ys
  | [], [] => rfl
  | [], _ :: _ => rfl
  | _ :: _, [] => rfl
  | x :: xs, y :: ys => by
    unfold llt
    simp only [List.map_cons]
    by_cases e : x = y
    · subst e
      rw [show ieq x x = true from ieq_iff.mpr rfl]
      have := PyProof.Rows.lex_self (O := PyProof.Rows.itemOrd) (Sum.inl x) (xs.map Sum.inl) (ys.map Sum.inl)
      rw [this]
      exact llt_lex xs ys
    · have e2 : ieq x y = false := by
        rw [ieq_eq]
        exact decide_eq_false e
      rw [e2]
      have hne : (Sum.inl x : Int ⊕ List Nat) ≠ Sum.inl y := fun z => e (Sum.inl.inj z)
      have e3 := PyProof.Rows.lex_diff (O := PyProof.Rows.itemOrd) (r := xs.map Sum.inl) (t := ys.map Sum.inl) hne
      rw [e3, ilt_eq]
      rfl
theorem dataLt_kk (a b : KK) : PySem.W.dataLt a.dat b.dat = llt a.toks b.toks := by
  unfold PySem.W.dataLt
  rw [← kk_toks, ← kk_toks, llt_lex]
theorem alike_rows : ∀ xs ys : List (List Int), PySem.W.alikeAll (xs.map fun r => PyData.tuple (r.map .int)) (ys.map fun r => PyData.tuple (r.map .int)) = true
  | [], _ => by simp [PySem.W.alikeAll]
  | _ :: _, [] => by simp [PySem.W.alikeAll]
  | x :: xs, y :: ys => by
    simp only [List.map_cons, PySem.W.alikeAll, PySem.W.alike, alike_rows xs ys, PySem.W.alike_ints, Bool.and_self]
theorem kk_alike {a b : KK} (h : a.kind = b.kind) : PySem.W.alike a.dat b.dat = true := by
  cases a <;> cases b <;> first | (cases h; done) | skip
  · simp [KK.dat, PySem.W.alike]
  · simp [KK.dat, PySem.W.alike, PySem.W.alikeAll]
  · simp only [KK.dat, PySem.W.alike, PySem.W.alikeAll, alike_rows, Bool.and_self]
theorem depth_rows : ∀ xs : List (List Int), PyData.depthAll (xs.map fun r => PyData.tuple (r.map .int)) ≤ 1
  | [] => by simp [PyData.depthAll]
  | x :: xs => by
    have := depth_rows xs
    simp only [List.map_cons, PyData.depthAll, PyData.depth, PySem.W.depth_ints]
    omega
theorem kk_depth (k : KK) : k.dat.depth ≤ 20 := by
  cases k with
  | k0 i => simp [KK.dat, PyData.depth]
  | k1 a b => simp [KK.dat, PyData.depth, PyData.depthAll]
  | k2 a xs =>
    have := depth_rows xs
    simp only [KK.dat, PyData.depth, PyData.depthAll]
    omega
theorem go_ints (h : Mem) (n : Nat) : ∀ {xs : List PV} {is : List Int}, intsOf xs = some is → toD.go (toD h (n + 1)) xs = some (is.map PyData.int)
  | [], _, e => by cases e; rfl
  | v :: xs, is, e => by
    cases v <;> first | (cases e; done) | skip
    rename_i i
    have e : (match intsOf xs with
      | some is => some (i :: is)
      | none => none) = some is := e
    cases q : intsOf xs with
    | none => rw [q] at e; cases e
    | some js =>
      rw [q] at e
      cases e
      unfold toD.go
      rw [go_ints h n q]
      rfl
theorem go_rows (h : Mem) (n : Nat) : ∀ {xs : List PV} {is : List (List Int)}, tInts xs = some is → toD.go (toD h (n + 2)) xs = some (is.map fun r => PyData.tuple (r.map .int))
  | [], _, e => by cases e; rfl
  | v :: xs, is, e => by
    cases v <;> first | (cases e; done) | skip
    rename_i ys
    have e : (match intsOf ys with
      | some k => match tInts xs with
        | some ks => some (k :: ks)
        | none => none
      | none => none) = some is := e
    cases q : intsOf ys with
    | none => rw [q] at e; cases e
    | some js =>
      rw [q] at e
      simp only at e
      cases q2 : tInts xs with
      | none => rw [q2] at e; cases e
      | some ks =>
        rw [q2] at e
        cases e
        unfold toD.go
        rw [go_rows h n q2]
        have : toD h (n + 2) (.tup ys) = some (.tuple (js.map .int)) := by
          show (toD.go (toD h (n + 1)) ys).map PyData.tuple = _
          rw [go_ints h n q]
          rfl
        rw [this]
        rfl
theorem kkOf_toD {h : Mem} {v : PV} {k : KK} (e : kkOf v = some k) : toD h 8 v = some k.dat := by
  unfold kkOf at e
  split at e
  · cases e; rfl
  · cases e; rfl
  · rename_i a xs
    cases q : tInts xs with
    | none => rw [q] at e; cases e
    | some r =>
      rw [q] at e
      cases e
      show (toD.go (toD h 7) [.int a, .tup xs]).map PyData.tuple = _
      have e1 : toD h 7 (.tup xs) = some (.tuple (r.map fun r => .tuple (r.map .int))) := by
        show (toD.go (toD h 6) xs).map PyData.tuple = _
        rw [go_rows h 4 q]
        rfl
      have e2 : toD.go (toD h 7) [.tup xs] = some [.tuple (r.map fun r => .tuple (r.map .int))] := by
        unfold toD.go
        rw [e1]
        rfl
      unfold toD.go
      rw [e2]
      rfl
  · cases e
theorem kksOf_go {h : Mem} {n : Nat} : ∀ {vs : List PV} {ks : List KK}, kksOf n vs = some ks → toD.go (toD h 8) vs = some (ks.map KK.dat) ∧ ∀ k ∈ ks, k.kind = n
  | [], _, e => by cases e; exact ⟨rfl, fun _ z => by cases z⟩
  | v :: vs, ks, e => by
    unfold kksOf at e
    cases q : kkOf v with
    | none => rw [q] at e; cases e
    | some k =>
      rw [q] at e
      simp only at e
      cases q2 : Nat.beq k.kind n with
      | false => rw [q2] at e; cases e
      | true =>
        rw [q2] at e
        simp only at e
        cases q3 : kksOf n vs with
        | none => rw [q3] at e; cases e
        | some js =>
          rw [q3] at e
          cases e
          obtain ⟨h1, h2⟩ := kksOf_go (h := h) q3
          refine ⟨?_, fun j hj => ?_⟩
          · unfold toD.go
            rw [kkOf_toD q, h1]
            rfl
          · rcases List.mem_cons.mp hj with rfl | hj
            · exact Nat.eq_of_beq_eq_true q2
            · exact h2 j hj
theorem kksAny_go {h : Mem} {vs : List PV} {ks : List KK} (e : kksAny vs = some ks) : toD.go (toD h 8) vs = some (ks.map KK.dat) ∧ ∀ a ∈ ks, ∀ b ∈ ks, a.kind = b.kind := by
  cases vs with
  | nil => cases e; exact ⟨rfl, fun _ z => by cases z⟩
  | cons v vs =>
    have e : (match kkOf v with
      | none => none
      | some k => kksOf k.kind (v :: vs)) = some ks := e
    cases q : kkOf v with
    | none => rw [q] at e; cases e
    | some k =>
      rw [q] at e
      obtain ⟨h1, h2⟩ := kksOf_go (h := h) e
      exact ⟨h1, fun a ha b hb => (h2 a ha).trans (h2 b hb).symm⟩
theorem kk_allAlike {ks : List KK} (h : ∀ a ∈ ks, ∀ b ∈ ks, a.kind = b.kind) : PySem.W.AllAlike (ks.map KK.dat) := fun x hx y hy => by
  obtain ⟨a, ha, rfl⟩ := List.mem_map.mp hx
  obtain ⟨b, hb, rfl⟩ := List.mem_map.mp hy
  exact kk_alike (h a ha b hb)
theorem kk_sortable {ks : List KK} (h : ∀ a ∈ ks, ∀ b ∈ ks, a.kind = b.kind) : PySem.W.Sortable (ks.map KK.dat) := by
  cases ks with
  | nil => exact .inl fun d hd => by cases hd
  | cons k ks =>
    by_cases hk : k.kind = 0
    · refine .inr fun d hd => ?_
      obtain ⟨a, ha, rfl⟩ := List.mem_map.mp hd
      have e := h a ha k (List.mem_cons_self ..)
      rw [hk] at e
      cases a with
      | k0 i => exact ⟨fun z => (by cases z), fun xs z => (by cases z)⟩
      | k1 a b => cases e
      | k2 a b => cases e
    · refine .inl fun d hd => ?_
      obtain ⟨a, ha, rfl⟩ := List.mem_map.mp hd
      have e := h a ha k (List.mem_cons_self ..)
      cases a with
      | k0 i => exact absurd e.symm hk
      | k1 a b => exact ⟨_, _, rfl⟩
      | k2 a b => exact ⟨_, _, rfl⟩

/-! ### sorting by insertion -/
def isrt {α : Type} (le : α → α → Bool) : List α → List α
  | [] => []
  | a :: l => ins a (isrt le l)
where
  ins (a : α) : List α → List α
    | [] => [a]
    | b :: r => match le a b with
      | true => a :: b :: r
      | false => b :: ins a r
theorem ins_split {α : Type} {le : α → α → Bool} {a : α} : ∀ {l1 l2 : List α}, (∀ b ∈ l1, le a b = false) → (∀ b, l2.head? = some b → le a b = true) → isrt.ins le a (l1 ++ l2) = l1 ++ a :: l2
  | [], [], _, _ => rfl
  | [], b :: l2, _, h => by
    show isrt.ins le a (b :: l2) = _
    unfold isrt.ins
    rw [h b rfl]
    rfl
  | c :: l1, l2, h1, h2 => by
    show isrt.ins le a (c :: (l1 ++ l2)) = _
    unfold isrt.ins
    rw [h1 c (List.mem_cons_self ..)]
    show c :: isrt.ins le a (l1 ++ l2) = _
    rw [ins_split (fun b hb => h1 b (List.mem_cons_of_mem _ hb)) h2]
    rfl
theorem isrt_eq {α : Type} {le : α → α → Bool} (trans : ∀ a b c : α, le a b = true → le b c = true → le a c = true) (total : ∀ a b : α, (le a b || le b a) = true) : ∀ l : List α, l.mergeSort le = isrt le l
  | [] => by simp [isrt]
  | a :: l => by
    obtain ⟨l1, l2, e1, e2, h3⟩ := List.mergeSort_cons trans total a l
    have ih := isrt_eq trans total l
    show _ = isrt.ins le a (isrt le l)
    rw [← ih, e2, e1, ins_split (fun b hb => by simpa using h3 b hb) fun b hb => ?_]
    have hs := List.pairwise_mergeSort trans total (a :: l)
    rw [e1] at hs
    have h4 := (List.pairwise_append.mp hs).2.1
    exact (List.pairwise_cons.mp h4).1 b (List.mem_of_head? hb)
end Ev
namespace Ev
open PySem
/-! ### next((e for t in i if c), None) -/
def firstT (f : PV → Mem → Res (Option PV)) : List PV → Mem → Res (Option PV)
  | [], h => .ok none h
  | x :: xs, h => match f x h with
    | .ok (some v) h1 => .ok (some v) h1
    | .ok none h1 => firstT f xs h1
    | _ => .bad
def orNon (o : Option PV) : PV := match o with
  | some v => v
  | none => .non
def eNext (own : List Nat) (i : XI) (g : Tg) (t : XT) (e : XE) : XE := fun c s h => (i c s h).bind fun p h1 =>
  (noErr (firstT (fun x h => (tgG g c x (lC1.wipeV s own) h).bind fun s' h1 => (t c s' h1).bind fun b h2 => match b with
    | true => (e c s' h2).bind fun y h3 => .ok (some y) h3
    | false => .ok none h2) p.1 (h1.lock p.2))).bind fun o h2 => .ok (orNon o) (h2.unlock p.2)
end Ev
namespace Ev
open PySem
/-- .. an instance with an own __iter__ too -/
def iAnyO (tab : List (Nat × Nat)) (a : XE) : XI := fun c s h => (a c s h).bind fun x h1 => match x with
  | .tup xs => .ok (xs, []) h1
  | .ref r => match h1.get r with
    | some (.lst xs) => .ok (xs, [r]) h1
    | some (.scr xs) => .ok (xs, [r]) h1
    | some (.dic kvs) => .ok (kvs.map fun q => q.1, [r]) h1
    | some (.ins k fs) => match lookC k tab with
      | some i => match fs[i]? with
        | some (some (.ref n)) => match h1.get n with
          | some (.lst xs) => .ok (xs, [n]) h1
          | _ => .bad
        | _ => .bad
      | none => .bad
    | none => .bad
  | _ => .bad
/-- list(range(e)) -/
def eLRg (a : XE) : XE := fun c s h => (a c s h).bind fun x h1 => match x with
  | .int j => cnd (ilt (-65536) j) (cnd (ilt j 65536) (.ok (.ref h1.size) (h1.push (.lst (upto 0 1 j.toNat)))) .bad) .bad
  | _ => .bad
end Ev
namespace Ev
open PySem
/-- sum of a list, of a tuple -/
def eSumA (a : XE) : XE := fun c s h => (a c s h).bind fun x h1 => match itemsOf h1 x with
  | some xs => gSum xs h1
  | none => .bad
end Ev
end

section
set_option Elab.async false
set_option linter.all false
set_option maxRecDepth 100000
set_option maxHeartbeats 2000000
/-! Ev: sorted(l, key=lambda x: ..), read. -/
namespace Ev
open PySem PySem.Spec PyProof.Rows L2

/-! ### a built-in function called with keywords, in a state -/
def CallRS (X : Cx) (f : Value) (ks : List Str) (r : L2.St → List V → List V → Hp → VK → Prop) : Prop :=
  ∀ (pins : List (Addr × Obj)) (s : Shared) (σ : L2.St) (H : Hp) (xs zs : List V) (us ws : List Value) (Q : VK), Inv X pins σ H s → Vals xs us → Vals zs ws → r σ xs zs H Q → wpAny (model X.prog X.w) X.A (call f us (ks.zip ws)) (EP X pins σ Q) X.xe s
def tCKS (r : L2.St → List V → List V → Hp → VK → Prop) (t tk : TA) : TE := fun σ H Q => t σ H fun vs H1 => tk σ H1 fun zs H2 => r σ vs zs H2 Q
section
variable {X : Cx} {x : Str} {p pos apos cpos : Pos} {e o : Expr} {es : List Expr} {kws : List Keyword} {t tk : TA} {id : String} {ks : List Str} {r : L2.St → List V → List V → Hp → VK → Prop}
theorem pe_callBS (hc : CallRS X (.builtin id) ks r) (hg : Gl X x) (hm : X.mg x = none) (hv : bootBuiltins x = some (.builtin id)) (ha : PA X (e :: es) t) (hk : PK X kws tk) (hn : x ≠ "__name__" := by decide) (hdb : (x == ("__debug__" : Str)) = false := by decide)
    (he : backTo pos (starEach (e :: es) X.env) = (false, eval e X.env) :: backTo pos (starEach es X.env) := by rfl) (hpl : (backTo pos (starEach (e :: es) X.env)).any (·.1) = false := by rfl)
    (hall : (backToKw pos (keywordEach kws X.env)).all (·.1.isSome) = true := by rfl) (hnone : (backToKw pos (keywordEach kws X.env)).any (·.1.isNone) = false := by rfl) (hks : (backToKw pos (keywordEach kws X.env)).filterMap (·.1) = ks := by rfl) :
    PE X (.Call (.Name x p) (e :: es) kws pos) (tCKS r t tk) := by
  refine ⟨fun pins s σ H Q I h => ?_⟩
  refine wpAny_Call_Name_kw (ld_blt I hg hm hv ?_ hn hdb)
  refine PyProof.Rows.callWith_kw (thn (ha.run pos pins s σ H _ I h) fun us s1 ⟨vs, H1, I1, r1, q1⟩ => thn (hk.run pos pins s1 σ H1 _ I1 q1) fun ws s2 ⟨zs, H2, I2, r2, q2⟩ => ?_) he hpl hall hnone
  rw [hks]
  exact hc pins s2 σ H2 vs zs us ws Q I2 r1 r2 q2
end

/-! ### the lambda as a value -/
/-- the lambda stands at f, its code object at c' -/
def LmF (X : Cx) (params : Arguments) (body : Expr) (scope : Scope) (f c' : Addr) (H : Hp) : Prop := ∃ (oc : Obj) (cvs : Array Value) (t : Tok) (pm ctv : Value),
  H f = some (ObO f (PySem.W.kla_obj "<lambda>" (X.env.qual ++ "<lambda>") params body scope (cloFrom X.env.cells scope.names []) pm c' ctv)) ∧ H c' = some (.frz oc (.own 0)) ∧ oc.data = .fields cvs ∧ cvs[1]? = some (.str (X.env.qual ++ "<lambda>") t)
def tLm (X : Cx) (p : Pl) (P : Addr) (params : Arguments) (body : Expr) (scope : Scope) : TE := fun _ H Q => ∃ m z, TbOk p.C.tb m z H ∧ (∀ n, n < z → H (m.a n) ≠ none ∧ H (m.d n) ≠ none) ∧
  ∀ f c' H1 u, Grow P H H1 → TbOk p.C.tb m z H1 → H1 f = none → (∀ n, n < z → c' ≠ m.a n ∧ c' ≠ m.d n) → (∃ o, u = ObO f o) → LmF X params body scope f c' (upd H1 f u) → Q (.ref f) (upd H1 f u)
theorem pe_lmF {G : GT} {p : Pl} {sc : Sc} {k : Nat} {W : WX} {X : Cx} {ls : List (Nat × Nat)} {c P : Addr} {params : Arguments} {body : Expr} {scope : Scope} {pos : Pos} {x : Str} (cx : ECx G p k sc W X) (hcode : X.env.code = .ref c) (TB : LamX.TabB X.base X.mg c P)
    (hm : (⟨P, X.env.qual ++ "<lambda>", ls⟩ : Tb) ∈ p.C.tb) (hl : isLam ls pos = true) (hdef : defaultsOf params X.env = ([], [])) (L : LamS1 X.env.scope scope x) : PE X (.Lambda params body scope pos) (tLm X p P params body scope) := by
  refine ⟨fun pins s σ H Q I h => ?_⟩
  obtain ⟨m, z, hT, lv, h⟩ := h
  refine lam_makeF I TB hcode hm cx.g.tbu hT lv hl hdef (L.has I.ok) fun f c' oc vs t pm ctv H1 s' hG hT1 hf hsp hco hd hv I1 => ?_
  have ne : c' ≠ f := ne_of_none hco hf
  exact ⟨.ref f, _, I1, rfl, h f c' H1 _ hG hT1 hf hsp ⟨_, rfl⟩ ⟨oc, vs, t, pm, ctv, upd_same, by rw [upd_ne ne]; exact hco, hd, hv⟩⟩

/-! ### sorted -/
def rSortL (X : Cx) (params : Arguments) (body : Expr) (scope : Scope) (tb : TE) (ip : Nat) : L2.St → List V → List V → Hp → VK → Prop := fun σ vs zs H Q => ∃ l xs f c', vs = [V.ref l] ∧ zs = [V.ref f] ∧ SqL X.K H l xs ∧ LmF X params body scope f c' H ∧
  tKeys tb (LmF X params body scope f c') σ ip xs H (KeysQ X xs Q)
theorem cr_sortL {X : Cx} {params : Arguments} {body : Expr} {scope : Scope} {tb : TE} {ip j : Nat} {x : Str} (nd : X.N.Nodup) (L : LamS1 X.env.scope scope x) (hr : Room (j + 1) X.A.in1.in1) (hN : X.N[ip]? = some x)
    (hbind : ∀ (q : Str) (cl : List (Str × Addr)) (pm cv ctv u : Value), bindArgs (PySem.W.kla_fn "<lambda>" q params body scope cl pm cv ctv) ⟨[u], []⟩ = pure [(x, u)])
    (hb : ∀ (s : Shared) (H : Hp) (f c' : Addr), Room j (X.A.in1.in1.deeper (LamX.lamEnv X scope s.heap.objs.size f c')) → PE (lamC X X.A.in1.in1 s H scope f c') body tb) : CallRS X (.builtin "sorted") [Str.ofString "key"] (rSortL X params body scope tb ip) := by
  intro pins s σ H vs0 zs us ws Q I r1 r2 h
  obtain ⟨l, xs, f, c', rfl, rfl, hsq, hlm, ht⟩ := h
  obtain ⟨u, rfl, ru⟩ := vals1 r1
  obtain ⟨w', rfl, rw'⟩ := vals1 r2
  cases ru
  cases rw'
  obtain ⟨vs, rv, pl, hz⟩ := I.list hsq
  have hvl : vs.length ≤ sizeLine := by
    rw [← rv.length]
    exact hz
  refine PySem.W.sorted_of_sort pl.isList hvl (PyProof.Rows.ksk_s1 _ _) (fun y => PyProof.Rows.ksk_l1 _ _) fun E' => ?_
  show wpAny _ _ (Builtin.«list.sort» ⟨[.ref (s.heap.objs.size + 1)], [(Str.ofString "key", .ref f)]⟩) _ _ _
  rw [PyProof.Rows.ksk_t1]
  have fa : Fp0 X pins (s.heap.objs.size + 1) := Fp0.of I (Nat.le_succ _)
  have ua : H (s.heap.objs.size + 1) = none := I.hok.fresh (Nat.le_succ _)
  have ho := PySem.W.copyHeap_at s.heap vs
  have I1 : Inv X pins σ H { s with heap := PySem.W.copyHeap s.heap vs } := I.kept (t' := s.toks) fun b o e => PySem.W.copyHeap_old e
  have ha : s.heap.objs.size + 1 < (PySem.W.copyHeap s.heap vs).objs.size := Heap.lt_size ho
  obtain ⟨e1, ho1⟩ : ∃ e1, ((PySem.W.copyHeap s.heap vs).update (s.heap.objs.size + 1) (Obj.mapSeq fun _ => (#[] : Array Value))).get? (s.heap.objs.size + 1) = some (seqObj "list" #[] e1) := ⟨_, get?_update_seq ho fun _ => #[]⟩
  have sb := Heap.SameBut.update (PySem.W.copyHeap s.heap vs) (s.heap.objs.size + 1) (Obj.mapSeq fun _ => (#[] : Array Value))
  unfold PyProof.Rows.ksk_tree
  refine wpAny_bind (listItems_at ho rfl ?_)
  refine wpAny_bind (listUpdate_at ho rfl ?_ (by rw [List.size_toArray]; exact hvl) (Nat.zero_le _))
  have I2 := I1.turned (t' := s.toks) (it := s.heap.objs.size + 1) (h' := (PySem.W.copyHeap s.heap vs).update (s.heap.objs.size + 1) (Obj.mapSeq fun _ => (#[] : Array Value))) (fun b o hb e => (sb.2 b hb).trans e) ua fa.ne (.inr fa.yo) fa.nc fa.np
  refine wpAny_bind (seqEpoch_at ho1 rfl ?_)
  refine wpAny_bind (wpAny_newTuple ?_ (by show vs.length ≤ _; exact hvl))
  refine wpAny_bind (wpAny_newList ?_ (Nat.zero_le _))
  refine wpAny_holding ?_
  have I3 := I2.kept (t' := s.toks) (h' := ((PySem.W.copyHeap s.heap vs).update (s.heap.objs.size + 1) (Obj.mapSeq fun _ => (#[] : Array Value))).push (seqObj "tuple" vs.toArray 0)) fun b o e => Heap.get?_push_of_some _ e
  have I4 := I3.kept (t' := s.toks) (h' := (((PySem.W.copyHeap s.heap vs).update (s.heap.objs.size + 1) (Obj.mapSeq fun _ => (#[] : Array Value))).push (seqObj "tuple" vs.toArray 0)).push (seqObj "list" #[] 0)) fun b o e => Heap.get?_push_of_some _ e
  have fk : Fp0 X pins (((PySem.W.copyHeap s.heap vs).update (s.heap.objs.size + 1) (Obj.mapSeq fun _ => (#[] : Array Value))).push (seqObj "tuple" vs.toArray 0)).objs.size := Fp0.of I3 (Nat.le_refl _)
  have uk : H (((PySem.W.copyHeap s.heap vs).update (s.heap.objs.size + 1) (Obj.mapSeq fun _ => (#[] : Array Value))).push (seqObj "tuple" vs.toArray 0)).objs.size = none := I3.hok.fresh (Nat.le_refl _)
  refine keyI_rest (A := X.A.in1.in1) (tb := tb) (Fc := LmF X params body scope f c') (ip := ip) I4 fa fk ?_ (Heap.get?_push_size _ rfl) (Heap.get?_push_of_some _ (Heap.get?_push_of_some _ ho1)) ua uk rv hvl (by have := hr.un; omega) ?_ hlm ht
  · rw [Heap.size_push, Heap.size_update]
    exact Nat.ne_of_gt (Nat.lt_succ_of_lt ha)
  · intro v u pins' s' H' Qv I' rvu hF htb
    obtain ⟨oc, cvs, t, pm, ctv, h1, h2, h3, h4⟩ := hF
    exact lam_call1 (E := fun _ _ => False) I' nd L I'.ok.frames hr hN rvu h1 h2 h3 h4 (hbind _ _ _ _ _ _) (fun hr2 => hb s' H' f c' hr2) htb

/-- the context of the lambda's body -/
def lamSc (sc : Sc) (scope : Scope) : Sc := ⟨sc.N, scope, fun _ => false, none, false⟩
theorem ecx_lam {G : GT} {p : Pl} {sc : Sc} {k : Nat} {W : WX} {X : Cx} {A : Around} (cx : ECx G p k sc W X) (s : Shared) (H : Hp) (scope : Scope) (f c' : Addr) (hr : Room (6 * k + 3) (A.deeper (LamX.lamEnv X scope s.heap.objs.size f c'))) :
    ECx G p k (lamSc sc scope) (fun _ _ _ _ => False) (lamC X A s H scope f c') where
  g := cx.g
  nd := cx.nd
  n := cx.n
  sco := rfl
  fn := rfl
  calm := rfl
  room := hr
  tk := fun _ _ ⟨_, _, _, _, _, _, _, _, _, _, _, _, _, _, _, _, w⟩ => w.elim
  po := PassesOwn.never
  lam := fun _ z => by cases z
/-- the keys, reckoned -/
theorem keys_read {K : PySem.W.Frag} {p : Pl} {W : WX} {c : Calls} {fb : XE} {Fc : Hp → Prop} {s : Env} {σ : L2.St} {ip : Nat} {hE : Mem} {h0 : Mem} {m0 : Mp} {H0 : Hp} (re0 : RE m0 h0.size H0 s σ) (hF : ∀ h m H, Le h0 m0 H0 h m H → Fc H) :
    ∀ (xs ks : List PV) (vs : List V) (h : Mem) (m : Mp) (H : Hp) (Q : List V → Hp → Prop), Le h0 m0 H0 h m H → RH K p.C m h H → RPs m h.size H xs vs → keysL (fun x h => fb c (s.set ip (some x)) h) xs h = .ok ks hE →
      (∀ mE HE ksV, Le h m H hE mE HE → RH K p.C mE hE HE → RPs mE hE.size HE ks ksV → Q ksV HE) → tKeys (teOf K p W c fb) Fc σ ip vs H Q
  | [], ks, vs, h, m, H, Q, l, rh, rs, e, k => by
    cases e
    cases rs
    exact k m H [] rh.refl rh .nil
  | x :: xs, ks, vs, h, m, H, Q, l, rh, rs, e, k => by
    cases rs with
    | cons rx rs =>
      unfold keysL at e
      cases e1 : fb c (s.set ip (some x)) h with
      | bad => rw [e1] at e; cases e
      | err y h1 => rw [e1] at e; cases e
      | ok k1 h1 =>
        rw [e1] at e
        simp only at e
        cases e2 : keysL (fun x h => fb c (s.set ip (some x)) h) xs h1 with
        | bad => rw [e2] at e; cases e
        | err y h2 => rw [e2] at e; cases e
        | ok ks2 h2 =>
          rw [e2] at e
          cases e
          refine ⟨s.set ip (some x), h, m, rh, (re0.mono l).set ip rx, ?_⟩
          rw [e1]
          intro m1 H1 b l1 rh1 rb
          exact ⟨hF _ _ _ (l.trans l1), keys_read re0 hF xs ks2 _ h1 m1 H1 _ (l.trans l1) rh1 (rs.mono l1) e2 fun mE HE ksV lE rhE rk => k mE HE _ (l1.trans lE) rhE (.cons (rb.mono lE) rk)⟩

/-! ### the order -/
theorem two_isrt {α β : Type} {P : α → β → Prop} {le : α → α → Bool} {le' : β → β → Bool} (h : ∀ a b c d, P a b → P c d → le a c = le' b d) : ∀ {l : List α} {l' : List β}, PySem.W.EachIs P l l' → PySem.W.EachIs P (isrt le l) (isrt le' l')
  | _, _, .nil => .nil
  | _, _, .cons (a := a) (b := b) ab t => by
    have ih := two_isrt h t
    have key : ∀ {r : List α} {r' : List β}, PySem.W.EachIs P r r' → PySem.W.EachIs P (isrt.ins le a r) (isrt.ins le' b r') := fun {r r'} e => by
      induction e with
      | nil => exact .cons ab .nil
      | cons q t ih =>
        unfold isrt.ins
        rw [h _ _ _ _ ab q]
        split
        · exact .cons ab (.cons q t)
        · exact .cons q ih
    exact key ih
theorem ssortK_isrt : ∀ l : List (List Int × PV), ssortK l = isrt (fun a b => !llt b.1 a.1) l
  | [] => rfl
  | k :: r => by
    have ih := ssortK_isrt r
    have key : ∀ q : List (List Int × PV), sinsK k q = isrt.ins (fun a b => !llt b.1 a.1) k q := fun q => by
      induction q with
      | nil => rfl
      | cons j q ih2 =>
        unfold sinsK isrt.ins
        cases e : llt j.1 k.1 with
        | true => simp [e, ih2]
        | false => simp [e]
    show sinsK k (ssortK r) = isrt.ins _ k (isrt _ r)
    rw [ih, key]
theorem sorted_rps {m : Mp} {z : Nat} {H : Hp} {ts : List KK} {xs : List PV} {vs : List V} (rs : RPs m z H xs vs) (hl : ts.length = xs.length) : RPs m z H (sndT (ssortK (zipT ts xs))) (sortedBy vs (ts.map KK.dat)) := by
  have tot := PySem.W.sortLe_total (listOrd itemOrd) false fun q : V × PyData => PySem.W.keyToks q.2
  have e1 : (vs.zip (ts.map KK.dat)).mergeSort (PySem.W.dataLe false Prod.snd) = isrt (PySem.W.dataLe false Prod.snd) (vs.zip (ts.map KK.dat)) :=
    isrt_eq (fun a b c h1 h2 => tot.trans a b c h1 h2) (fun a b => by rcases tot.total a b with z | z <;> simp only [PySem.W.dataLe, z, Bool.true_or, Bool.or_true]) _
  have start : ∀ {ts : List KK} {xs : List PV} {vs : List V}, RPs m z H xs vs → ts.length = xs.length → PySem.W.EachIs (fun (q : V × PyData) (r : List Int × PV) => RP m z H r.2 q.1 ∧ ∃ k : KK, q.2 = k.dat ∧ r.1 = k.toks) (vs.zip (ts.map KK.dat)) (zipT ts xs) := by
    intro ts
    induction ts with
    | nil =>
      intro xs vs r hl
      cases xs with
      | nil => cases r; exact .nil
      | cons _ _ => cases hl
    | cons t ts ih =>
      intro xs vs r hl
      cases xs with
      | nil => cases hl
      | cons x xs =>
        cases r with
        | cons a b => exact .cons ⟨a, t, rfl, rfl⟩ (ih b (by simpa using hl))
  have two := two_isrt (le := PySem.W.dataLe false Prod.snd) (le' := fun a b => !llt b.1 a.1) (fun a b c d h1 h2 => by
    obtain ⟨_, k1, e1, e2⟩ := h1
    obtain ⟨_, k2, e3, e4⟩ := h2
    show (!(PySem.W.dataLt c.2 a.2)) = _
    rw [e1, e2, e3, e4, dataLt_kk]) (start rs hl)
  unfold sortedBy
  rw [e1, ssortK_isrt]
  have fin : ∀ {l : List (V × PyData)} {l' : List (List Int × PV)}, PySem.W.EachIs (fun (q : V × PyData) (r : List Int × PV) => RP m z H r.2 q.1 ∧ ∃ k : KK, q.2 = k.dat ∧ r.1 = k.toks) l l' → RPs m z H (sndT l') (l.map Prod.fst) := fun {l l'} e => by
    induction e with
    | nil => exact .nil
    | cons a b ih => exact .cons a.1 ih
  exact fin two
theorem kksOf_len {n : Nat} : ∀ {vs : List PV} {ks : List KK}, kksOf n vs = some ks → ks.length = vs.length
  | [], _, e => by cases e; rfl
  | v :: vs, ks, e => by
    unfold kksOf at e
    cases q : kkOf v with
    | none => rw [q] at e; cases e
    | some k =>
      rw [q] at e
      simp only at e
      cases q2 : Nat.beq k.kind n with
      | false => rw [q2] at e; cases e
      | true =>
        rw [q2] at e
        simp only at e
        cases q3 : kksOf n vs with
        | none => rw [q3] at e; cases e
        | some js => rw [q3] at e; cases e; exact congrArg (· + 1) (kksOf_len q3)
theorem kksAny_len {vs : List PV} {ks : List KK} (e : kksAny vs = some ks) : ks.length = vs.length := by
  cases vs with
  | nil => cases e; rfl
  | cons v vs =>
    have e : (match kkOf v with
      | none => none
      | some k => kksOf k.kind (v :: vs)) = some ks := e
    cases q : kkOf v with
    | none => rw [q] at e; cases e
    | some k => rw [q] at e; exact kksOf_len e

/-! ### the rule -/
theorem bind_one (q : Str) (cl : List (Str × Addr)) (pm cv ctv u : Value) (x : Str) (apos : Pos) (body : Expr) (scope : Scope) : bindArgs (PySem.W.kla_fn "<lambda>" q ⟨[], [⟨x, none, apos⟩], none, [], [], none, []⟩ body scope cl pm cv ctv) ⟨[u], []⟩ = pure [(x, u)] := by
  have e : List.lookup x [(x, u)] = some u := by simp [List.lookup]
  simp [bindArgs, seqItems?, e]
  rfl
section
variable {G : GT} {p : Pl} {sc : Sc} {a body : Expr} {fl : XA} {fb : XE} {pos lpos kpos ppos apos : Pos} {ls : List (Nat × Nat)} {scope : Scope} {x : Str} {ip : Nat}
theorem se_sortK (hm : ("sorted" : Str) ∈ G.free) (hg : sc.scope.names.lookup ("sorted" : Str) = some .globalImplicit) (hl : SL G p sc a fl) (hb : SE G p (lamSc sc scope) body fb) (hlam : sc.lam = some ls) (hpos : isLam ls lpos = true) (hN : sc.N[ip]? = some x) (hL : lamS1B sc.scope scope x = true)
    (hp1 : notStar a = true) : SE G p sc (.Call (.Name "sorted" ppos) [a] [⟨some "key", .Lambda ⟨[], [⟨x, none, apos⟩], none, [], [], none, []⟩ body scope lpos, kpos⟩] pos) (eSortK ip fl fb) := fun k W X cx => by
  obtain ⟨⟨c, P, hcode, TB, hmem⟩, hroom, _⟩ := cx.lam ls hlam
  have L : LamS1 X.env.scope scope x := by
    rw [cx.sco]
    exact lamS1_by hL
  have hr2 : Room (6 * k + 3 + 1) X.A.in1.in1 := ⟨hroom.hd, by have := hroom.dp; show X.A.depth + 3 * (6 * k + 3 + 1) + 5 < _; omega, by have := hroom.un; show X.A.units + 1 + 1 + 16 * (6 * k + 3 + 1) + 200 < _; omega⟩
  have hNX : X.N[ip]? = some x := by rw [cx.n]; exact hN
  have cr := cr_sortL (params := ⟨[], [⟨x, none, apos⟩], none, [], [], none, []⟩) (body := body) (tb := teOf X.K p (fun _ _ _ _ => False) (callD G.tab k) fb) (ip := ip) cx.nd L hr2 hNX (fun q cl pm cv ctv u => bind_one ..)
    (fun s H f c' hr => hb k _ _ (ecx_lam cx s H scope f c' hr))
  refine PE.imp (pe_callBS cr (glob_of cx hg) (cx.g.free _ hm) (by first | rfl | kernel_rfl) (pa_cons (hl k W X cx) pa_nil (star_no hp1)) (pk_cons (pe_lmF cx hcode TB hmem hpos rfl L) pk_nil) (by decide) (by decide) (by rw [star_no hp1]; rfl) (by rw [star_no hp1]; rfl)) ?_
  intro σ H Q h
  obtain ⟨s, h, m, rh, re, hp⟩ := h
  unfold eSortK at hp
  refine tl_bind rh re hp fun v H1 xs h1 m1 l1 rh1 re1 rl hp1 => ?_
  obtain ⟨la, vs, rfl, hsq, rs⟩ := rl
  cases cf : fits xs with
  | false => rw [cf] at hp1; exact hp1.elim
  | true =>
  rw [cf] at hp1
  simp only [cnd_true] at hp1
  cases ek : keysL (fun x h => fb (callD G.tab k) (s.set ip (some x)) h) xs h1 with
  | bad => rw [ek] at hp1; exact hp1.elim
  | err y h2 =>
    exfalso
    have key : ∀ (xs : List PV) (h1 : Mem), keysL (fun x h => fb (callD G.tab k) (s.set ip (some x)) h) xs h1 ≠ .err y h2 := fun xs h1 z => by
      cases xs with
      | nil => cases z
      | cons x xs =>
        unfold keysL at z
        split at z
        · split at z <;> cases z
        · cases z
    exact key _ _ ek
  | ok ks hE =>
  rw [ek] at hp1
  simp only [Res.bind_ok] at hp1
  cases ekk : kksAny ks with
  | none => rw [ekk] at hp1; exact hp1.elim
  | some ts =>
  rw [ekk] at hp1
  simp only at hp1
  refine ⟨m1, h1.size, rh1.tab, fun n hn => ⟨(rh1.live hn).1, (rh1.live hn).2.1⟩, fun f c' H2 u hG hT2 hf hsp hu hlm => ?_⟩
  obtain ⟨o, rfl⟩ := hu
  obtain ⟨l2, rh2⟩ := rh1.grow (rh1.tab _ hmem).1 hG hT2
  obtain ⟨l3, rh3⟩ := rh2.tmp (u := ObO f o) hf
  have l23 := l2.trans l3
  have nf : ∀ n, n < h1.size → f ≠ m1.a n ∧ f ≠ m1.d n := fun n hn => ⟨fun z => (rh2.fresh hf hn).1 z.symm, fun z => (rh2.fresh hf hn).2 z.symm⟩
  obtain ⟨ps0, _, hP0, _⟩ := hG.tab
  have hsq3 : SqL X.K (upd H2 f (ObO f o)) la vs := by
    rcases hsq with hr | ⟨o', its, n, a1, a2⟩
    · left
      have key : ∀ w, H1 la = some w → (∀ ps, w ≠ .tbl ps) → upd H2 f (ObO f o) la = some w := fun w e nt => by
        have e2 := hG.old la w (fun z => by rw [z, hP0] at e; exact nt ps0 (Option.some.inj e).symm) e
        rw [upd_ne (ne_of_none e2 hf)]
        exact e2
      rcases hr with e | ⟨o', e⟩
      · exact .inl (key _ e fun _ z => by cases z)
      · exact .inr ⟨o', key _ e fun _ z => by cases z⟩
    · exact .inr ⟨o', its, n, a1, a2⟩
  refine ⟨la, vs, f, c', rfl, rfl, hsq3, hlm, ?_⟩
  refine keys_read (h0 := h1) (m0 := m1) (H0 := upd H2 f (ObO f o)) (s := s) (σ := σ) (re1.mono l23) (fun h' m' H' l' => ?_) xs ks vs h1 m1 _ _ rh3.refl rh3 (rs.mono l23) ek fun mE HE ksV lE rhE rk => ?_
  · obtain ⟨oc, cvs, t, pm, ctv, e1, e2, e3, e4⟩ := hlm
    exact ⟨oc, cvs, t, pm, ctv, l'.frame f _ e1 nf nt_ext, l'.frame c' _ e2 hsp (fun _ z => by cases z), e3, e4⟩
  · obtain ⟨hgo, hkind⟩ := kksAny_go (h := hE) ekk
    have hdp := toD_go (toD_dp rhE 8) rk hgo
    have hlen : ts.length = ks.length := kksAny_len ekk
    have hkx : ks.length = xs.length := by
      have key : ∀ (xs ks : List PV) (h1 : Mem), keysL (fun x h => fb (callD G.tab k) (s.set ip (some x)) h) xs h1 = .ok ks hE → ks.length = xs.length := fun xs => by
        induction xs with
        | nil => intro ks h1 z; cases z; rfl
        | cons x xs ih =>
          intro ks h1 z
          unfold keysL at z
          split at z
          · rename_i k1 h2 _
            split at z
            · rename_i ks2 h3 e3
              cases z
              exact congrArg (· + 1) (ih _ _ e3)
            · cases z
          · cases z
      exact key _ _ _ ek
    refine ⟨ts.map KK.dat, hdp, by rw [rk.length, hkx, rs.length], kk_allAlike hkind, kk_sortable hkind, fun d hd => ?_, fun q hq => ?_⟩
    · obtain ⟨k1, _, rfl⟩ := List.mem_map.mp hd
      exact kk_depth k1
    · have rsE := (rs.mono l23).mono lE
      obtain ⟨lN, rhN⟩ := rhE.newL hq (sorted_rps rsE (by rw [hlen, hkx]))
      have r : RP (mE.ext hE.size q q) (hE.push (.lst (sndT (ssortK (zipT ts xs))))).size (upd HE q (.lst (sortedBy vs (ts.map KK.dat)))) (.ref hE.size) (.ref ((mE.ext hE.size q q).a hE.size)) := .ref (by rw [Mem.size_push]; omega)
      rw [Mp.ext_a] at r
      exact hp1 _ _ _ ((l23.trans lE).trans lN) rhN r
end
end Ev
end

section
set_option Elab.async false
set_option linter.all false
set_option maxRecDepth 100000
set_option maxHeartbeats 4000000
/-! Ev: next((e for t in i if c), None): a generator expression that is woken once. -/
namespace Ev
open PySem PySem.Spec PyProof.Rows L2

/-- the generator expression's scope -/
structure GenOk (N : List Str) (sc scope : Scope) (own : List (Str × Nat)) : Prop where
  blk : BlkOk N sc scope own
  co : scope.isCoroutine = false
  cell : ∀ y ∈ scope.names, y.2 ≠ .cell
  dot : scope.names.lookup (".0" : Str) = some NameKind.local
def genB (N : List Str) (sc scope : Scope) (own : List (Str × Nat)) : Bool := blkC N sc scope own && (!scope.isCoroutine && (scope.names.all (fun y => !decide (y.2 = .cell)) && kindB .local (scope.names.lookup (".0" : Str))))
theorem genOk_by {N : List Str} {sc scope : Scope} {own : List (Str × Nat)} (h : genB N sc scope own = true) : GenOk N sc scope own := by
  unfold genB at h
  simp only [Bool.and_eq_true, Bool.not_eq_true', List.all_eq_true, decide_eq_false_iff_not] at h
  obtain ⟨h1, h2, h3, h4⟩ := h
  exact ⟨blkOk_by h1, h2, h3, kindB_ok h4⟩

/-- the context of the generator's frame: s: the state ahead of it -/
def genC (X : Cx) (A : Around) (s : Shared) (H : Hp) (scope : Scope) (code : Value) (fp : List Addr) : Cx where
  prog := X.prog
  w := X.w
  K := X.K
  mg := X.mg
  base := X.base
  A := A
  N := X.N
  s_0 := s
  H_0 := H
  env := genEnv scope (cloFrom X.env.cells scope.names []) s.heap.objs.size code builtinsNs X.env
  outer := X.stack
  stack := genEnv scope (cloFrom X.env.cells scope.names []) s.heap.objs.size code builtinsNs X.env :: X.stack
  ex := fp
  fn := fun _ => false
  calm := true
  pn := []
  xe := fun _ _ => False
section
variable {X : Cx} {pins : List (Addr × Obj)} {σ : L2.St} {H : Hp} {s : Shared}
theorem gen_start {A : Around} {scope : Scope} {own : List (Str × Nat)} {code : Value} {fp : List Addr} {h' : Heap} {g' : Array GenState} {d' : Drawn} {tk : Nat} {it : Value} (I : Inv X pins σ H s) (nd : X.N.Nodup) (ok : GenOk X.N X.env.scope scope own)
    (hA : A.frames = some (genEnv scope (cloFrom X.env.cells scope.names []) s.heap.objs.size code builtinsNs X.env :: X.stack)) (hd : A.handled = none) (hfp : ∀ b ∈ fp, FpOk X pins H b ∧ b < s.heap.objs.size)
    (hns : h'.Ns s.heap.objs.size fun y => if y = ".0" then some it else none) (kp : ∀ b o, s.heap.get? b = some o → h'.get? b = some o) (hg : AllBare g') :
    Inv (genC X A s H scope code fp) [] (wipe σ (own.map (·.2))) H { s with heap := h', gens := g', drawn := d', toks := tk } := by
  have hfree : ∀ y ∈ scope.names, y.2 = .free → ∃ c, X.env.cells.lookup y.1 = some c := fun y hy e => by
    rcases ok.blk.free y hy e with k | k
    · exact I.ok.has _ (.inl k)
    · exact I.ok.has _ (.inr k)
  have cm : ∀ {y c}, (cloFrom X.env.cells scope.names []).lookup y = some c → X.env.cells.lookup y = some c := fun {y c} e => by
    rcases cloFrom_mem (PySem.mem_of_lookup e) with hm | ⟨h1, h2⟩
    · cases hm
    · obtain ⟨c1, hc⟩ := hfree _ h1 rfl
      have hc : X.env.cells.lookup y = some c1 := hc
      have e2 : c = c1 := by
        rw [h2, hc] <;> rfl
      rw [e2]
      exact hc
  have look : ∀ {y}, scope.names.lookup y = some .free → ∃ c, (cloFrom X.env.cells scope.names []).lookup y = some c := fun {y} hl => by
    have hy : (y, NameKind.free) ∈ scope.names := PySem.mem_of_lookup hl
    exact mem_lookup (cloFrom_has (cells := X.env.cells) (acc := []) hy)
  have cellK : ∀ {c : Addr} {v : Option Value}, s.heap.IsCell c v → h'.IsCell c v := fun {c v} ⟨o, ho, hd⟩ => ⟨_, kp _ _ ho, hd⟩
  have okB : (genC X A s H scope code fp).Ok := by
    refine ⟨I.ok.mod, ok.blk.kind, I.ok.glob, rfl, Nat.le_refl _, fun y z c e1 e2 => I.ok.inj y z c (cm e1) (cm e2), fun y hy => ?_, fun y c z _ => ?_, fun _ => hd, hA, .inr ⟨rfl, rfl⟩, fun b hb => ⟨Nat.ne_of_lt (hfp b hb).2, fun y c e z => ?_⟩,
      I.bs, Nat.le_trans I.ok.bsz I.sz, fun b o e hb => ?_, fun b hb z => ?_, I.stack, I.stkFree⟩
    · have hy : scope.names.lookup y = some .cell ∨ scope.names.lookup y = some .free := hy
      rcases hy with hy | hy
      · exact absurd rfl (ok.cell _ (PySem.mem_of_lookup hy))
      · exact look hy
    · have z : false = true := z
      cases z
    · exact (hfp b hb).1.2.2.2.2.1 y c (cm e) z
    · rcases (hfp b hb).1.2.2.2.1 with z | z
      · exact I.ok.noex b o e z
      · exact absurd (Nat.lt_of_lt_of_le (Heap.lt_size e) (Nat.le_trans I.ok.bsz z)) (Nat.lt_irrefl _)
    · rcases List.mem_cons.mp (I.stkSub b z) with z | z
      · exact (hfp b hb).1.2.1 z
      · exact (hfp b hb).1.2.2.1 z
  refine ⟨okB, rfl, hg, Un.kept kp, ⟨_, hns, fun i y w e1 e2 e3 => ?_⟩, fun y c e => ?_, I.hok.fresh (Nat.le_refl _), fun y c e => ?_, fun q hq => absurd (show q ∈ ([] : List (Addr × Obj)) ++ [] from hq) (by simp), I.hok.kept kp, by rw [wipe_length]; exact I.len⟩
  · obtain ⟨e2, hne⟩ := wipe_some e2
    have e3 : Vis scope y := e3
    have e1 : X.N[i]? = some y := e1
    have noOwn : ∀ k, scope.names.lookup y = some k → (k = .local ∨ k = .cell) → False := fun k hk hh => by
      rcases ok.blk.own _ (PySem.mem_of_lookup hk) hh with h | h
      · obtain ⟨q, hq, eq⟩ := List.mem_map.mp h
        have hi := ok.blk.ix q hq
        rw [eq] at hi
        refine hne (List.mem_map.mpr ⟨q, hq, ?_⟩)
        obtain ⟨l1, q1⟩ := List.getElem?_eq_some_iff.mp hi
        obtain ⟨l2, q2⟩ := List.getElem?_eq_some_iff.mp e1
        exact nodup_ix nd (q1.trans q2.symm)
      · exact h (List.mem_of_getElem? e1)
    rcases e3 with k | k | k
    · exact (noOwn _ k (.inl rfl)).elim
    · exact (noOwn _ k (.inr rfl)).elim
    · obtain ⟨m, hn, hl⟩ := I.loc
      have hvis : Vis X.env.scope y := (ok.blk.free _ (PySem.mem_of_lookup k) rfl).elim (fun k => .inr (.inl k)) (fun k => .inr (.inr k))
      obtain ⟨w', r', q⟩ := hl i y w e1 e2 hvis
      obtain ⟨c2, h2⟩ := look k
      refine ⟨w', r', .inr ⟨.inr k, c2, h2, ?_⟩⟩
      have c1 := cm h2
      rcases q with ⟨k', _⟩ | ⟨_, c3, e', z⟩
      · have k' : X.env.scope.names.lookup y = some .local := k'
        rcases ok.blk.free _ (PySem.mem_of_lookup k) rfl with k2 | k2 <;> rw [show X.env.scope.names.lookup y = _ from k2] at k' <;> cases k'
      · rw [c1] at e'
        cases e'
        exact cellK z
  · obtain ⟨w', z⟩ := I.cell y c (cm e)
    exact ⟨w', cellK z⟩
  · exact I.freeC y c (cm e)
/-- behind a wake: the generators' table alone has changed -/
theorem inv_gens {g' : Array GenState} (I : Inv X pins σ H s) (hg : AllBare g') : Inv X pins σ H { s with gens := g' } :=
  I.call (h' := s.heap) (g' := g') (d' := s.drawn) (t' := s.toks) (ch := []) Un.refl I.hok hg fun b z => absurd z (by simp)

abbrev gCode (elt tg iter : Expr) (ifs : List Expr) (scope : Scope) (pos : Pos) (it : Addr) (env : PySem.Env) : Code := .compLoop (.GeneratorExp elt [⟨tg, iter, ifs, 0⟩] scope pos) 0 (.ref it) .none env
abbrev gStart (elt tg iter : Expr) (ifs : List Expr) (scope : Scope) (pos : Pos) (it : Addr) (env : PySem.Env) : Code := .compStart (.GeneratorExp elt [⟨tg, iter, ifs, 0⟩] scope pos) 0 (.ref it) .none env
abbrev gY (X : Cx) (pins : List (Addr × Obj)) (σ : L2.St) (Q : VK) : Protocol := fun _ _ v s _ => EP X pins σ Q v s
abbrev gR (X : Cx) (pins : List (Addr × Obj)) (σ : L2.St) (Q : VK) : GenEnd := fun _ _ r s => r = .ok .next ∧ EP X pins σ Q .none s
/-- the loop's turns: J the walk, W by the turn and a measure -/
def GenTurns (J : It) (g : TG) (tt : TT) (te : TE) (own : List Nat) (σ : L2.St) (Q : VK) (W : Nat → Nat → Hp → Prop) : Prop := ∀ i m H, W i m H →
  (J.stop i H ∧ Q .non H) ∨ (J.go i H ∧ ∃ Nx : Hp → Prop, (∀ H', Nx H' → ∃ m', m' < m ∧ W (i + 1) m' H') ∧ ∀ x H', J.yld i H x H' → g x (wipe σ own) H' fun σ2 H2 => wipe σ2 own = wipe σ own ∧ tt σ2 H2 fun b H3 =>
    if b = true then te σ2 H3 Q else Nx H3)
theorem gen_loop {A₁ : Around} {sI s₀ : Shared} {HI : Hp} {elt tg iter : Expr} {ifs : List Expr} {scope : Scope} {own : List (Str × Nat)} {pos : Pos} {code : Value} {fp : List Addr} {it : Addr} {tn : Nat → Heap → Prop} {J : It} {g : TG} {tt : TT} {te : TE} {Q : VK} {W : Nat → Nat → Hp → Prop}
    (I : Inv X pins σ HI sI) (hco : scope.isCoroutine = false) (hfp : ∀ b ∈ fp, FpOk X pins HI b ∧ b < sI.heap.objs.size) (T : Turn X.prog X.w X.K tg J fp it tn)
    (pg : PG (genC X (A₁.over (gCode elt tg iter ifs scope pos it (genEnv scope (cloFrom X.env.cells scope.names []) sI.heap.objs.size code builtinsNs X.env)) []) sI HI scope code fp) tg g)
    (pt : PTs (genC X (A₁.over (gCode elt tg iter ifs scope pos it (genEnv scope (cloFrom X.env.cells scope.names []) sI.heap.objs.size code builtinsNs X.env)) []) sI HI scope code fp) ifs tt)
    (pe : PE (genC X (A₁.over (gCode elt tg iter ifs scope pos it (genEnv scope (cloFrom X.env.cells scope.names []) sI.heap.objs.size code builtinsNs X.env)) []) sI HI scope code fp) elt te)
    (turn : GenTurns J g tt te (own.map (·.2)) σ Q W) :
    ∀ (n i : Nat) (s5 : Shared) (H5 : Hp), Inv (genC X (A₁.over (gCode elt tg iter ifs scope pos it (genEnv scope (cloFrom X.env.cells scope.names []) sI.heap.objs.size code builtinsNs X.env)) []) sI HI scope code fp) [] (wipe σ (own.map (·.2))) H5 s5 →
      tn i s5.heap → (∀ b ∈ fp, H5 b = none) → W i n H5 →
      Seg (model X.prog X.w) A₁ (gR X pins σ Q) (gY X pins σ Q) 1 s₀ (gCode elt tg iter ifs scope pos it (genEnv scope (cloFrom X.env.cells scope.names []) sI.heap.objs.size code builtinsNs X.env))
        ((model X.prog X.w).den (gCode elt tg iter ifs scope pos it (genEnv scope (cloFrom X.env.cells scope.names []) sI.heap.objs.size code builtinsNs X.env))) [] s5 := by
  generalize hce : genEnv scope (cloFrom X.env.cells scope.names []) sI.heap.objs.size code builtinsNs X.env = ce at *
  have hsc : ce.scope = scope := by rw [← hce]; rfl
  have hfn : ∀ {A : Around}, (genC X A sI HI scope code fp).env = ce := fun {A} => hce
  generalize hZ : genC X (A₁.over (gCode elt tg iter ifs scope pos it ce) []) sI HI scope code fp = Z at pg pt pe
  have zA : Z.A = A₁.over (gCode elt tg iter ifs scope pos it ce) [] := by rw [← hZ]; rfl
  have zp : Z.prog = X.prog := by rw [← hZ]; rfl
  have zw : Z.w = X.w := by rw [← hZ]; rfl
  have zK : Z.K = X.K := by rw [← hZ]; rfl
  have zc : Z.calm = true := by rw [← hZ]; rfl
  have zx : Z.xe = fun _ _ => False := by rw [← hZ]; rfl
  have zn : Z.env = ce := by rw [← hZ]; exact hce
  have back : ∀ {σ' : L2.St} {H' : Hp} {s' : Shared} {pl : List (Addr × Obj)}, Inv Z pl σ' H' s' → Inv X pins σ H' s' := fun {σ' H' s' pl} I' => by
    rw [← hZ] at I'
    exact I.call' (ch := fp) I'.os I'.base I'.hok I'.bare fun b hb => ⟨(hfp b hb).1.2.2.2.1, (hfp b hb).1.2.1, (hfp b hb).1.2.2.2.2.1, (hfp b hb).1.2.2.2.2.2⟩
  have zpn : Z.pn = [] := by rw [← hZ]; rfl
  have zex : Z.ex = fp := by rw [← hZ]; rfl
  have stat : ∀ {σ' : L2.St} {H' : Hp} {s' : Shared}, Inv Z [] σ' H' s' → (∀ b ∈ fp, H' b = none) → ∀ b ∈ fp, FpOk Z [] H' b := fun {σ' H' s'} I' hn b hb => by
    have hb' : b ∈ Z.ex := by rw [zex]; exact hb
    refine ⟨hn b hb, (I'.ok.exf b hb').1, I'.ok.exfs b hb', .inl hb', fun x c e => (I'.ok.exf b hb').2 x c e, fun p hp => ?_⟩
    rw [zpn] at hp
    cases hp
  intro n
  induction n using Nat.strongRecOn with
  | ind n ih =>
    intro i s5 H5 I5 st5 n5 w5
    show Seg _ A₁ _ _ _ s₀ _ ((compTurn (.GeneratorExp elt [⟨tg, iter, ifs, 0⟩] scope pos) 0 (.ref it) .none ce).onRaise (leaving ce)) [] s5
    rw [compTurn_gen, Sem.onRaise_eq_wrap]
    refine seg_bind_wrap (wpAny_standAt ?_)
    rcases turn i n H5 w5 with ⟨stop, qq⟩ | ⟨go, Nx, hNx, step⟩
    · have td := T.done Z zp zw zK zc i [] s5 _ H5 (fun _ _ => False) I5 (stat I5 n5) st5 stop
      rw [zA] at td
      refine seg_bind_wrap (wpAny_mono td (fun r s6 ⟨hr, I6⟩ => ?_) fun _ _ z => z.elim)
      subst hr
      exact seg_end (.ok .next) ⟨rfl, .non, H5, back I6, rfl, qq⟩
    · have ti := T.item Z zp zw zK zc i [] s5 _ H5 (fun _ _ => False) I5 (stat I5 n5) st5 go
      rw [zA] at ti
      refine seg_bind_wrap (wpAny_mono ti (fun r s6 ⟨u, hr, h6⟩ => ?_) fun _ _ z => z.elim)
      subst hr
      refine seg_bind_wrap (wpAny_mono h6 (fun _ s7 ⟨x, H7, I7, r7, y7, st7, n7⟩ => ?_) fun _ _ z => z.elim)
      have I7' := I7.pinned (stat I7 n7) (T.obj _ _ st7)
      have pgr := pg.run _ s7 _ H7 x u _ I7' r7 (step x H7 y7)
      rw [zA, zp, zw, zx, zn] at pgr
      refine seg_bind_wrap (wpAny_mono pgr (fun _ s8 ⟨σ8, H8, I8, hw8, q8⟩ => ?_) fun _ _ z => z.elim)
      have ptr := pt.run _ s8 σ8 H8 _ I8 q8
      rw [zA, zp, zw, zx, zn] at ptr
      refine seg_bind_wrap (wpAny_mono ptr (fun b s9 ⟨H9, I9, q9⟩ => ?_) fun _ _ z => z.elim)
      cases b with
      | false =>
        simp only [Bool.false_eq_true, if_false] at q9 ⊢
        obtain ⟨m', hm, w'⟩ := hNx H9 q9
        have pin' : ∀ b ∈ fp, ∀ o, s7.heap.get? b = some o → s9.heap.get? b = some o ∧ H9 b = none := fun b hb o e =>
          let z := I9.pin (b, o) (List.mem_append_right _ (List.mem_append_right _ (mem_pinsAt hb e)))
          ⟨z.1, z.2.1⟩
        have hl : (wipe σ (own.map (·.2))).length = σ8.length := by rw [← hw8, wipe_length]
        refine seg_again rfl (ih m' hm (i + 1) s9 H9 ?_ (T.keep _ _ _ st7 fun b hb o e => (pin' b hb o e).1) (fun b hb => ?_) w')
        · refine (I9.unpinned (pins := [])).weak hl (fun j v e => ?_)
          rw [← hw8] at e
          exact (wipe_some e).1
        · obtain ⟨o, e, _⟩ := T.obj _ _ st7 b hb
          exact (pin' b hb o e).2
      | true =>
        simp only [if_true] at q9 ⊢
        have hy : ∀ v, yieldOut ce v = yieldValue v := fun v => by simp only [yieldOut, hsc, hco, Bool.false_eq_true, if_false]
        simp only [hy]
        rw [Sem.bind_eq_wrap', Sem.bind_eq_wrap', Sem.wrap_wrap, Sem.wrap_wrap]
        have per := pe.run _ s9 σ8 H9 _ I9 q9
        rw [zA, zp, zw, zx, zn] at per
        refine seg_wrap (wpAny_mono per (fun y s10 ⟨yv, H10, I10, r10, q10⟩ => ?_) fun _ _ z => z.elim)
        exact seg_at (seg_yield rfl rfl rfl ⟨yv, H10, back I10, r10, q10⟩)
end
end Ev
end

section
set_option Elab.async false
set_option linter.all false
set_option maxRecDepth 100000
set_option maxHeartbeats 4000000
/-! Ev: next((e for t in i if c), None): the rule. -/
namespace Ev
open PySem PySem.Spec PyProof.Rows L2

theorem bare_setGen {s : Shared} {g : Nat} {x : GenState} (h : AllBare s.gens) (hx : x.bare = true) : AllBare (s.setGen g x).gens := fun y hy => by
  have hy : y ∈ s.gens.setIfInBounds g x := hy
  obtain ⟨i, hi, e⟩ := Array.mem_iff_getElem.mp hy
  have e2 := Array.getElem?_eq_getElem hi
  rw [e, Array.getElem?_setIfInBounds] at e2
  split at e2
  · split at e2
    · cases e2; exact hx
    · cases e2
  · obtain ⟨hi2, e3⟩ := Array.getElem?_eq_some_iff.mp e2
    exact h y (e3 ▸ Array.getElem_mem hi2)
def tNextG (p : Pl) (P : Addr) (wi : TI) (g : TG) (tt : TT) (te : TE) (own : List Nat) : TE := fun σ H Q => wi σ H fun J H1 => ∃ m z, TbOk p.C.tb m z H1 ∧ (∀ n, n < z → H1 (m.a n) ≠ none ∧ H1 (m.d n) ≠ none) ∧
  ∀ H2, Grow P H1 H2 → TbOk p.C.tb m z H2 → ∃ W, (∃ n, W 0 n H2) ∧ GenTurns J g tt te own σ Q W
theorem pe_nextG {G : GT} {p : Pl} {sc : Sc} {k : Nat} {W0 : WX} {X : Cx} {ls : List (Nat × Nat)} {c P : Addr} {elt tg iter : Expr} {ifs : List Expr} {scope : Scope} {own : List (Str × Nat)} {gpos pos cpos ppos : Pos} {j : Nat} {wi : TI} {g : TG} {tt : TT} {te : TE}
    (cx : ECx G p k sc W0 X) (hcode : X.env.code = .ref c) (TB : LamX.TabB X.base X.mg c P) (hm : (⟨P, X.env.qual ++ "<lambda>", ls⟩ : Tb) ∈ p.C.tb) (hl : isLam ls gpos = false) (ok : GenOk X.N X.env.scope scope own) (hG : Gl X "next") (hmg : X.mg "next" = none) (hrm : X.A.depth + 20 < recursionLimit)
    (hi : PI X tg iter wi) (hs : ∀ x, genFold iter X.env x = pure x)
    (pg : ∀ (s : Shared) (H : Hp) (code : Value) (fp : List Addr) (env : PySem.Env) (it : Addr), PG (genC X (X.A.in1.in1.over (gCode elt tg iter ifs scope gpos it env) []) s H scope code fp) tg g)
    (pt : ∀ (s : Shared) (H : Hp) (code : Value) (fp : List Addr) (env : PySem.Env) (it : Addr), PTs (genC X (X.A.in1.in1.over (gCode elt tg iter ifs scope gpos it env) []) s H scope code fp) ifs tt)
    (pe : ∀ (s : Shared) (H : Hp) (code : Value) (fp : List Addr) (env : PySem.Env) (it : Addr), PE (genC X (X.A.in1.in1.over (gCode elt tg iter ifs scope gpos it env) []) s H scope code fp) elt te) :
    PE X (.Call (.Name "next" ppos) [.GeneratorExp elt [⟨tg, iter, ifs, 0⟩] scope gpos, .Constant .none j cpos] [] pos) (tNextG p P wi g tt te (own.map (·.2))) := by
  refine ⟨fun pins s σ H Q I h => ?_⟩
  have hd : X.A.handled = none := I.ok.hd cx.calm
  have hfree : ∀ y ∈ scope.names, y.2 = .free → ∃ c, X.env.cells.lookup y.1 = some c := fun y hy e => by
    rcases ok.blk.free y hy e with k | k
    · exact I.ok.has _ (.inl k)
    · exact I.ok.has _ (.inr k)
  refine wpAny_Call_Name_kw (ld_blt (u := .builtin "next") I hG hmg (by first | rfl | decide +kernel) ?_ (by decide) (by decide))
  refine PyProof.Rows.callWith_builtin1 ?_ rfl rfl
  show wpAny _ _ (spliced ((false, eval (.GeneratorExp elt [⟨tg, iter, ifs, 0⟩] scope gpos) X.env) :: [(false, eval (.Constant .none j cpos) X.env)])) _ _ s
  refine Calls.spliced_cons (wpAny_GeneratorExp_make ok.co (closure_ok hfree) ok.cell ok.dot ok.blk.kind (by omega) ?_ hs)
  refine thn (hi.run pins s σ H _ I h) fun xv s1 hx => thn hx fun itv s2 h2 => ?_
  obtain ⟨it, fp, tn, J, H1, e, I2, T, st2, f2, m, z, hT, lv, q⟩ := h2
  subst e
  refine ⟨I2.nolimit, ?_⟩
  obtain ⟨_, ps, hP, ht, _⟩ := hT _ hm
  have hPs : s2.heap.get? P = some { cls := .none, data := .fields ps } := I2.hok P _ hP
  have cd : PySem.W.CodeHd s2.heap c P := TB.code.keeps I2.bk
  have sz : ∀ b ∈ fp, b < s2.heap.objs.size := fun b hb => by
    obtain ⟨o, e, _⟩ := T.obj _ _ st2 b hb
    exact Heap.lt_size e
  have nfP : ∀ b ∈ fp, b ≠ P := fun b hb z => by
    have := (f2 b hb).1
    rw [z, hP] at this
    cases this
  -- behind the code object
  have cont : ∀ (code : Value) (H2 : Hp) (s3 : Shared), Inv X pins σ H2 s3 → Grow P H1 H2 → TbOk p.C.tb m z H2 → tn 0 s3.heap → (∀ b ∈ fp, FpOk X pins H2 b ∧ b < s3.heap.objs.size) →
      wpAny (model X.prog X.w) X.A (builtinsFor X.env.globals X.env.builtins) (fun bi s₄ => ∀ h' : Heap, h'.Ns s₄.heap.objs.size (fun y => if y = ".0" then some (Value.ref it) else none) → Heap.SameBut s₄.heap.objs.size (s₄.heap.push { cls := .type "frame", data := .dict #[] }) h' →
        wpAny (model X.prog X.w) X.A (spliced [(false, eval (.Constant .none j cpos) X.env)]) (fun us s6 => wpAny (model X.prog X.w) X.A (call (.builtin "next") (.ref h'.objs.size :: us)) (EP X pins σ Q) X.xe s6) X.xe { s₄ with
            gens := s₄.gens.push (.fresh (.compStart (.GeneratorExp elt [⟨tg, iter, ifs, 0⟩] scope gpos) 0 (.ref it) .none (genEnv scope (cloFrom X.env.cells scope.names []) s₄.heap.objs.size code bi X.env))),
            toks := s₄.toks + 1 + 1 + 1,
            heap := h'.push { cls := .type "generator", data := .fields #[.int s₄.gens.size 0, .str "<genexpr>" (s₄.toks + 1), .str (X.env.qual ++ "<genexpr>") (s₄.toks + 1 + 1)] } }) X.xe s3 := by
    intro code H2 s3 I3 hG2 hT2 st3 f3
    obtain ⟨W, ⟨n0, w0⟩, turn⟩ := q H2 hG2 hT2
    obtain ⟨bm, ob, b1, b2, b3, b4, b5, b6, b7, b8⟩ := TB.bm
    refine wpAny_builtinsFor (m := X.mg) (by rw [I3.ok.glob]; exact I3.mod.glob.keeps I3.bk) b1 b2 (I3.bk _ _ b5) b6 b7 b8 ?_
    intro h' hn' hs'
    have hsz : h'.objs.size = s3.heap.objs.size + 1 := by rw [hs'.1, Heap.size_push]
    have keep' : ∀ b o, s3.heap.get? b = some o → h'.get? b = some o := fun b o e => hs'.extBut b o (Nat.ne_of_lt (Heap.lt_size e)) (Heap.get?_push_of_some _ e)
    refine Calls.spliced_cons (Constant_none (Calls.spliced_nil ?_))
    -- next
    generalize hgo : ({ cls := .type "generator", data := .fields #[.int s3.gens.size 0, .str "<genexpr>" (s3.toks + 1), .str (X.env.qual ++ "<genexpr>") (s3.toks + 1 + 1)] } : Obj) = go
    have keep5 : ∀ b o, s3.heap.get? b = some o → (h'.push go).get? b = some o := fun b o e => Heap.get?_push_of_some _ (keep' b o e)
    generalize hgs : GenState.fresh (.compStart (.GeneratorExp elt [⟨tg, iter, ifs, 0⟩] scope gpos) 0 (.ref it) .none (genEnv scope (cloFrom X.env.cells scope.names []) s3.heap.objs.size code builtinsNs X.env)) = gs
    have gb : gs.bare = true := by rw [← hgs]; rfl
    have bareP : AllBare (s3.gens.push gs) := I3.bare.push gb
    have hgen : (h'.push go).IsGen h'.objs.size s3.gens.size := ⟨go, _, _, Heap.get?_push_size _ (by rw [← hgo]; rfl), by rw [← hgo], by rw [← hgo], by rw [← hgo]⟩
    refine Calls.call_function_entry (by decide +kernel) (by decide +kernel) PySem.W.kdk_entry_next (PySem.W.kdk_args_next2 _ _) ?_
    unfold Builtin.«next»
    refine wpAny_bind (m := someArgs "next" 1 2 _) (wpAny_of_eq (a := [Value.ref h'.objs.size, Value.none]) (by first | rfl | kernel_rfl!) ?_)
    dsimp only
    refine wpAny_bind (wpAny_specialOf (name := Str.ofString "__next__") hgen.typeIs slot_gen_next.lookup ?_)
    refine wpAny_ite_split (fun hab => absurd hab (by decide)) (fun _ => ?_)
    refine wpAny_bind (wpAny_pyNext_genexpQ (n := 1) (g := s3.gens.size) (gs := gs) (P := fun _ _ s₁ => EP X pins σ Q .none s₁) (Y := gY X pins σ Q) hd (I3.nolimit.keeps keep5) (by show X.A.depth < _; omega) hgen (by simp) ?_ (fun v s₁ gs' hb hv => ?_) (fun s₁ hp h'' hk => ?_))
    · have goesEq : ∀ (M : Model) (A : Around) (R : GenEnd) (Y : Protocol) (n : Nat) (r : Resume) (s : Shared), gs.Goes M A R Y n r s = (r = .send .none ∧ Seg M A R Y n s (gStart elt tg iter ifs scope gpos it (genEnv scope (cloFrom X.env.cells scope.names []) s3.heap.objs.size code builtinsNs X.env))
          (M.den (gStart elt tg iter ifs scope gpos it (genEnv scope (cloFrom X.env.cells scope.names []) s3.heap.objs.size code builtinsNs X.env))) [] s) := fun M A R Y n r s => by rw [← hgs]; rfl
      rw [goesEq]
      refine ⟨rfl, ?_⟩
      have I6 : Inv (genC X (X.A.in1.in1.over (gCode elt tg iter ifs scope gpos it (genEnv scope (cloFrom X.env.cells scope.names []) s3.heap.objs.size code builtinsNs X.env)) []) s3 H2 scope code fp) [] (wipe σ (own.map (·.2))) H2
          (({ s3 with gens := s3.gens.push gs, toks := s3.toks + 1 + 1 + 1, heap := h'.push go } : Shared).setGen s3.gens.size .running) := by
        refine gen_start (it := .ref it) I3 cx.nd ok ?_ hd f3 (hn'.push _) keep5 (bare_setGen (s := { s3 with gens := s3.gens.push gs, toks := s3.toks + 1 + 1 + 1, heap := h'.push go }) bareP rfl)
        have hf : X.A.frames = some X.stack := I3.ok.frames
        unfold Around.over
        simp only [hf]
        rfl
      have st6 : tn 0 (h'.push go) := T.keep _ _ _ st3 fun b _ o e => keep5 b o e
      have loop := gen_loop (A₁ := X.A.in1.in1) (s₀ := (({ s3 with gens := s3.gens.push gs, toks := s3.toks + 1 + 1 + 1, heap := h'.push go } : Shared).setGen s3.gens.size .running)) (pos := gpos) (code := code) (own := own) I3 ok.co f3 T (pg s3 H2 code fp _ it) (pt s3 H2 code fp _ it) (pe s3 H2 code fp _ it) turn n0 0 _ H2 I6 st6 (fun b hb => (f3 b hb).1.1) w0
      show Seg _ _ _ _ _ _ _ ((compStart (.GeneratorExp elt [⟨tg, iter, ifs, 0⟩] scope gpos) 0 (.ref it) .none (genEnv scope (cloFrom X.env.cells scope.names []) s3.heap.objs.size code builtinsNs X.env)).onRaise (leaving (genEnv scope (cloFrom X.env.cells scope.names []) s3.heap.objs.size code builtinsNs X.env))) [] _
      unfold compStart
      rw [Sem.onRaise_eq_wrap]
      show Seg _ _ _ _ _ _ _ ((ask >>= _).wrap _ _ _ _) [] _
      refine seg_bind_wrap (wpAny_askSetting ?_)
      split
      · exact seg_again rfl loop
      · first
          | exact seg_bind_wrap (wpAny_rule (seg_bind_wrap (wpAny_standAt (seg_bind_wrap (T.self _ 0 _ _ _ st6 (seg_again rfl loop))))))
          | (refine seg_bind_wrap (wpAny_rule ?_); show Seg _ _ _ _ _ _ _ ((standAt iter.pos >>= _).wrap _ _ _ _) [] _; exact seg_bind_wrap (wpAny_standAt (seg_bind_wrap (T.self _ 0 _ _ _ st6 (seg_again rfl loop)))))
    · obtain ⟨y, H3, I7, r7, q7⟩ := hv
      exact wpAny_pure ⟨_, rfl, y, H3, inv_gens I7 (bare_setGen I7.bare hb), r7, q7⟩
    · obtain ⟨y, H3, I7, r7, q7⟩ := hp
      exact wpAny_pure ⟨_, rfl, y, H3, (inv_gens I7 (bare_setGen (g := s3.gens.size) (x := .finished) I7.bare rfl)).kept (t' := s₁.toks) hk, r7, q7⟩
  cases hf : codeAmong gpos ps.toList with
  | none =>
    refine wpAny_genexprCodeX hcode (cd.code hPs ht) (cd.tab hPs) hf fun c' h' tk hx hge hlt hco' hrec htab' _ => ?_
    obtain ⟨c2, oc, vs, t, e2, hoc, hdd, hv⟩ := hrec
    cases e2
    have nC : H1 c' = none := I2.hok.fresh hge
    obtain ⟨hT1, hG1⟩ := hT.add (oc := oc) (pos := gpos) hm cx.g.tbu lv hP ht nC fun z => by rw [hl] at z; cases z
    have I3 := inv_tableF (t' := tk) (more := #[rawInt gpos.line, rawInt gpos.col, .ref c']) (h' := h') I2 hP hx htab'.2 hge hoc
    refine cont _ _ _ I3 hG1 hT1 (T.keep _ _ _ st2 fun b hb o e => hx b o (nfP b hb) e) fun b hb => ?_
    have hb2 := sz b hb
    refine ⟨⟨?_, (f2 b hb).2⟩, Nat.lt_of_lt_of_le hb2 (Nat.le_trans hge (Nat.le_of_lt hlt))⟩
    rw [upd_ne (Nat.ne_of_lt (Nat.lt_of_lt_of_le hb2 hge)), upd_ne (nfP b hb)]
    exact (f2 b hb).1
  | some cv =>
    refine wpAny_genexprCode_hit hcode (cd.code hPs ht) hf ?_
    exact cont cv H1 s2 I2 (Grow.refl hP) hT st2 fun b hb => ⟨f2 b hb, sz b hb⟩
end Ev
end

section
set_option Elab.async false
set_option linter.all false
set_option maxRecDepth 100000
set_option maxHeartbeats 4000000
/-! Ev: next((e for t in i if c), None), read. -/
namespace Ev
open PySem PySem.Spec PyProof.Rows L2

theorem ng_read {K : PySem.W.Frag} {p : Pl} {P : Addr} {q : Str} {ls0 : List (Nat × Nat)} {W : WX} {c : Calls} {fi : XI} {g : Tg} {t : XT} {fe : XE} {own : List Nat} {σ : L2.St} {H : Hp} {Q : VK} (hm : (⟨P, q, ls0⟩ : Tb) ∈ p.C.tb) (hin : tgIn own g) (h : teOf K p W c (eNext own fi g t fe) σ H Q) :
    tNextG p P (tiOf K p W c fi) (ctR K g) (ttOf K p (fun _ _ _ _ => False) c t) (teOf K p (fun _ _ _ _ => False) c fe) own σ H Q := by
  obtain ⟨s, h, m, rh, re, hp⟩ := h
  refine ⟨s, h, m, rh, re, ?_⟩
  unfold eNext at hp
  cases ei : fi c s h with
  | bad => rw [ei] at hp; exact hp
  | err x h1 => rw [ei] at hp; exact hp
  | ok q' h1 =>
    rw [ei] at hp
    simp only [Res.bind_ok] at hp
    obtain ⟨xs, ls⟩ := q'
    intro m1 H1 J l1 rh1 wk
    simp only at hp wk
    rw [wipeV_eq] at hp
    refine ⟨m1, h1.size, rh1.tab, fun n hn => ⟨(rh1.live hn).1, (rh1.live hn).2.1⟩, fun H2 hG hT2 => ?_⟩
    have rh1L := rh1.lock wk.loc
    obtain ⟨l2, rh2⟩ := rh1L.grow (rh1.tab _ hm).1 hG hT2
    obtain ⟨l2', _⟩ := rh1.grow (rh1.tab _ hm).1 hG hT2
    generalize hf : (fun (x : PV) (h : Mem) => (tgG g c x (wipeE s own) h).bind fun s' h1 => (t c s' h1).bind fun b h2 => match b with
      | true => (fe c s' h2).bind fun y h3 => .ok (some y) h3
      | false => .ok none h2) = f at hp
    cases er : noErr (firstT f xs (h1.lock ls)) with
    | bad => rw [er] at hp; exact hp.elim
    | err x h2 => rw [er] at hp; unfold noErr at er; split at er <;> cases er
    | ok o hE =>
      rw [er] at hp
      simp only [Res.bind_ok] at hp
      have er := noErr_ok er
      refine ⟨fun i mz H3 => ∃ h3 m3, i ≤ xs.length ∧ mz = xs.length - i ∧ Le (h1.lock ls) m1 H1 h3 m3 H3 ∧ RH K p.C m3 h3 H3 ∧ firstT f (xs.drop i) h3 = .ok o hE, ⟨xs.length, h1.lock ls, m1, Nat.zero_le _, rfl, l2, rh2, by simpa using er⟩, ?_⟩
      rintro i mz H3 ⟨h3, m3, hi, rfl, l3, rh3, et⟩
      by_cases hlt : i < xs.length
      · have ex : xs[i]? = some xs[i] := List.getElem?_eq_getElem hlt
        obtain ⟨hgo, hy⟩ := wk.item i _ h3 m3 H3 ex l3.lz rh3
        rw [List.drop_eq_getElem_cons hlt] at et
        refine .inr ⟨hgo, fun H5 => ∃ h5 m5, Le (h1.lock ls) m1 H1 h5 m5 H5 ∧ RH K p.C m5 h5 H5 ∧ firstT f (xs.drop (i + 1)) h5 = .ok o hE,
          fun H5 ⟨h5, m5, l5, rh5, et5⟩ => ⟨xs.length - (i + 1), by omega, h5, m5, hlt, rfl, l5, rh5, et5⟩, fun v H4 hyv => ?_⟩
        obtain ⟨l4, rh4, rx⟩ := hy v H4 hyv
        have l04 := l3.trans l4
        have rew : RE m3 h3.size H4 (wipeE s own) (wipe σ own) := (((re.mono l1).wipe own).mono l3).mono l4
        unfold firstT at et
        cases ef : f xs[i] h3 with
        | bad => rw [ef] at et; cases et
        | err y h4 => rw [ef] at et; cases et
        | ok o1 h4 =>
          rw [ef] at et
          have ef0 := ef
          rw [← hf] at ef
          simp only at ef
          obtain ⟨s1, hg1, eg, ez⟩ := bind_ok ef
          obtain ⟨b, ht1, eb, ez⟩ := bind_ok ez
          obtain ⟨eh, _⟩ := ct_read (K := K) (Q := fun _ _ => True) rh4 rew rx eg fun _ _ => True.intro
          subst eh
          refine (ct_read (K := K) rh4 rew rx eg fun vs re5 => ⟨by rw [wipe_ct hin, wipe_wipe], s1, _, m3, rh4, re5, post_ok eb fun m6 H6 b' l6 rh6 rb => ?_⟩).2
          have eb' : b = b' := rb
          subst eb'
          have l06 := l04.trans l6
          cases b with
          | true =>
            rw [if_pos rfl]
            obtain ⟨y, h7, ey7, ez⟩ := bind_ok ez
            cases ez
            simp only at et
            cases et
            refine ⟨s1, ht1, m6, rh6, re5.mono l6, post_ok ey7 fun m8 H8 v8 l8 rh8 ry8 => ?_⟩
            exact hp m8 H8 v8 (l1.trans (l06.trans l8).unlock) (rh8.unlock ls) ry8
          | false =>
            rw [if_neg Bool.false_ne_true]
            cases ez
            simp only at et
            exact ⟨_, m6, l06, rh6, et⟩
      · have e : i = xs.length := by omega
        subst e
        rw [List.drop_length] at et
        cases et
        exact .inl ⟨wk.stop _ m3 H3 l3.lz rh3, hp m3 H3 .non (l1.trans l3.unlock) (rh3.unlock ls) .non⟩
theorem ecx_gen {G : GT} {p : Pl} {sc : Sc} {k : Nat} {W : WX} {X : Cx} {A : Around} (cx : ECx G p k sc W X) (s : Shared) (H : Hp) (scope : Scope) (code : Value) (fp : List Addr) (hr : Room (6 * k + 3) A) :
    ECx G p k (lamSc sc scope) (fun _ _ _ _ => False) (genC X A s H scope code fp) where
  g := cx.g
  nd := cx.nd
  n := cx.n
  sco := rfl
  fn := rfl
  calm := rfl
  room := hr
  tk := fun _ _ ⟨_, _, _, _, _, _, _, _, _, _, _, _, _, _, _, _, w⟩ => w.elim
  po := PassesOwn.never
  lam := fun _ z => by cases z
def noFold : Expr → Bool
  | .List .. => false
  | .Set .. => false
  | _ => true
theorem genFold_no {iter : Expr} {env : PySem.Env} (h : noFold iter = true) (x : Value) : genFold iter env x = pure x := by
  cases iter <;> first | rfl | cases h
theorem se_nextG {G : GT} {p : Pl} {sc : Sc} {ls : List (Nat × Nat)} {elt tg iter : Expr} {ifs : List Expr} {scope : Scope} {own : List (Str × Nat)} {gpos pos cpos ppos : Pos} {j : Nat} {fi : XI} {g : Tg} {t : XT} {fe : XE}
    (hf : ("next" : Str) ∈ G.free) (hgl : sc.scope.names.lookup ("next" : Str) = some .globalImplicit) (hlam : sc.lam = some ls) (hpos : isLam ls gpos = false) (hb : genB sc.N sc.scope scope own = true) (hin : tgIn (own.map (·.2)) g) (hs : noFold iter = true)
    (hi : SI G p sc tg iter fi) (hg : TgOk (lamSc sc scope) tg g) (ht : STs G p (lamSc sc scope) ifs t) (he : SE G p (lamSc sc scope) elt fe) :
    SE G p sc (.Call (.Name "next" ppos) [.GeneratorExp elt [⟨tg, iter, ifs, 0⟩] scope gpos, .Constant .none j cpos] [] pos) (eNext (own.map (·.2)) fi g t fe) := fun k W X cx => by
  obtain ⟨⟨c, P, hcode, TB, hmem⟩, hroom, _⟩ := cx.lam ls hlam
  have ok : GenOk X.N X.env.scope scope own := by
    rw [cx.n, cx.sco]
    exact genOk_by hb
  have hr : ∀ (env : PySem.Env) (it : Addr), Room (6 * k + 3) (X.A.in1.in1.over (gCode elt tg iter ifs scope gpos it env) []) := fun env it =>
    ⟨hroom.hd, by
      have e : (X.A.in1.in1.over (gCode elt tg iter ifs scope gpos it env) []).depth = X.A.depth + 0 + 1 := rfl
      have := hroom.dp
      omega, by
      have e : (X.A.in1.in1.over (gCode elt tg iter ifs scope gpos it env) []).units = X.A.units + 1 + 1 + 0 + 3 := rfl
      have := hroom.un
      omega⟩
  exact PE.imp (pe_nextG cx hcode TB hmem hpos ok (glob_of cx hgl) (cx.g.free _ hf) (by have := hroom.dp; omega) (hi k W X cx) (genFold_no hs)
    (fun s H code fp env it => ct_ok (ecx_gen cx s H scope code fp (hr env it)) hg) (fun s H code fp env it => ht k _ _ (ecx_gen cx s H scope code fp (hr env it))) (fun s H code fp env it => he k _ _ (ecx_gen cx s H scope code fp (hr env it)))) fun σ H Q h => ng_read hmem hin h
end Ev
end

section
set_option Elab.async false
set_option linter.all false
set_option maxRecDepth 100000
set_option maxHeartbeats 4000000
/-! Ev: own iterators over a list; list(range(..)). -/
namespace Ev
open PySem PySem.Spec PyProof.Rows L2

section
variable {G : GT} {p : Pl} {sc : Sc} {tg a : Expr} {fa : XE} {pos : Pos}
theorem si_anyO {tab : List (Nat × Nat)} (ht : ∀ q ∈ tab, q ∈ G.its) (ha : SE G p sc a fa) : SI G p sc tg a (iAnyO tab fa) := fun k W X cx => by
  refine ⟨fun pins s σ H R I h => ?_⟩
  obtain ⟨sv, h, m, rh, re, hp⟩ := h
  unfold iAnyO at hp
  refine thn ((ha k W X cx).run pins s σ H (fun v H1 => ∃ x h1 m1, Le h m H h1 m1 H1 ∧ RH X.K p.C m1 h1 H1 ∧ RP m1 h1.size H1 x v ∧ fa (callD G.tab k) sv h = .ok x h1) I ⟨sv, h, m, rh, re, ?_⟩) fun u s1 ⟨v, H1, I1, rv, x, h1, m1, l, rh1, rx, ef⟩ => ?_
  · cases e : fa (callD G.tab k) sv h with
    | bad => rw [e] at hp; exact hp.elim
    | err y h1 => rw [e] at hp; exact hp
    | ok x h1 => exact fun m1 H1 b l rh1 rx => ⟨x, h1, m1, l, rh1, rx, rfl⟩
  rw [ef] at hp
  simp only [Res.bind_ok] at hp
  have key : ∀ (r : Nat) (xs : List PV), r < h1.size → h1.get r = some (.lst xs) ∨ h1.get r = some (.scr xs) → WSq X.K p h1 m1 H1 [r] true (m1.a r) xs := fun r xs hr e => by
    refine ⟨fun n hn => ?_, fun h2 m2 H2 lz rh2 => ?_⟩
    · cases hn with
      | head => exact hr
      | tail _ z => cases z
    · have e2 : h2.get r = h1.get r := lz.lkd r (by simp)
      have ka := (lz.keep r hr).1
      rw [← ka]
      rcases e with e | e
      · obtain ⟨_, vs, ev, rs⟩ := rh2.obj r _ (e2.trans e)
        exact ⟨vs, SqL.of ev, rs⟩
      · obtain ⟨_, _, vs, ev, _, rs⟩ := rh2.obj r _ (e2.trans e)
        exact ⟨vs, ev, rs⟩
  have seqL : ∀ (b : Bool) (a : Addr) (xs : List V), v = .ref a → Sq X.K b H1 a xs → R (match b with | true => Itl X.K a | false => Itt X.K a) H1 → wpAny (model X.prog X.w) X.A (pyIter u) (PIE X pins σ tg R) X.xe s1 := fun b a xs ev hq q => by
    subst ev
    cases rv
    cases b
    · obtain ⟨its, rv, p, hz⟩ := I1.tuple hq
      exact wpAny_pyIter_tuple (show s1.heap.IsTuple a its.toArray from p) (pi_one (tk := s1.toks) I1 _ (turn_tuple a _) ⟨_, Heap.get?_push_size _ rfl, rfl, rfl⟩ q)
    · obtain ⟨its, rv, p, hz⟩ := I1.list hq
      exact wpAny_pyIter_list p.isList (pi_one (tk := s1.toks) I1 _ (turn_list a _) ⟨_, Heap.get?_push_size _ rfl, rfl, rfl⟩ q)
  cases x <;> first | exact hp.elim | skip
  · rename_i xs
    obtain ⟨q, vs, rfl, eq, rs⟩ := rx.tup_inv
    have w : WSq X.K p h1 m1 H1 [] false q xs := ⟨fun n hn => (by cases hn), fun h2 m2 H2 lz rh2 => ⟨vs, SqT.of (lz.tups _ _ eq), rs.weak lz.lw⟩⟩
    exact seqL false q vs rfl (SqT.of eq) (hp m1 H1 _ l rh1 (Walks.sq w))
  · rename_i r
    obtain ⟨rfl, hr⟩ := rx.ref_inv
    cases eo : h1.get r with
    | none => simp only [eo] at hp; exact hp.elim
    | some o =>
      simp only [eo] at hp
      cases o with
      | lst xs =>
        obtain ⟨vs, hq⟩ := (key r _ hr (.inl eo)).now rh1
        exact seqL true _ vs rfl hq (hp m1 H1 _ l rh1 (Walks.sq (key r _ hr (.inl eo))))
      | dic kvs =>
        obtain ⟨_, o, ws, eH, rk⟩ := rh1.obj r _ eo
        obtain rfl : u = Value.ref (m1.a r) := rv
        obtain ⟨es, ep, hgd, hs, hx, hdt, hsz, ent⟩ := dx_raw I1 eH
        exact iter_keys hs hgd hx hdt (pi_one (tk := s1.toks) I1 _ (turn_keysX _ hdt) ⟨_, Heap.get?_push_size _ rfl, rfl, rfl⟩ (hp m1 H1 _ l rh1 (Walks.keysD hr eH rk)))
      | scr xs =>
        obtain ⟨vs, hq⟩ := (key r _ hr (.inr eo)).now rh1
        exact seqL true _ vs rfl hq (hp m1 H1 _ l rh1 (Walks.sq (key r _ hr (.inr eo))))
      | ins kc fs =>
        simp only at hp
        cases el : lookC kc tab with
        | none => simp only [el] at hp; exact hp.elim
        | some i =>
          simp only [el] at hp
          obtain ⟨g, M, F⟩ := (cx.g.itr kc i (ht _ (lookC_mem el))).ex
          cases ef2 : fs[i]? with
          | none => simp only [ef2] at hp; exact hp.elim
          | some of' =>
            cases of' with
            | none => simp only [ef2] at hp; exact hp.elim
            | some y =>
              simp only [ef2] at hp
              cases y <;> first | exact hp.elim | skip
              rename_i n
              simp only at hp
              cases en : h1.get n with
              | none => simp only [en] at hp; exact hp.elim
              | some on =>
                simp only [en] at hp
                cases on <;> first | exact hp.elim | skip
                rename_i xs
                obtain ⟨_, _, sl, hs, rs⟩ := rh1.obj r _ eo
                obtain ⟨w', ew, rw'⟩ := rs i _ ef2
                obtain ⟨rfl, hn⟩ := rw'.ref_inv
                obtain ⟨vs, hq⟩ := (key n _ hn (.inl en)).now rh1
                have hq : SqL X.K H1 (m1.a n) vs := hq
                have hR := hp m1 H1 _ l rh1 (Walks.sq (key n _ hn (.inl en)))
                obtain rfl : u = Value.ref (m1.a r) := rv
                obtain ⟨sla, od, _, J, _⟩ := SlX.slt_inst I1 hs
                obtain ⟨mf, Fr1⟩ := I1.fr
                refine PySem.W.owit_iter Fr1 I1.mod.kin J M.at_ M.fn (wpAny_call ?_)
                refine codeAny_mono (F X.A X.stack s1 H1 (m1.a r) _ (m1.a n) sl vs (fun v H' => ∃ it, v = .ref it ∧ H1 it = Option.none ∧ s1.heap.objs.size ≤ it ∧ H' = upd H1 it (ItO (m1.a n) it 0)) (cx.room.mono (by omega)) I1.env0 hs ew hq fun it h1 h2 => ⟨it, rfl, h1, h2, rfl⟩) fun r s2 hq2 => ?_
                cases r with
                | error e => exact (cx_false hq2).elim
                | ok fl =>
                  cases fl <;> first | exact False.elim hq2 | skip
                  rename_i uv
                  obtain ⟨v2, H2, I2, r2, it, rfl, hit, hlt, rfl⟩ := I1.after hq2
                  obtain rfl : uv = Value.ref it := r2
                  have eo2 := itO_get I2 upd_same
                  have hT : s2.TypeIs (.ref it) "list_iterator" := ⟨_, eo2, rfl⟩
                  unfold PySem.W.OwitIt
                  refine wpAny_specialOf (name := Str.ofString "__next__") hT slot_listiter_next.lookup ?_
                  have st : s2.heap.IsListIter it (m1.a n) 0 := ⟨_, eo2, rfl, rfl⟩
                  have hit2 : upd H1 it (ItO (m1.a n) it 0) it = some (ItO (m1.a n) it 0) := upd_same
                  have I3 := ItX.inv_drop I2 (by unfold ItO at hit2 ⊢; exact hit2)
                  have hfp := ItX.inv_fp I2 hit2 (Nat.le_trans I1.sz hlt)
                  rw [ItX.dropH_upd hit] at I3 hfp
                  refine ⟨it, [it], _, Itl X.K (m1.a n), H1, rfl, I3, turn_list (m1.a n) it, st, fun b hb => ?_, hR⟩
                  have e : b = it := by simpa using hb
                  rw [e]
                  exact hfp
end

/-! ### an own __iter__ -/
theorem itfn_of {P : Program} {w : World} {K : PySem.W.Frag} {mg : Str → Option Value} {base : Heap} {x qual : Str} {params : Arguments} {scope : Scope} {g C q : Addr} {fd : FuncData} {F : Str} {i : Nat} {p1 p2 p3 p4 p5 : Pos}
    (FD : FunD K x qual params [.Return (some (.Call (.Name "iter" p1) [.Attribute (.Name "self" p2) F p3] [] p4)) p5] scope [] [] g fd) (S : FnScope [("self" : Str)] [("self" : Str)] scope)
    (hb : ∀ (s : Shared) (u : Value), BindsTo s fd ⟨[u], []⟩ [(("self" : Str), u)]) (hgl : scope.names.lookup ("iter" : Str) = some .globalImplicit) (hm : mg "iter" = none) (sc : SlX.SCls K C) (sl1 : SlX.Slot1 K C F q i) : ItFn P w K mg base g C i := by
  intro A outer s H a dx l sl xs Q hr e0 hs hl hq k
  obtain ⟨oc, od, dV, kV, doc, pm, an, cdv, ct, osl, rfl, lk, hcd, _, _⟩ := FD.ex
  refine LamX.run_ofS (k := 2) (N := [("self" : Str)]) (ps := [("self" : Str)]) (us := [.ref a]) (vs := [.ref a]) lk hcd S hr e0 (hb s (.ref a)) (.cons rfl .nil) rfl fun hr' => ?_
  have hvis : Vis scope ("self" : Str) := by
    rcases S.par _ List.mem_cons_self with z | z
    · exact .inl z
    · exact .inr (.inl z)
  refine ⟨_, pss_one (ps_ret (pe_callB (r := ItX.rIterN K s.heap.objs.size) ItX.call_iterN (show Gl (cxOf (CX P w) P w K mg base [("self" : Str)] qual scope g cdv A outer s H (fun _ _ _ => False)) "iter" from hgl) hm (by decide +kernel) (pa_cons
    (te := fun σ H Q => ∃ a dx sl v, σ[0]? = some (some (.ref a)) ∧ SlX.Slt H a C dx sl ∧ sl[i]? = some (some v) ∧ Q v H) ⟨fun pins s σ H Q I h => ?_⟩ pa_nil))), ?_⟩
  · obtain ⟨a, dx, sl, v, e1, e2, e3, q⟩ := h
    refine attr_of rfl (thn ((pe_var (pos := p2) (i := 0) (x := ("self" : Str)) rfl hvis (by decide) (by decide)).run pins s σ H (fun v H1 => v = .ref a ∧ H1 = H) I ⟨.ref a, e1, rfl, rfl⟩) fun u s1 ⟨v1, H1, I1, r1, ev, eH⟩ => ?_)
    subst ev eH
    obtain rfl : u = Value.ref a := r1
    exact SlX.getslot_ok I1 e2 sc sl1 e3 fun u' s2 I2 ru => ⟨v, _, I2, ru, q⟩
  · exact ⟨a, dx, sl, .ref l, rfl, hs, hl, l, xs, rfl, hq, k⟩

/-! ### list(range(e)) -/
theorem upto_rps {m : Mp} {z : Nat} {H : Hp} : ∀ (n : Nat) (lo : Int), RPs m z H (upto lo 1 n) ((List.range n).map fun i => V.int (lo + (i : Nat)))
  | 0, _ => .nil
  | n + 1, lo => by
    rw [List.range_succ_eq_map, List.map_cons, List.map_map]
    have e : (List.range n).map ((fun i => V.int (lo + (i : Nat))) ∘ Nat.succ) = (List.range n).map fun i => V.int (lo + 1 + (i : Nat)) := by
      refine List.map_congr_left fun i _ => ?_
      show V.int (lo + ((i + 1 : Nat) : Int)) = _
      congr 1
      omega
    rw [e]
    have h := upto_rps (m := m) (z := z) (H := H) n (lo + 1)
    have h0 : RP m z H (.int lo) (V.int (lo + ((0 : Nat) : Int))) := by
      have : lo + ((0 : Nat) : Int) = lo := by omega
      rw [this]
      exact .int lo
    exact .cons h0 h
section
variable {G : GT} {p : Pl} {sc : Sc} {a : Expr} {fa : XE} {pos pos2 q q2 : Pos}
theorem se_lrg (hg : sc.scope.names.lookup ("list" : Str) = some .globalImplicit) (hf : ("list" : Str) ∈ G.free) (hg2 : sc.scope.names.lookup ("range" : Str) = some .globalImplicit) (hf2 : ("range" : Str) ∈ G.free) (hs : notStar a = true) (ha : SE G p sc a fa) :
    SE G p sc (.Call (.Name "list" q) [.Call (.Name "range" q2) [a] [] pos2] [] pos) (eLRg fa) := fun k W X cx =>
  PE.imp (pe_listRg cx.calm (glob_of cx hg) (cx.g.free _ hf) (prg_1 (glob_of cx hg2) (cx.g.free _ hf2) (ha k W X cx) (star_no hs))) fun σ H Q ⟨s, h, m, rh, re, hp⟩ => te_bind rh re hp fun v H1 x h1 m1 l1 rh1 re1 rx hp1 => by
    cases x <;> first | exact hp1.elim | skip
    rename_i j
    refine ⟨j, rx.int_inv, ?_⟩
    obtain ⟨c1, hp1⟩ := cnd_post hp1
    obtain ⟨c2, hp1⟩ := cnd_post hp1
    have c1 := ilt_iff.mp c1
    have c2 := ilt_iff.mp c2
    refine ⟨⟨by decide, by decide, by omega, by omega, by omega⟩, fun q hq => ?_⟩
    have e : rgV 0 j = (List.range j.toNat).map fun i => V.int (0 + (i : Nat)) := by
      unfold rgV
      rw [show j - 0 = j from by omega]
    rw [e]
    exact post_newL rh1 hq (upto_rps _ _) hp1
theorem se_sumA (hg : sc.scope.names.lookup ("sum" : Str) = some .globalImplicit) (hf : ("sum" : Str) ∈ G.free) (hs : notStar a = true) (ha : SE G p sc a fa) : SE G p sc (.Call (.Name "sum" q) [a] [] pos) (eSumA fa) := fun k W X cx => by
  refine ⟨fun pins s σ H Q I ⟨sv, h, m, rh, re, hp⟩ => ?_⟩
  refine wpAny_Call_Name_kw (ld_blt (u := .builtin "sum") I (glob_of cx hg) (cx.g.free _ hf) (by first | rfl | decide +kernel) ?_ (by decide) (by decide))
  refine PyProof.Rows.callWith_builtin1 ?_ (star_no hs) rfl
  rw [star_no hs]
  refine Calls.spliced_cons (thn ((ha k W X cx).run pins s σ H (fun v H1 => ∃ x h1 m1, RH X.K p.C m1 h1 H1 ∧ RP m1 h1.size H1 x v ∧ Post X.K p RP (fun cls d H' => W cls d σ H') h1 m1 H1 (match itemsOf h1 x with
      | some xs => gSum xs h1
      | none => .bad) Q) I
    (te_bind rh re hp fun v H1 x h1 m1 l1 rh1 re1 ra hp1 => ⟨x, h1, m1, rh1, ra, hp1⟩)) fun u s1 ⟨v, H1, I1, rv, x, h1, m1, rh1, ra, hp1⟩ => ?_)
  refine Calls.spliced_nil ?_
  cases e1 : itemsOf h1 x with
  | none => rw [e1] at hp1; exact hp1.elim
  | some xs =>
    rw [e1] at hp1
    simp only [gSum] at hp1
    cases e : intsOf xs with
    | none => rw [e] at hp1; exact hp1.elim
    | some is =>
      rw [e] at hp1
      obtain ⟨qa, vs, rfl, hl, rs⟩ := itemsOf_ok rh1 ra e1
      have q := hp1 m1 H1 _ rh1.refl rh1 (.int _)
      rw [sumI_eq] at q
      have ei := intsOf_ok rs e
      rcases hl with hl | hl
      · rw [ei] at hl
        exact cr_sum cx.calm pins s1 σ H1 [.ref _] [u] Q I1 (.cons rv .nil) ⟨_, is, rfl, hl, q⟩
      · rw [ei] at hl
        obtain ⟨its, rvs, pt, hz⟩ := I1.tuple (SqT.of hl)
        obtain rfl : u = Value.ref qa := rv
        obtain ⟨xs', hx⟩ := rvs.ints.allInts.items
        have hn : numsOf its.toArray.toList = is := by rw [show its.toArray.toList = its from rfl, rvs.ints.numsOf]
        have ht : s1.heap.IsTuple qa its.toArray := pt
        rw [hx] at ht hn
        rw [nums_intItems] at hn
        refine PySem.W.ktm_sumG (I1.ok.hd cx.calm) ht fun h' tk t' hk => ⟨.int _, H1, I1.kept hk, ⟨t', ?_⟩, q⟩
        rw [preSum_eq, List.take_of_length_le (by simp), hn]
end
end Ev
end

section
set_option Elab.async false
set_option linter.all false
set_option maxRecDepth 100000
/-! Ev: the compiler, from the text to the evaluator's pieces. -/
namespace Ev
open PySem

/-- what the compiler makes: the pieces, or their print -/
structure Alg where
  E : Type
  A : Type
  T : Type
  S : Type
  I : Type
  O : Type
  G : Type
  eBad : E
  eVar : Nat → E
  eC : PV → E
  eBin : BO → E → E → E
  eCmp : CO → E → E → E
  eChain : CO → CO → E → E → E → E
  eAnd : E → E → E
  eOr : E → E → E
  eNot : E → E
  eIf : T → E → E → E
  eTup : A → E
  eNew : A → E
  eSub : E → E → E
  eSl : E → O → O → E
  oNone : O
  oSome : E → O
  eFld : List (Nat × At) → E → E
  eCall : Nat → A → E
  eMeth : List (Nat × Nat) → E → A → E
  eMake : Nat → Nat → Nat → A → E
  eLen : List (Nat × Nat) → E → E
  eIs : IsK → List (Nat × Bool) → E → E
  eAll : A → E
  eAny : A → E
  eMax2 : A → E
  eMin2 : A → E
  eMaxL : A → E
  eMinL : A → E
  eSum : A → E
  eInt : A → E
  eAbs : A → E
  eTupL : A → E
  eListL : A → E
  eSS : E → E
  eApp : E → E → E
  eDic0 : E
  eDict : A → E
  eGet1 : E → E → E
  eGet2 : E → E → E → E
  eClrD : E → E
  eExt : E → E → E
  dC1 : List Nat → I → Tg → T → E → E → E
  aStar : E → A → A
  iAny : E → I
  iAnyO : List (Nat × Nat) → E → I
  eSortK : Nat → A → E → E
  eNext : List Nat → I → Tg → T → E → E
  eLRg : E → E
  eSumA : E → E
  iItems : E → I
  iVals : E → I
  aBad : A
  aNil : A
  aCons : E → A → A
  lNew : A → A
  lOf : E → A
  lC1 : List Nat → I → Tg → T → E → A
  lC2 : List Nat → List Nat → I → Tg → T → I → Tg → T → E → A
  tBad : T
  tE : E → T
  tAnd : T → T → T
  tOr : T → T → T
  tNot : T → T
  tYes : T
  iOf : E → I
  iNew : A → I
  iR1 : E → I
  iR2 : E → E → I
  iR3 : E → E → E → I
  iEnum : I → I
  iZip : I → I → I
  sBad : S
  sNil : S
  sSeq : S → S → S
  sRe : S → S
  sExpr : E → S
  sRet : E → S
  sIf : T → S → S → S
  sAsg : E → Tg → S
  sAug : Nat → BO → E → S
  sSetI : E → E → E → S
  sSlot : List (Nat × Nat) → E → E → S
  sFor : I → Tg → S → S

/-! ### tables -/
def eqL : List Nat → List Nat → Bool
  | [], [] => true
  | x :: xs, y :: ys => match Nat.beq x y with | true => eqL xs ys | false => false
  | _, _ => false
def eqS (x y : Str) : Bool := eqL x.cps.toList y.cps.toList
def look {α : Type} (x : Str) : List (Str × α) → Option α
  | [] => none
  | (y, a) :: r => match eqS y x with | true => some a | false => look x r
def idx (x : Str) : List Str → Option Nat
  | [] => none
  | y :: r => match eqS y x with | true => some 0 | false => (idx x r).map (· + 1)
def btName : Bt → Str
  | .max => "max"
  | .min => "min"
  | .abs => "abs"
  | .len => "len"
  | .int => "int"
  | .bool => "bool"
  | .str => "str"
  | .tuple => "tuple"
  | .list => "list"
  | .dict => "dict"
  | .set => "set"
  | .isinstance => "isinstance"
  | .all => "all"
  | .any => "any"
  | .sum => "sum"
  | .sorted => "sorted"
  | .range => "range"
  | .enumerate => "enumerate"
  | .zip => "zip"
  | .next => "next"
  | .iter => "iter"
def btIs : Bt → Option IsK
  | .int => some .int
  | .bool => some .bool
  | .str => some .str
  | .tuple => some .tuple
  | .list => some .list
  | _ => none
def lensOf (gs : GS) : List (Nat × Nat) := (look "__len__" gs.meths).getD []
def isTab (gs : GS) : List (Nat × Bool) := gs.roles.filterMap fun r => match r.2 with
  | .cl c => some (c, false)
  | _ => none

/-! ### names -/
def isGlob (sc : Sc) (x : Str) : Bool := match look x sc.scope.names with
  | some .globalImplicit => bnot (eqS x "__debug__")
  | _ => false
def isVis (sc : Sc) (x : Str) : Bool := match look x sc.scope.names with
  | some .local => true
  | some .cell => true
  | some .free => true
  | _ => false
/-- the slot of a name that is stored -/
def slotOf (sc : Sc) (x : Str) : Option Nat := match idx x sc.N with
  | some i => match look x sc.scope.names with
    | some .local => some i
    | some .cell => cnd (sc.fn x) (some i) none
    | _ => none
  | none => none
def slotsOf (sc : Sc) : List Expr → Option (List Nat)
  | [] => some []
  | .Name x _ :: r => match slotOf sc x with
    | some i => match slotsOf sc r with
      | some is => some (i :: is)
      | none => none
    | none => none
  | _ :: _ => none
def tgC (sc : Sc) (e : Expr) : Option Tg := match e with
  | .Name x _ => (slotOf sc x).map Tg.nm
  | .Tuple es _ _ => match slotsOf sc es with
    | some is => some (.un is)
    | none => (mixOf sc es).map fun q => .un2 q.1 q.2.1 q.2.2
  | _ => none
where mixOf (sc : Sc) : List Expr → Option (List Nat × List Nat × List Nat)
  | [] => none
  | e :: r => match e with
    | .Name x _ => match slotOf sc x with
      | some i => match mixOf sc r with
        | some (l1, is, l2) => some (i :: l1, is, l2)
        | none => none
      | none => none
    | .Tuple es _ _ => match slotsOf sc es with
      | some is => match slotsOf sc r with
        | some l2 => some ([], is, l2)
        | none => none
      | none => none
    | _ => none
def tgIdx : Tg → List Nat
  | .nm i => [i]
  | .un is => is
  | .un2 l1 is l2 => l1 ++ (is ++ l2)
def subsetB (is js : List Nat) : Bool := match is with
  | [] => true
  | i :: r => match memb i js with | true => subsetB r js | false => false

structure CS (A : Alg) where
  e : Sc → Expr → A.E
  t : Sc → Expr → A.T
  a : Sc → List Expr → A.A
  n : Sc → Expr → A.A
  l : Sc → Expr → A.A
  q : Sc → Expr → A.I
  i : Sc → Expr → Expr → A.I
  s : Sc → Stmt → A.S
  ss : Sc → List Stmt → A.S

section
variable {A : Alg} (gs : GS) (r : CS A) (sc : Sc)
def isNew : Expr → Bool
  | .List _ _ => true
  | .ListComp _ _ _ _ => true
  | _ => false
def boOf : Operator → Option BO
  | .Add => some .add
  | .Sub => some .sub
  | .Mult => some .mul
  | .Mod => some .mod
  | .Pow => some .pow
  | .FloorDiv => some .fdiv
  | _ => none
def cName (A : Alg) (x : Str) : A.E := match idx x sc.N with
  | some i => cnd (isVis sc x) (cnd (eqS x "__debug__") A.eBad (cnd (eqS x "__classdict__") A.eBad (A.eVar i))) (cGlob x)
  | none => cGlob x
where cGlob (x : Str) : A.E := cnd (isGlob sc x) (match look x gs.roles with
    | some (.ci i) => A.eC (.int i)
    | _ => A.eBad) A.eBad
def cConst (A : Alg) : Const → A.E
  | .none => A.eC .non
  | .bool b => A.eC (.bl b)
  | .int i => A.eC (.int i)
  | .str x => A.eC (.str x)
  | _ => A.eBad
def cCmp (a : Expr) (ops : List CmpOp) (bs : List Expr) : A.E := match ops with
  | [op] => match bs with
    | [b] => match coOf op with
      | some o => cnd (behindInMarks op b) A.eBad (A.eCmp o (r.e sc a) (r.e sc b))
      | none => A.eBad
    | _ => A.eBad
  | [op, op'] => match bs with
    | [b, d] => match coOf op with
      | some o => match coOf op' with
        | some o' => cnd (behindInMarks op b) A.eBad (cnd (behindInMarks op' d) A.eBad (A.eChain o o' (r.e sc a) (r.e sc b) (r.e sc d)))
        | none => A.eBad
      | none => A.eBad
    | _ => A.eBad
  | _ => A.eBad
def isCmp1 (ops : List CmpOp) (bs : List Expr) : Bool := match ops with
  | [op] => match bs with
    | [b] => match coOf op with
      | some _ => bnot (behindInMarks op b)
      | none => false
    | _ => false
  | [op, op'] => match bs with
    | [b, d] => match coOf op with
      | some _ => match coOf op' with
        | some _ => cnd (behindInMarks op b) false (bnot (behindInMarks op' d))
        | none => false
      | none => false
    | _ => false
  | _ => false
def cOpt (o : Option Expr) : A.O := match o with
  | none => A.oNone
  | some e => A.oSome (r.e sc e)
def cIs (a b : Expr) : A.E := match b with
  | .Name y _ => cnd (isGlob sc y) (match look y gs.roles with
    | some (.cl c) => match lookC c gs.iss with
      | some tab => A.eIs (.own c) tab (r.e sc a)
      | none => A.eBad
    | some (.bt b) => match btIs b with
      | some kd => A.eIs kd (isTab gs) (r.e sc a)
      | none => A.eBad
    | _ => A.eBad) A.eBad
  | _ => A.eBad
/-- the inner of sorted(set(a)) -/
def setArg (e : Expr) : Option Expr := match e with
  | .Call f args kws _ => match f with
    | .Name y _ => match args with
      | [a] => match kws with
        | [] => cnd (isGlob sc y) (match look y gs.roles with
          | some (.bt .set) => some a
          | _ => none) none
        | _ => none
      | _ => none
    | _ => none
  | _ => none
/-- the inner of range(a) -/
def rgArg (e : Expr) : Option Expr := match e with
  | .Call f args kws _ => match f with
    | .Name y _ => match args with
      | [a] => match kws with
        | [] => cnd (isGlob sc y) (match look y gs.roles with
          | some (.bt .range) => some a
          | _ => none) none
        | _ => none
      | _ => none
    | _ => none
  | _ => none
def isNm : Expr → Bool
  | .Name _ _ => true
  | _ => false
/-- lambda y: body -/
def lam1 (e : Expr) : Option (Str × Pos × Expr × Scope × Pos) := match e with
  | .Lambda ps body scope pos => match ps with
    | ⟨[], [⟨y, none, apos⟩], none, [], [], none, []⟩ => some (y, apos, body, scope, pos)
    | _ => none
  | _ => none
def cKey (a : Expr) (v : Expr) : A.E := match lam1 v with
  | some (y, _, body, scope, lpos) => match sc.lam with
    | some ls => match idx y sc.N with
      | some ip => cnd (isLam ls lpos) (cnd (lamS1B sc.scope scope y) (cnd (notStar a) (A.eSortK ip (r.l sc a) (r.e (lamSc sc scope) body)) A.eBad) A.eBad) A.eBad
      | none => A.eBad
    | none => A.eBad
  | none => A.eBad
def cKw (x : Str) (args : List Expr) (nm : Option Str) (v : Expr) : A.E := cnd (isGlob sc x) (match look x gs.roles with
  | some (.bt .sorted) => match args with
    | [a] => match nm with
      | some n => cnd (eqS n "key") (cKey r sc a v) A.eBad
      | none => A.eBad
    | _ => A.eBad
  | _ => A.eBad) A.eBad
def isNonC : Expr → Bool
  | .Constant c _ _ => match c with
    | .none => true
    | _ => false
  | _ => false
/-- next(a generator expression, None) -/
def cTs1 (sc : Sc) (ifs : List Expr) : A.T := match ifs with
  | [] => A.tYes
  | [c] => r.t sc c
  | _ => A.tBad
/-- the names that are a comprehension's own, with their slots -/
def isOwnK : NameKind → Bool
  | .local => true
  | .cell => true
  | _ => false
def ownOf (N : List Str) : List (Str × NameKind) → List (Str × Nat)
  | [] => []
  | (x, k) :: rest => match isOwnK k with
    | true => match idx x N with
      | some i => (x, i) :: ownOf N rest
      | none => ownOf N rest
    | false => ownOf N rest
def cNext1 (elt : Expr) (g : Comprehension) (scope : Scope) (gpos : Pos) : A.E := match sc.lam with
  | some ls => match tgC (lamSc sc scope) g.target with
    | some tg => cnd (ieq g.is_async 0) (cnd (bnot (isLam ls gpos)) (cnd (genB sc.N sc.scope scope (ownOf sc.N scope.names)) (cnd (subsetB (tgIdx tg) ((ownOf sc.N scope.names).map (·.2))) (cnd (noFold g.iter)
      (A.eNext ((ownOf sc.N scope.names).map (·.2)) (r.i sc g.target g.iter) tg (cTs1 r (lamSc sc scope) g.ifs) (r.e (lamSc sc scope) elt)) A.eBad) A.eBad) A.eBad) A.eBad) A.eBad
    | none => A.eBad
  | none => A.eBad
def cNext (a d : Expr) : A.E := match a with
  | .GeneratorExp elt gens scope gpos => match gens with
    | [g] => cnd (isNonC d) (cNext1 r sc elt g scope gpos) A.eBad
    | _ => A.eBad
  | _ => A.eBad
def cBt1 (b : Bt) (a : Expr) : A.E := match b with
  | .max => A.eMaxL (r.l sc a)
  | .min => A.eMinL (r.l sc a)
  | .abs => A.eAbs (r.a sc [a])
  | .len => A.eLen (lensOf gs) (r.e sc a)
  | .int => A.eInt (r.a sc [a])
  | .all => A.eAll (r.l sc a)
  | .any => A.eAny (r.l sc a)
  | .sum => cnd (isNm a) (A.eSumA (r.e sc a)) (A.eSum (r.l sc a))
  | .tuple => A.eTupL (r.l sc a)
  | .list => match rgArg gs sc a with
    | some x => cnd (notStar x) (A.eLRg (r.e sc x)) A.eBad
    | none => A.eListL (r.l sc a)
  | .dict => A.eDict (r.a sc [a])
  | .sorted => match setArg gs sc a with
    | some x => cnd (notStar x) (A.eSS (r.e sc x)) A.eBad
    | none => A.eBad
  | _ => A.eBad
def cBt2 (b : Bt) (a d : Expr) : A.E := match b with
  | .max => A.eMax2 (r.a sc [a, d])
  | .min => A.eMin2 (r.a sc [a, d])
  | .isinstance => cIs gs r sc a d
  | .next => cNext r sc a d
  | _ => A.eBad
def cFn (x : Str) (args : List Expr) : A.E := cnd (isGlob sc x) (match look x gs.roles with
  | some (.fn f) => match args with
    | [] => A.eCall f A.aNil
    | e :: es => cnd (noStars (e :: es)) (A.eCall f (r.a sc (e :: es))) A.eBad
  | some (.cl c) => match args with
    | [] => A.eBad
    | e :: es => match lookC c gs.inits with
      | some (f, n) => cnd (noStars (e :: es)) (A.eMake c f n (r.a sc (e :: es))) A.eBad
      | none => A.eBad
  | some (.bt b) => match args with
    | [a] => cnd (notStar a) (cBt1 gs r sc b a) A.eBad
    | [a, d] => cnd (noStars [a, d]) (cBt2 gs r sc b a d) A.eBad
    | _ => A.eBad
  | _ => A.eBad) A.eBad
/-- methods of built-in types -/
def cBm (a : Expr) (m : Str) (args : List Expr) : A.E := match args with
  | [] => cnd (eqS m "clear") (A.eClrD (r.e sc a)) A.eBad
  | [b] => cnd (notStar b) (cnd (eqS m "append") (A.eApp (r.e sc a) (r.e sc b)) (cnd (eqS m "extend") (A.eExt (r.e sc a) (r.e sc b)) (cnd (eqS m "get") (A.eGet1 (r.e sc a) (r.e sc b)) A.eBad))) A.eBad
  | [b, d] => cnd (notStar b) (cnd (notStar d) (cnd (eqS m "get") (A.eGet2 (r.e sc a) (r.e sc b) (r.e sc d)) A.eBad) A.eBad) A.eBad
  | _ => A.eBad
def cMeth (a : Expr) (m : Str) (args : List Expr) (apos pos : Pos) : A.E := cnd (plainBase a) (cnd (apos.endLine == pos.line) (match look m gs.meths with
  | some tab => match args with
    | [] => A.eMeth tab (r.e sc a) A.aNil
    | e :: es => cnd (noStars (e :: es)) (cnd (Nat.blt (e :: es).length 30) (A.eMeth tab (r.e sc a) (r.a sc (e :: es))) A.eBad) A.eBad
  | none => cBm r sc a m args) A.eBad) A.eBad
def cTs (ifs : List Expr) : A.T := match ifs with
  | [] => A.tYes
  | [c] => r.t sc c
  | _ => A.tBad
def lcOk (scope : Scope) (iter : Expr) (g : Tg) : Bool := cnd (L2.blkC sc.N sc.scope scope (ownOf sc.N scope.names)) (cnd (notSet iter) (subsetB (tgIdx g) ((ownOf sc.N scope.names).map (·.2))) false) false
def cDc (kx vx : Expr) (gens : List Comprehension) (scope : Scope) : A.E := match gens with
  | [g] => match tgC (blkSc sc scope) g.target with
    | some tg => cnd (ieq g.is_async 0) (cnd (lcOk sc scope g.iter tg) (A.dC1 ((ownOf sc.N scope.names).map (·.2)) (r.i sc g.target g.iter) tg (cTs r (blkSc sc scope) g.ifs) (r.e (blkSc sc scope) kx) (r.e (blkSc sc scope) vx)) A.eBad) A.eBad
    | none => A.eBad
  | _ => A.eBad
def cE (e : Expr) : A.E := match e with
  | .Name x _ => cName gs sc A x
  | .Constant c _ _ => cConst A c
  | .BinOp a op b _ => match boOf op with
    | some o => A.eBin o (r.e sc a) (r.e sc b)
    | none => A.eBad
  | .UnaryOp op a _ => match op with
    | .Not => A.eNot (r.e sc a)
    | .USub => match a with
      | .Constant c _ _ => match c with
        | .int i => A.eC (.int (-i))
        | _ => A.eBad
      | _ => A.eBad
    | _ => A.eBad
  | .BoolOp op es pos => match es with
    | [] => A.eBad
    | [a] => r.e sc a
    | a :: b :: rest => match op with
      | .And => A.eAnd (r.e sc a) (r.e sc (.BoolOp .And (b :: rest) pos))
      | .Or => A.eOr (r.e sc a) (r.e sc (.BoolOp .Or (b :: rest) pos))
  | .Compare a ops bs _ => cCmp r sc a ops bs
  | .IfExp c a b _ => A.eIf (r.t sc c) (r.e sc a) (r.e sc b)
  | .Tuple es _ _ => A.eTup (r.a sc es)
  | .List es pos => A.eNew (r.n sc (.List es pos))
  | .ListComp x g s pos => A.eNew (r.n sc (.ListComp x g s pos))
  | .Dict ks _ _ => match ks with
    | [] => match e with
      | .Dict [] [] _ => A.eDic0
      | _ => A.eBad
    | _ => A.eBad
  | .DictComp kx vx g s _ => cDc r sc kx vx g s
  | .Subscript a b _ => match b with
    | .Slice lo hi st _ => match st with
      | none => A.eSl (r.e sc a) (cOpt r sc lo) (cOpt r sc hi)
      | some _ => A.eBad
    | b => A.eSub (r.e sc a) (r.e sc b)
  | .Attribute a f _ => match look f gs.atts with
    | some tab => cnd (plainBase a) (A.eFld tab (r.e sc a)) A.eBad
    | none => A.eBad
  | .Call f args kws pos => match kws with
    | [] => match f with
      | .Name x _ => cFn gs r sc x args
      | .Attribute a m apos => cMeth gs r sc a m args apos pos
      | _ => A.eBad
    | kw :: more => match more with
      | [] => match f with
        | .Name x _ => cKw gs r sc x args kw.arg kw.value
        | _ => A.eBad
      | _ => A.eBad
  | _ => A.eBad
/-- a test that is a value's truth -/
def plainT : Expr → Bool
  | .Name _ _ => true
  | .Call _ _ _ _ => true
  | .Attribute _ _ _ => true
  | .Subscript _ _ _ => true
  | _ => false
def cW (op : BoolOp) : List Expr → A.T
  | [] => A.tBad
  | [a] => r.t sc a
  | a :: b :: rest => match op with
    | .And => A.tAnd (r.t sc a) (cW op (b :: rest))
    | .Or => A.tOr (r.t sc a) (cW op (b :: rest))
def cT (e : Expr) : A.T := match e with
  | .Compare a ops bs _ => cnd (isCmp1 ops bs) (A.tE (cCmp r sc a ops bs)) A.tBad
  | .UnaryOp op a _ => match op with
    | .Not => A.tNot (r.t sc a)
    | _ => A.tBad
  | .BoolOp op es _ => cW r sc op es
  | e => cnd (plainT e) (A.tE (r.e sc e)) A.tBad
def cA (es : List Expr) : A.A := match es with
  | [] => A.aNil
  | e :: es => match e with
    | .Starred x _ => A.aStar (r.e sc x) (r.a sc es)
    | e => cnd (notStar e) (A.aCons (r.e sc e) (r.a sc es)) A.aBad
def cLc (elt : Expr) (gens : List Comprehension) (scope : Scope) : A.A := match gens with
  | [g] => match tgC (blkSc sc scope) g.target with
    | some tg => cnd (ieq g.is_async 0) (cnd (lcOk sc scope g.iter tg) (A.lC1 ((ownOf sc.N scope.names).map (·.2)) (r.i sc g.target g.iter) tg (cTs r (blkSc sc scope) g.ifs) (r.e (blkSc sc scope) elt)) A.aBad) A.aBad
    | none => A.aBad
  | [g, g1] => match tgC (blkSc sc scope) g.target with
    | some tg => match tgC (blkSc sc scope) g1.target with
      | some tg1 => cnd (ieq g.is_async 0) (cnd (ieq g1.is_async 0) (cnd (lcOk sc scope g.iter tg) (cnd (lcOk sc scope g1.iter tg1) (A.lC2 ((ownOf sc.N scope.names).map (·.2)) (tgIdx tg1) (r.i sc g.target g.iter) tg (cTs r (blkSc sc scope) g.ifs)
          (r.i (blkSc sc scope) g1.target g1.iter) tg1 (cTs r (blkSc sc scope) g1.ifs) (r.e (blkSc sc scope) elt)) A.aBad) A.aBad) A.aBad) A.aBad
      | none => A.aBad
    | none => A.aBad
  | _ => A.aBad
def cN (e : Expr) : A.A := match e with
  | .List es _ => A.lNew (r.a sc es)
  | .ListComp elt gens scope _ => cLc r sc elt gens scope
  | _ => A.aBad
def cL (e : Expr) : A.A := cnd (isNew e) (r.n sc e) (A.lOf (r.e sc e))
def cQ (e : Expr) : A.I := cnd (isNew e) (A.iNew (r.n sc e)) (A.iOf (r.e sc e))
def isTupT : Expr → Bool
  | .Tuple _ _ _ => true
  | _ => false
/-- the built-in that is called by name -/
def btCall (e : Expr) : Option (Bt × List Expr) := match e with
  | .Call f args kws _ => match f with
    | .Name x _ => match kws with
      | [] => cnd (isGlob sc x) (match look x gs.roles with
        | some (.bt b) => some (b, args)
        | _ => none) none
      | _ => none
    | _ => none
  | _ => none
/-- what is walked, not by a built-in -/
def itTab (gs : GS) : List (Nat × Nat) := gs.its.map fun q => (q.1, q.2.1)
def cAny (e : Expr) : A.I := match gs.its with
  | [] => A.iAny (r.e sc e)
  | _ => A.iAnyO (itTab gs) (r.e sc e)
def cI0 (tg e : Expr) : A.I := match e with
  | .Call f args kws pos => match f with
    | .Attribute a m apos => match args with
      | [] => match kws with
        | [] => cnd (plainBase a) (cnd (apos.endLine == pos.line) (cnd (eqS m "items") (cnd (isTupT tg) (A.iItems (r.e sc a)) (r.q sc e)) (cnd (eqS m "values") (A.iVals (r.e sc a)) (cAny gs r sc e))) (r.q sc e)) (r.q sc e)
        | _ => r.q sc e
      | _ => cAny gs r sc e
    | _ => cAny gs r sc e
  | e => cnd (isNew e) (r.q sc e) (cAny gs r sc e)
def cI (tg e : Expr) : A.I := match btCall gs sc e with
  | some (b, args) => match b with
    | .range => match args with
      | [a] => cnd (notStar a) (A.iR1 (r.e sc a)) (r.q sc e)
      | [a, b] => cnd (noStars [a, b]) (A.iR2 (r.e sc a) (r.e sc b)) (r.q sc e)
      | [a, b, d] => cnd (noStars [a, b, d]) (A.iR3 (r.e sc a) (r.e sc b) (r.e sc d)) (r.q sc e)
      | _ => r.q sc e
    | .enumerate => match args with
      | [a] => cnd (isTupT tg) (cnd (notStar a) (A.iEnum (r.q sc a)) (r.q sc e)) (r.q sc e)
      | _ => r.q sc e
    | .zip => match args with
      | [a, b] => cnd (isTupT tg) (cnd (noStars [a, b]) (A.iZip (r.q sc a) (r.q sc b)) (r.q sc e)) (r.q sc e)
      | _ => r.q sc e
    | _ => r.q sc e
  | none => cI0 gs r sc tg e
/-! statements -/
def lcScope : Expr → Option Scope
  | .ListComp _ _ s _ => some s
  | .SetComp _ _ s _ => some s
  | .DictComp _ _ _ s _ => some s
  | _ => none
/-- is the comprehension's value stored within -/
def swB (v : Expr) (y : Str) (py : Pos) : Bool := match lcScope v with
  | none => false
  | some s => (bkOf sc.scope == .function) && (sc.scope.names.lookup y == some .local) && (py.line == v.pos.line) && !(s.names.any fun (n, k) => n == y && (k == .local || k == .cell))
def isFn (s : Scope) : Bool := match s.kind with
  | .function => true
  | _ => false
def cAsgN (y : Str) (py : Pos) (v : Expr) : A.S := match slotOf sc y with
  | none => A.sBad
  | some i => match v with
    | .ListComp elt gens scope _ => cnd (swB sc v y py) (cnd (isFn sc.scope) (A.sAsg (A.eNew (cLc r sc elt gens scope)) (.nm i)) A.sBad) (A.sAsg (r.e sc v) (.nm i))
    | .DictComp kx vx gens scope _ => cnd (swB sc v y py) (cnd (isFn sc.scope) (A.sAsg (cDc r sc kx vx gens scope) (.nm i)) A.sBad) (A.sAsg (r.e sc v) (.nm i))
    | v => cnd (notComp v) (A.sAsg (r.e sc v) (.nm i)) A.sBad
def nodupB : List Nat → Bool
  | [] => true
  | x :: xs => match memb x xs with | true => false | false => nodupB xs
def cAsgT (tg v : Expr) : A.S := match tgC sc tg with
  | none => A.sBad
  | some g => match swO sc.scope tg v with
    | none => A.sBad
    | some none => A.sAsg (r.e sc v) g
    | some (some _) => match v with
      | .Tuple vs _ _ => match g with
        | .un is => cnd (nodupB is) (A.sAsg (A.eTup (r.a sc vs)) g) A.sBad
        | _ => A.sBad
      | _ => A.sBad
def slotTab (tab : List (Nat × At)) : List (Nat × Nat) := tab.filterMap fun q => match q.2 with
  | .slot i => some (q.1, i)
  | _ => none
def cS (st : Stmt) : A.S := match st with
  | .Expr e _ => cnd (notComp e) (A.sExpr (r.e sc e)) A.sBad
  | .Return (some e) _ => A.sRet (r.e sc e)
  | .If t x y _ => A.sIf (r.t sc t) (r.ss sc x) (r.ss sc y)
  | .Assign tgs v _ => match tgs with
    | [tg] => match tg with
      | .Name y py => cAsgN r sc y py v
      | .Tuple es k pos => cAsgT r sc (.Tuple es k pos) v
      | .Subscript c e _ => cnd (plainIx e) (A.sSetI (r.e sc c) (r.e sc e) (r.e sc v)) A.sBad
      | .Attribute o f _ => match look f gs.atts with
        | some tab => A.sSlot (slotTab tab) (r.e sc o) (r.e sc v)
        | none => A.sBad
      | _ => A.sBad
    | _ => A.sBad
  | .AugAssign tg op v _ => match tg with
    | .Name y _ => match slotOf sc y with
      | some i => match boOf op with
        | some o => cnd (augF o).isSome (A.sAug i o (r.e sc v)) A.sBad
        | none => A.sBad
      | none => A.sBad
    | _ => A.sBad
  | .For tg it body oe _ => match oe with
    | [] => match tgC sc tg with
      | some g => cnd (notSet it) (A.sFor (r.i sc tg it) g (r.ss sc body)) A.sBad
      | none => A.sBad
    | _ => A.sBad
  | .Pass _ => A.sNil
  | _ => A.sBad
def cRe (s : A.S) : A.S := match sc.re with
  | true => A.sRe s
  | false => s
def cSs (sts : List Stmt) : A.S := match sts with
  | [] => A.sNil
  | [s] => cRe sc (r.s sc s)
  | s :: rest => A.sSeq (cRe sc (r.s sc s)) (r.ss sc rest)
end
def step {A : Alg} (gs : GS) (r : CS A) : CS A where
  e := cE gs r
  t := cT r
  a := cA r
  n := cN r
  l := cL r
  q := cQ r
  i := cI gs r
  s := cS gs r
  ss := cSs r
def badCS (A : Alg) : CS A where
  e := fun _ _ => A.eBad
  t := fun _ _ => A.tBad
  a := fun _ _ => A.aBad
  n := fun _ _ => A.aBad
  l := fun _ _ => A.aBad
  q := fun _ _ => A.iOf A.eBad
  i := fun _ _ _ => A.iOf A.eBad
  s := fun _ _ => A.sBad
  ss := fun _ _ => A.sBad
def lev (A : Alg) (gs : GS) : Nat → CS A
  | 0 => badCS A
  | n + 1 => step gs (lev A gs n)

/-! ### the pieces -/
def eBad : XE := fun _ _ _ => .bad
def aBad : XA := fun _ _ _ => .bad
def tBad : XT := fun _ _ _ => .bad
@[reducible] def evA : Alg where
  E := XE
  A := XA
  T := XT
  S := XS
  I := XI
  O := Calls → Env → Mem → Res (Option Int)
  G := XG
  eBad := eBad
  eVar := eVar
  eC := eC
  eBin := eBin
  eCmp := eCmp
  eChain := eChain
  eAnd := eAnd
  eOr := eOr
  eNot := eNot
  eIf := eIf
  eTup := eTup
  eNew := eNew
  eSub := eSub
  eSl := eSl
  oNone := oNone
  oSome := oSome
  eFld := eFld
  eCall := eCall
  eMeth := eMeth
  eMake := eMake
  eLen := eLen
  eIs := eIs
  eAll := eAll
  eAny := eAny
  eMax2 := eB gMax2
  eMin2 := eB gMin2
  eMaxL := eB gMaxL
  eMinL := eB gMinL
  eSum := eB gSum
  eInt := eB gInt
  eAbs := eB gAbs
  eTupL := eB gTupL
  eListL := eB gListL
  eSS := eSS
  eApp := eApp
  eDic0 := eDic0
  eDict := eB gDict
  eGet1 := eGet1
  eGet2 := eGet2
  eClrD := eClrD
  eExt := eExt
  dC1 := dC1
  aStar := aStar
  iAny := iAny
  iAnyO := iAnyO
  eSortK := eSortK
  eNext := eNext
  eLRg := eLRg
  eSumA := eSumA
  iItems := iItems
  iVals := iVals
  aBad := aBad
  aNil := aNil
  aCons := aCons
  lNew := lNew
  lOf := lOf
  lC1 := lC1
  lC2 := lC2
  tBad := tBad
  tE := tE
  tAnd := tAnd
  tOr := tOr
  tNot := tNot
  tYes := tYes
  iOf := iOf
  iNew := iNew
  iR1 := iR1
  iR2 := iR2
  iR3 := iR3
  iEnum := iEnum
  iZip := iZip
  sBad := sBad
  sNil := sNil
  sSeq := sSeq
  sRe := sRe
  sExpr := sExpr
  sRet := sRet
  sIf := sIf
  sAsg := fun e g => sAsg e (tgG g)
  sAug := sAug
  sSetI := sSetI
  sSlot := sSlot
  sFor := fun i g b => sFor i (tgG g) b
end Ev
end

section
set_option Elab.async false
set_option linter.all false
set_option maxRecDepth 100000
/-! Ev: the compiler is right. -/
namespace Ev
open PySem PySem.Spec PyProof.Rows L2

theorem eqL_iff : ∀ {x y : List Nat}, eqL x y = true ↔ x = y
  | [], [] => by simp [eqL]
  | [], _ :: _ => by simp [eqL]
  | _ :: _, [] => by simp [eqL]
  | a :: x, b :: y => by
    unfold eqL
    cases e : Nat.beq a b with
    | true =>
      have := Nat.eq_of_beq_eq_true e
      subst this
      simp [eqL_iff (x := x) (y := y)]
    | false =>
      have := Nat.ne_of_beq_eq_false e
      simp [this]
theorem eqS_iff {x y : Str} : eqS x y = true ↔ x = y := by
  unfold eqS
  rw [eqL_iff]
  constructor
  · intro h
    cases x
    cases y
    have h := Array.ext' h
    simp only at h
    rw [h]
  · intro h; rw [h]
theorem eqS_ff {x y : Str} (h : eqS x y = false) : x ≠ y := fun e => by
  rw [eqS_iff.mpr e] at h; cases h
theorem look_mem {α : Type} {x : Str} {a : α} : ∀ {l : List (Str × α)}, look x l = some a → (x, a) ∈ l
  | [], h => by cases h
  | (y, b) :: r, h => by
    unfold look at h
    cases e : eqS y x with
    | true =>
      rw [e] at h
      cases h
      rw [eqS_iff.mp e]
      exact List.mem_cons_self
    | false =>
      rw [e] at h
      exact List.mem_cons_of_mem _ (look_mem h)
theorem look_lookup {x : Str} {k : NameKind} : ∀ {l : List (Str × NameKind)}, look x l = some k → l.lookup x = some k
  | [], h => by cases h
  | (y, b) :: r, h => by
    unfold look at h
    rw [List.lookup_cons]
    cases e : eqS y x with
    | true =>
      rw [e] at h
      have := eqS_iff.mp e
      subst this
      simpa using h
    | false =>
      rw [e] at h
      have : (x == y) = false := by
        have := eqS_ff e
        simpa using Ne.symm this
      rw [this]
      exact look_lookup h
theorem idx_get {x : Str} : ∀ {N : List Str} {i : Nat}, idx x N = some i → N[i]? = some x
  | [], _, h => by cases h
  | y :: r, i, h => by
    unfold idx at h
    cases e : eqS y x with
    | true =>
      rw [e] at h
      cases h
      rw [eqS_iff.mp e]
      rfl
    | false =>
      rw [e] at h
      cases q : idx x r with
      | none => rw [q] at h; cases h
      | some j =>
        rw [q] at h
        cases h
        simpa using idx_get q
theorem dbg_of {x : Str} (h : bnot (eqS x "__debug__") = true) : (x == ("__debug__" : Str)) = false := by
  cases e : eqS x "__debug__" with
  | true => rw [e] at h; cases h
  | false => simpa using eqS_ff e
theorem isGlob_ok {sc : Sc} {x : Str} (h : isGlob sc x = true) : sc.scope.names.lookup x = some .globalImplicit ∧ (x == ("__debug__" : Str)) = false := by
  unfold isGlob at h
  split at h
  · rename_i e
    exact ⟨look_lookup e, dbg_of h⟩
  · cases h
theorem isVis_ok {sc : Sc} {x : Str} (h : isVis sc x = true) : Vis sc.scope x := by
  unfold isVis at h
  split at h
  · rename_i e; exact .inl (look_lookup e)
  · rename_i e; exact .inr (.inl (look_lookup e))
  · rename_i e; exact .inr (.inr (look_lookup e))
  · cases h
theorem slotOf_ok {sc : Sc} {x : Str} {i : Nat} (h : slotOf sc x = some i) : sc.N[i]? = some x ∧ Loc sc.scope x ∧ (sc.fn x = true ∨ sc.scope.names.lookup x = some .local) := by
  unfold slotOf at h
  cases e : idx x sc.N with
  | none => rw [e] at h; cases h
  | some j =>
    rw [e] at h
    simp only at h
    split at h
    · rename_i q
      cases h
      exact ⟨idx_get e, .inl (look_lookup q), .inr (look_lookup q)⟩
    · rename_i q
      cases ef : sc.fn x with
      | false => rw [ef] at h; cases h
      | true =>
        rw [ef] at h
        cases h
        exact ⟨idx_get e, .inr (look_lookup q), .inl rfl⟩
    · cases h
theorem slotsOf_ok {sc : Sc} : ∀ {es : List Expr} {is : List Nat}, slotsOf sc es = some is → NamesAt sc es is
  | [], is, h => by cases h; trivial
  | e :: es, is, h => by
    cases e <;> first | (cases h; done) | skip
    rename_i x pos
    unfold slotsOf at h
    cases e1 : slotOf sc x with
    | none => rw [e1] at h; cases h
    | some i =>
      rw [e1] at h
      cases e2 : slotsOf sc es with
      | none => simp only [e2] at h; cases h
      | some js =>
        simp only [e2] at h
        cases h
        obtain ⟨h1, h2, h3⟩ := slotOf_ok e1
        exact ⟨h1, h2, h3, slotsOf_ok e2⟩
theorem mixOf_ok {sc : Sc} : ∀ {es : List Expr} {q : List Nat × List Nat × List Nat}, tgC.mixOf sc es = some q → ∃ es1 es' j' pos' es2, es = es1 ++ .Tuple es' j' pos' :: es2 ∧ NamesAt sc es1 q.1 ∧ NamesAt sc es' q.2.1 ∧ NamesAt sc es2 q.2.2
  | [], _, h => by cases h
  | e :: r, q, h => by
    cases e <;> first | (cases h; done) | skip
    · rename_i x pos
      have h : (match slotOf sc x with
        | some i => match tgC.mixOf sc r with
          | some (l1, is, l2) => some (i :: l1, is, l2)
          | none => none
        | none => none) = some q := h
      cases e1 : slotOf sc x with
      | none => rw [e1] at h; cases h
      | some i =>
        rw [e1] at h
        cases e2 : tgC.mixOf sc r with
        | none => rw [e2] at h; cases h
        | some q2 =>
          rw [e2] at h
          obtain ⟨l1, is, l2⟩ := q2
          cases h
          obtain ⟨h1, h2, h3⟩ := slotOf_ok e1
          obtain ⟨es1, es', j', pos', es2, rfl, k1, k2, k3⟩ := mixOf_ok e2
          exact ⟨.Name x pos :: es1, es', j', pos', es2, rfl, ⟨h1, h2, h3, k1⟩, k2, k3⟩
    · rename_i es k pos
      have h : (match slotsOf sc es with
        | some is => match slotsOf sc r with
          | some l2 => some (([] : List Nat), is, l2)
          | none => none
        | none => none) = some q := h
      cases e1 : slotsOf sc es with
      | none => rw [e1] at h; cases h
      | some is =>
        rw [e1] at h
        cases e2 : slotsOf sc r with
        | none => simp only [e2] at h; cases h
        | some l2 =>
          simp only [e2] at h
          cases h
          exact ⟨[], es, k, pos, r, rfl, True.intro, slotsOf_ok e1, slotsOf_ok e2⟩
theorem tgC_ok {sc : Sc} {e : Expr} {g : Tg} (h : tgC sc e = some g) : TgOk sc e g := by
  cases e <;> first | (cases h; done) | skip
  · rename_i x pos
    have h : (slotOf sc x).map Tg.nm = some g := h
    cases e1 : slotOf sc x with
    | none => rw [e1] at h; cases h
    | some i =>
      rw [e1] at h
      cases h
      obtain ⟨h1, h2, h3⟩ := slotOf_ok e1
      exact ⟨x, pos, rfl, h1, h2, h3⟩
  · rename_i es k pos
    have h : (match slotsOf sc es with
      | some is => some (Tg.un is)
      | none => (tgC.mixOf sc es).map fun q => .un2 q.1 q.2.1 q.2.2) = some g := h
    cases e1 : slotsOf sc es with
    | none =>
      rw [e1] at h
      obtain ⟨q, hq, rfl⟩ := Option.map_eq_some_iff.mp h
      obtain ⟨es1, es', j', pos', es2, rfl, h1, h2, h3⟩ := mixOf_ok hq
      exact ⟨es1, es', j', pos', es2, k, pos, rfl, h1, h2, h3⟩
    | some is =>
      rw [e1] at h
      cases h
      exact ⟨es, k, pos, rfl, slotsOf_ok e1⟩
theorem subsetB_ok : ∀ {is js : List Nat}, subsetB is js = true → ∀ i ∈ is, i ∈ js
  | [], _, _ => fun i h => by cases h
  | i :: r, js, h => by
    unfold subsetB at h
    cases e : memb i js with
    | false => rw [e] at h; cases h
    | true =>
      rw [e] at h
      intro j hj
      rcases List.mem_cons.mp hj with z | z
      · rw [z]; exact memb_iff.mp e
      · exact subsetB_ok h j z
theorem tgIn_of {own : List Nat} {g : Tg} (h : ∀ i ∈ tgIdx g, i ∈ own) : tgIn own g := by
  cases g with
  | nm i => exact h i List.mem_cons_self
  | un is => exact h
  | un2 l1 is l2 => exact ⟨fun i hi => h i (List.mem_append_left _ hi), fun i hi => h i (List.mem_append_right _ (List.mem_append_left _ hi)), fun i hi => h i (List.mem_append_right _ (List.mem_append_right _ hi))⟩
theorem nodupB_ok : ∀ {is : List Nat}, nodupB is = true → is.Nodup
  | [], _ => .nil
  | x :: xs, h => by
    unfold nodupB at h
    cases e : memb x xs with
    | true => rw [e] at h; cases h
    | false =>
      rw [e] at h
      exact List.nodup_cons.mpr ⟨fun z => (by rw [memb_iff.mpr z] at e; cases e), nodupB_ok h⟩
theorem cnd_rec {α : Sort u} {P : α → Prop} {b : Bool} {x y : α} (h1 : b = true → P x) (h2 : P y) : P (cnd b x y) := by
  cases b with
  | true => exact h1 rfl
  | false => exact h2

/-! ### the tables as a GT -/
def gtOf (gs : GS) (tab : List Fd) : GT where
  tab := tab
  fns := gs.roles.filterMap fun r => match r.2 with | .fn f => some (r.1, f) | _ => none
  cls := gs.roles.filterMap fun r => match r.2 with | .cl c => some (r.1, c) | _ => none
  slots := gs.atts.flatMap fun a => a.2.filterMap fun q => match q.2 with | .slot i => some (q.1, a.1, i) | _ => none
  props := gs.atts.flatMap fun a => a.2.filterMap fun q => match q.2 with | .prop f => some (q.1, a.1, f) | _ => none
  meths := gs.meths.flatMap fun a => a.2.map fun q => (q.1, a.1, q.2)
  inits := gs.inits
  cints := gs.roles.filterMap fun r => match r.2 with | .ci i => some (r.1, i) | _ => none
  isis := gs.iss.flatMap fun a => a.2.map fun q => (q.1, a.1, q.2)
  free := gs.roles.filterMap fun r => match r.2 with | .bt _ => some r.1 | _ => none
  its := gs.its.map fun q => (q.1, q.2.1)
  eqs := gs.eqs
  lss := gs.lss
structure GsOk (gs : GS) (tab : List Fd) : Prop where
  fn : ∀ x f, (x, Rl.fn f) ∈ gs.roles → (nthF tab f).isSome = true
  bt : ∀ x b, (x, Rl.bt b) ∈ gs.roles → x = btName b
section
variable {gs : GS} {tab : List Fd} {p : Pl} {sc : Sc} {pos : Pos}
theorem att_ok {f : Str} {t : List (Nat × At)} (h : look f gs.atts = some t) : AttOk (gtOf gs tab) f t := fun k a ha => by
  have hm := look_mem h
  cases a with
  | slot i => exact List.mem_flatMap.mpr ⟨_, hm, List.mem_filterMap.mpr ⟨_, ha, rfl⟩⟩
  | prop g => exact List.mem_flatMap.mpr ⟨_, hm, List.mem_filterMap.mpr ⟨_, ha, rfl⟩⟩
theorem slot_ok {f : Str} {t : List (Nat × At)} (h : look f gs.atts = some t) : SlotOk (gtOf gs tab) f (slotTab t) := fun k i ha => by
  have hm := look_mem h
  obtain ⟨q, hq, e⟩ := List.mem_filterMap.mp ha
  obtain ⟨c, a⟩ := q
  cases a with
  | slot j =>
    cases e
    exact List.mem_flatMap.mpr ⟨_, hm, List.mem_filterMap.mpr ⟨_, hq, rfl⟩⟩
  | prop g => cases e
theorem meth_ok {m : Str} {t : List (Nat × Nat)} (h : look m gs.meths = some t) : MethOk (gtOf gs tab) m t := fun k f ha =>
  List.mem_flatMap.mpr ⟨_, look_mem h, List.mem_map.mpr ⟨_, ha, rfl⟩⟩
theorem lens_ok : MethOk (gtOf gs tab) ("__len__" : Str) (lensOf gs) := fun k f ha => by
  unfold lensOf at ha
  cases e : look "__len__" gs.meths with
  | none => rw [e] at ha; cases ha
  | some t =>
    rw [e] at ha
    exact meth_ok (tab := tab) e k f ha
theorem is_own {c : Nat} {t : List (Nat × Bool)} (h : lookC c gs.iss = some t) : IsOk (gtOf gs tab) (.own c) t := fun j b ha =>
  List.mem_flatMap.mpr ⟨_, lookC_mem h, List.mem_map.mpr ⟨_, ha, rfl⟩⟩
theorem is_bt {kd : IsK} (hk : ∀ i, kd ≠ .own i) : IsOk (gtOf gs tab) kd (isTab gs) := fun j b ha => by
  have key : b = false ∧ ∃ x, (x, j) ∈ (gtOf gs tab).cls := by
    obtain ⟨q, hq, e⟩ := List.mem_filterMap.mp ha
    obtain ⟨x, r⟩ := q
    cases r <;> first | (cases e; done) | skip
    cases e
    exact ⟨rfl, x, List.mem_filterMap.mpr ⟨_, hq, rfl⟩⟩
  cases kd <;> first | exact key | exact absurd rfl (hk _)
theorem fn_mem {x : Str} {f : Nat} (h : look x gs.roles = some (.fn f)) : (x, f) ∈ (gtOf gs tab).fns := List.mem_filterMap.mpr ⟨_, look_mem h, rfl⟩
theorem cl_mem {x : Str} {f : Nat} (h : look x gs.roles = some (.cl f)) : (x, f) ∈ (gtOf gs tab).cls := List.mem_filterMap.mpr ⟨_, look_mem h, rfl⟩
theorem ci_mem {x : Str} {f : Int} (h : look x gs.roles = some (.ci f)) : (x, f) ∈ (gtOf gs tab).cints := List.mem_filterMap.mpr ⟨_, look_mem h, rfl⟩
theorem bt_mem {x : Str} {b : Bt} (h : look x gs.roles = some (.bt b)) : x ∈ (gtOf gs tab).free := List.mem_filterMap.mpr ⟨_, look_mem h, rfl⟩

/-! ### what is not served -/
variable {G : GT}
theorem se_bad {e : Expr} : SE G p sc e eBad := fun k W X cx => ⟨fun pins s σ H Q I ⟨_, _, _, _, _, hp⟩ => hp.elim⟩
theorem st_bad {e : Expr} : ST G p sc e tBad := fun k W X cx => ⟨fun pins s σ H Q I ⟨_, _, _, _, _, hp⟩ => hp.elim⟩
theorem sa_bad {e : List Expr} : SA G p sc e aBad := fun k W X cx => ⟨fun pos pins s σ H Q I ⟨_, _, _, _, _, hp⟩ => hp.elim⟩
theorem sn_bad {e : Expr} : SN G p sc e aBad := fun k W X cx => ⟨fun pins s σ H Q I ⟨_, _, _, _, _, hp⟩ => hp.elim⟩
theorem sl_bad {e : Expr} : SL G p sc e aBad := fun k W X cx => ⟨fun pins s σ H Q I ⟨_, _, _, _, _, hp⟩ => hp.elim⟩
theorem si_bad {tg e : Expr} : SI G p sc tg e (iOf eBad) := fun k W X cx => ⟨fun pins s σ H Q I ⟨_, _, _, _, _, hp⟩ => hp.elim⟩
theorem sss_bad {e : List Stmt} : SSs G p sc e sBad := fun k W X cx => ⟨fun pins s σ H Q I ⟨_, _, _, _, _, hp⟩ => hp.elim⟩
theorem sts_bad {e : List Expr} : STs G p sc e tBad := fun k W X cx => ⟨fun pins s σ H Q I ⟨_, _, _, _, _, hp⟩ => hp.elim⟩

structure Good (G : GT) (p : Pl) (r : CS evA) : Prop where
  e : ∀ sc x, SE G p sc x (r.e sc x)
  t : ∀ sc x, ST G p sc x (r.t sc x)
  a : ∀ sc x, SA G p sc x (r.a sc x)
  n : ∀ sc x, SN G p sc x (r.n sc x)
  l : ∀ sc x, SL G p sc x (r.l sc x)
  q : ∀ sc x, SQ G p sc x (r.q sc x)
  i : ∀ sc tg x, SI G p sc tg x (r.i sc tg x)
  s : ∀ sc x, SS G p sc x (r.s sc x)
  ss : ∀ sc x, SSs G p sc x (r.ss sc x)
theorem good_bad : Good G p (badCS evA) where
  e := fun _ _ => se_bad
  t := fun _ _ => st_bad
  a := fun _ _ => sa_bad
  n := fun _ _ => sn_bad
  l := fun _ _ => sl_bad
  q := fun _ _ => sq_of se_bad
  i := fun _ _ _ => si_bad
  s := fun _ _ => ss_bad
  ss := fun _ _ => sss_bad

/-! ### expressions -/
theorem glob_ok {x : Str} {b : Bool} (h : isGlob sc x = true) : SE (gtOf gs tab) p sc (.Name x pos) (match look x gs.roles with
    | some (.ci i) => eC (.int i)
    | _ => eBad) := by
  obtain ⟨h1, h2⟩ := isGlob_ok h
  cases e : look x gs.roles with
  | none => exact se_bad
  | some r => cases r <;> first | exact se_bad | exact se_gint h1 (ci_mem e) h2
theorem name_ok {x : Str} : SE (gtOf gs tab) p sc (.Name x pos) (cName gs sc evA x) := by
  have gl : SE (gtOf gs tab) p sc (.Name x pos) (cName.cGlob gs sc evA x) := cnd_rec (fun h => glob_ok (b := true) h) se_bad
  unfold cName
  cases e : idx x sc.N with
  | none => exact gl
  | some i =>
    refine cnd_rec (fun h => ?_) gl
    cases e1 : eqS x "__debug__" with
    | true => exact se_bad
    | false =>
      cases e2 : eqS x "__classdict__" with
      | true => exact se_bad
      | false => exact se_var (idx_get e) (isVis_ok h) (by simpa using eqS_ff e1) (by simpa using eqS_ff e2)
theorem const_ok {c : Const} {j : Nat} : SE G p sc (.Constant c j pos) (cConst evA c) := by
  cases c <;> first | exact se_non | exact se_bl | exact se_int | exact se_str | exact se_bad
theorem pr_ok {v : PV} {h : Mem} : Pure (Res.ok v h) := fun e h' z => by cases z
theorem pr_bad : Pure (Res.bad : Res PV) := fun e h' z => by cases z
theorem pr_cnd {b : Bool} {x y : Res PV} (h1 : Pure x) (h2 : Pure y) : Pure (cnd b x y) := cnd_rec (fun _ => h1) h2
theorem pr_bin (o : BO) (x y : PV) (h : Mem) : Pure (binop o x y h) := by
  cases o with
  | add =>
    unfold binop addV
    cases x <;> cases y <;> first | exact pr_bad | exact pr_ok | exact pr_cnd pr_ok pr_bad | skip
    all_goals (simp only [listOf]; repeat' split)
    all_goals first | exact pr_bad | exact pr_ok | exact pr_cnd pr_ok pr_bad
  | mul =>
    unfold binop mulV
    cases x <;> cases y <;> first | exact pr_bad | exact pr_ok | exact pr_cnd pr_ok (pr_cnd pr_ok pr_bad) | skip
    all_goals (simp only [listOf]; repeat' split)
    all_goals first | exact pr_bad | exact pr_ok | exact pr_cnd (pr_cnd (pr_cnd pr_ok pr_bad) pr_bad) pr_bad
  | sub => cases x <;> cases y <;> first | exact pr_bad | exact pr_ok
  | fdiv => cases x <;> cases y <;> first | exact pr_bad | exact pr_cnd (pr_cnd pr_ok pr_bad) pr_bad
  | mod => cases x <;> cases y <;> first | exact pr_bad | exact pr_cnd pr_ok pr_bad
  | pow => cases x <;> cases y <;> first | exact pr_bad | exact pr_cnd (pr_cnd (pr_cnd pr_ok pr_bad) pr_bad) pr_bad
theorem bin_ok {op : Operator} {o : BO} (e : boOf op = some o) (X : Cx) : OpR X (binaryOp op) (rV2 X.K p (binop o)) := by
  cases op <;> cases e
  · exact add_ok
  · exact sub_ok
  · exact mul_ok
  · exact mod_ok
  · exact pow_ok
  · exact fdiv_ok
variable {r : CS evA}
theorem se_bin {a b : Expr} {op : Operator} {o : BO} {fa fb : XE} (e : boOf op = some o) (ha : SE G p sc a fa) (hb : SE G p sc b fb) : SE G p sc (.BinOp a op b pos) (eBin o fa fb) :=
  se_bin2 (pr_bin o) (bin_ok e) ha hb
theorem cmp_c (g : Good G p r) {a : Expr} {ops : List CmpOp} {bs : List Expr} : SE G p sc (.Compare a ops bs pos) (cCmp r sc a ops bs) := by
  unfold cCmp
  split
  · split
    · split
      · rename_i e
        cases hm : behindInMarks _ _ with
        | true => exact se_bad
        | false => exact se_cmp e (g.e _ _) (g.e _ _) hm
      · exact se_bad
    · exact se_bad
  · split
    · split
      · split
        · rename_i e _ _ e'
          cases hm : behindInMarks _ _ with
          | true => exact se_bad
          | false =>
            cases hm' : behindInMarks _ _ with
            | true => exact se_bad
            | false => exact se_chain e e' (g.e _ _) (g.e _ _) (g.e _ _) hm hm'
        · exact se_bad
      · exact se_bad
    · exact se_bad
  · exact se_bad
theorem cmp_t (g : Good G p r) {a : Expr} {ops : List CmpOp} {bs : List Expr} (h : isCmp1 ops bs = true) : ST G p sc (.Compare a ops bs pos) (tE (cCmp r sc a ops bs)) := by
  unfold isCmp1 at h
  split at h
  · split at h
    · split at h
      · rename_i op _ b _ o e
        rw [bnot_eq] at h
        have hm : behindInMarks op b = false := by simpa using h
        unfold cCmp
        simp only [e, hm, cnd_false]
        exact st_cmp e (g.e _ _) (g.e _ _) hm
      · cases h
    · cases h
  · split at h
    · split at h
      · split at h
        · rename_i op op' _ b d _ o e _ o' e'
          cases hm : behindInMarks op b with
          | true => rw [hm] at h; cases h
          | false =>
            rw [hm] at h
            have h : bnot (behindInMarks op' d) = true := h
            rw [bnot_eq] at h
            have hm' : behindInMarks op' d = false := by simpa using h
            unfold cCmp
            simp only [e, e', hm, hm', cnd_false]
            exact st_chain e e' (g.e _ _) (g.e _ _) (g.e _ _) hm hm'
        · cases h
      · cases h
    · cases h
  · cases h
theorem opt_ok (g : Good G p r) {o : Option Expr} : SO G p sc o (cOpt r sc o) := by
  cases o with
  | none => exact so_none
  | some e => exact so_some (g.e _ _)
theorem boot_is {b : Bt} {kd : IsK} (h : btIs b = some kd) : ∃ n, bootBuiltins (btName b) = some (.type n) ∧ tyN kd = some n ∧ btName b ≠ "__name__" ∧ (∀ i, kd ≠ .own i) := by
  cases b <;> cases h
  · exact ⟨"int", by decide +kernel, rfl, by decide, fun i z => (nomatch z)⟩
  · exact ⟨"bool", by decide +kernel, rfl, by decide, fun i z => (nomatch z)⟩
  · exact ⟨"str", by decide +kernel, rfl, by decide, fun i z => (nomatch z)⟩
  · exact ⟨"tuple", by decide +kernel, rfl, by decide, fun i z => (nomatch z)⟩
  · exact ⟨"list", by decide +kernel, rfl, by decide, fun i z => (nomatch z)⟩
theorem is_c (g : Good (gtOf gs tab) p r) (ok : GsOk gs tab) {a b : Expr} {q : Pos} (hg : sc.scope.names.lookup ("isinstance" : Str) = some .globalImplicit) (hf : ("isinstance" : Str) ∈ (gtOf gs tab).free) (hs : notStar a = true) :
    SE (gtOf gs tab) p sc (.Call (.Name "isinstance" q) [a, b] [] pos) (cIs gs r sc a b) := by
  cases b <;> first | exact se_bad | skip
  rename_i y q2
  refine cnd_rec (fun h => ?_) se_bad
  obtain ⟨h1, h2⟩ := isGlob_ok h
  split
  · rename_i e
    split
    · rename_i e2
      exact se_isC hg hf h1 (cl_mem e) h2 (is_own e2) hs (g.e _ _)
    · exact se_bad
  · rename_i b e
    split
    · rename_i kd e2
      obtain ⟨n, k1, k2, k3, k4⟩ := boot_is e2
      have en := ok.bt _ _ (look_mem e)
      subst en
      exact se_isT hg hf h1 (bt_mem e) k1 k3 h2 k2 (is_bt k4) hs (g.e _ _)
    · exact se_bad
  · exact se_bad
theorem setArg_ok (ok : GsOk gs tab) {e x : Expr} (h : setArg gs sc e = some x) : ∃ q pos2, e = .Call (.Name "set" q) [x] [] pos2 ∧ sc.scope.names.lookup ("set" : Str) = some .globalImplicit ∧ ("set" : Str) ∈ (gtOf gs tab).free := by
  unfold setArg at h
  split at h
  · split at h
    · split at h
      · split at h
        · rename_i y q a _ _
          cases hg : isGlob sc y with
          | false => rw [hg] at h; cases h
          | true =>
            rw [hg] at h
            simp only [cnd_true] at h
            split at h
            · rename_i e
              cases h
              have en := ok.bt _ _ (look_mem e)
              subst en
              exact ⟨_, _, rfl, (isGlob_ok hg).1, bt_mem e⟩
            · cases h
        · cases h
      · cases h
    · cases h
  · cases h
theorem rgArg_ok (ok : GsOk gs tab) {e x : Expr} (h : rgArg gs sc e = some x) : ∃ q pos2, e = .Call (.Name "range" q) [x] [] pos2 ∧ sc.scope.names.lookup ("range" : Str) = some .globalImplicit ∧ ("range" : Str) ∈ (gtOf gs tab).free := by
  unfold rgArg at h
  split at h
  · split at h
    · split at h
      · split at h
        · rename_i y q a _ _
          cases hg : isGlob sc y with
          | false => rw [hg] at h; cases h
          | true =>
            rw [hg] at h
            simp only [cnd_true] at h
            split at h
            · rename_i e
              cases h
              have en := ok.bt _ _ (look_mem e)
              subst en
              exact ⟨_, _, rfl, (isGlob_ok hg).1, bt_mem e⟩
            · cases h
        · cases h
      · cases h
    · cases h
  · cases h
theorem ts1_ok (g : Good G p r) (ifs : List Expr) : STs G p sc ifs (cTs1 r sc ifs) := by
  match ifs with
  | [] => exact sts_nil
  | [c] => exact sts_one (g.t _ _)
  | _ :: _ :: _ => exact sts_bad
theorem isNonC_ok {d : Expr} (h : isNonC d = true) : ∃ j q, d = .Constant .none j q := by
  cases d <;> first | (cases h; done) | skip
  rename_i c j q
  cases c <;> first | (cases h; done) | exact ⟨j, q, rfl⟩
theorem next_c (g : Good (gtOf gs tab) p r) {a d : Expr} {q : Pos} (hg : sc.scope.names.lookup ("next" : Str) = some .globalImplicit) (hf : ("next" : Str) ∈ (gtOf gs tab).free) :
    SE (gtOf gs tab) p sc (.Call (.Name "next" q) [a, d] [] pos) (cNext r sc a d) := by
  cases a <;> first | exact se_bad | skip
  rename_i elt gens scope gpos
  match gens with
  | [] => exact se_bad
  | [⟨tg, it, ifs, as⟩] =>
    refine cnd_rec (fun hd => ?_) se_bad
    obtain ⟨j, qd, rfl⟩ := isNonC_ok hd
    unfold cNext1
    split
    · rename_i ls hlam
      split
      · rename_i t e
        refine cnd_rec (fun h0 => cnd_rec (fun h1 => cnd_rec (fun h2 => cnd_rec (fun h3 => cnd_rec (fun h4 => ?_) se_bad) se_bad) se_bad) se_bad) se_bad
        have : as = 0 := ieq_iff.mp h0
        subst this
        rw [bnot_eq] at h1
        exact se_nextG hf hg hlam (by simpa using h1) h2 (tgIn_of (subsetB_ok h3)) h4 (g.i _ _ _) (tgC_ok e) (ts1_ok g ifs) (g.e _ _)
      · exact se_bad
    · exact se_bad
  | _ :: _ :: _ => exact se_bad
theorem bt1_ok (g : Good (gtOf gs tab) p r) (ok : GsOk gs tab) {b : Bt} {a : Expr} {q : Pos} (hg : sc.scope.names.lookup (btName b) = some .globalImplicit) (hf : btName b ∈ (gtOf gs tab).free) (hs : notStar a = true) :
    SE (gtOf gs tab) p sc (.Call (.Name (btName b) q) [a] [] pos) (cBt1 gs r sc b a) := by
  have hs1 : noStars [a] = true := by unfold noStars; rw [hs]; rfl
  cases b <;> first | exact se_bad | skip
  · exact se_maxL hg hf hs (g.l _ _)
  · exact se_minL hg hf hs (g.l _ _)
  · exact se_abs hg hf hs1 (g.a _ _)
  · exact se_len lens_ok hg hf hs (g.e _ _)
  · exact se_int1 hg hf hs1 (g.a _ _)
  · exact se_tupL hg hf hs (g.l _ _)
  · unfold cBt1
    simp only
    split
    · rename_i x e
      obtain ⟨q2, pos2, rfl, h1, h2⟩ := rgArg_ok ok e
      exact cnd_rec (fun h => se_lrg hg hf h1 h2 h (g.e _ _)) se_bad
    · exact se_listL hg hf hs (g.l _ _)
  · exact se_dict hg hf hs1 (g.a _ _)
  · exact se_all hg hf hs (g.l _ _)
  · exact se_any hg hf hs (g.l _ _)
  · exact cnd_rec (fun _ => se_sumA hg hf hs (g.e _ _)) (se_sum hg hf hs (g.l _ _))
  · unfold cBt1
    simp only
    split
    · rename_i x e
      obtain ⟨q2, pos2, rfl, h1, h2⟩ := setArg_ok ok e
      exact cnd_rec (fun h => se_ss hg hf h1 h2 h (g.e _ _)) se_bad
    · exact se_bad
theorem bt2_ok (g : Good (gtOf gs tab) p r) (ok : GsOk gs tab) {b : Bt} {a d : Expr} {q : Pos} (hg : sc.scope.names.lookup (btName b) = some .globalImplicit) (hf : btName b ∈ (gtOf gs tab).free) (hs : noStars [a, d] = true) :
    SE (gtOf gs tab) p sc (.Call (.Name (btName b) q) [a, d] [] pos) (cBt2 gs r sc b a d) := by
  cases b <;> first | exact se_bad | skip
  · exact se_max2 hg hf hs (g.a _ _)
  · exact se_min2 hg hf hs (g.a _ _)
  · exact is_c g ok hg hf (noStars_cons hs).1
  · exact next_c g hg hf
theorem fn_ok (g : Good (gtOf gs tab) p r) (ok : GsOk gs tab) {x : Str} {args : List Expr} {q : Pos} : SE (gtOf gs tab) p sc (.Call (.Name x q) args [] pos) (cFn gs r sc x args) := by
  unfold cFn
  refine cnd_rec (fun h => ?_) se_bad
  obtain ⟨h1, h2⟩ := isGlob_ok h
  split
  · rename_i f e
    have hk := ok.fn _ _ (look_mem e)
    split
    · exact se_call0 h1 (fn_mem e) hk h2
    · exact cnd_rec (fun hs => se_call h1 (fn_mem e) hk h2 hs (g.a _ _)) se_bad
  · rename_i c e
    split
    · exact se_bad
    · split
      · rename_i f n e2
        exact cnd_rec (fun hs => se_make h1 (cl_mem e) (lookC_mem e2) h2 hs (g.a _ _)) se_bad
      · exact se_bad
  · rename_i b e
    have en := ok.bt _ _ (look_mem e)
    subst en
    split
    · exact cnd_rec (fun hs => bt1_ok g ok h1 (bt_mem e) hs) se_bad
    · exact cnd_rec (fun hs => bt2_ok g ok h1 (bt_mem e) hs) se_bad
    · exact se_bad
  · exact se_bad
theorem bm_ok (g : Good (gtOf gs tab) p r) {a : Expr} {m : Str} {args : List Expr} {apos : Pos} (hb : plainBase a = true) (hl : (apos.endLine == pos.line) = true) : SE (gtOf gs tab) p sc (.Call (.Attribute a m apos) args [] pos) (cBm r sc a m args) := by
  unfold cBm
  split
  · refine cnd_rec (fun h => ?_) se_bad
    have := eqS_iff.mp h
    subst this
    exact se_clrD hb hl (g.e _ _)
  · refine cnd_rec (fun hs => cnd_rec (fun h => ?_) (cnd_rec (fun h => ?_) (cnd_rec (fun h => ?_) se_bad))) se_bad
    · have := eqS_iff.mp h
      subst this
      exact se_app hb hs hl (g.e _ _) (g.e _ _)
    · have := eqS_iff.mp h
      subst this
      exact se_ext hb hs hl (g.e _ _) (g.e _ _)
    · have := eqS_iff.mp h
      subst this
      exact se_get1 hb hs hl (g.e _ _) (g.e _ _)
  · refine cnd_rec (fun hs => cnd_rec (fun hs2 => cnd_rec (fun h => ?_) se_bad) se_bad) se_bad
    have := eqS_iff.mp h
    subst this
    exact se_get2 hb hs hs2 hl (g.e _ _) (g.e _ _) (g.e _ _)
  · exact se_bad
theorem mth_ok (g : Good (gtOf gs tab) p r) {a : Expr} {m : Str} {args : List Expr} {apos : Pos} : SE (gtOf gs tab) p sc (.Call (.Attribute a m apos) args [] pos) (cMeth gs r sc a m args apos pos) := by
  unfold cMeth
  refine cnd_rec (fun hb => cnd_rec (fun hl => ?_) se_bad) se_bad
  split
  · rename_i t e
    split
    · exact se_meth0 (meth_ok e) hb hl (g.e _ _)
    · exact cnd_rec (fun hs => cnd_rec (fun hn => se_meth (meth_ok e) hb hs hn hl (g.e _ _) (g.a _ _)) se_bad) se_bad
  · exact bm_ok g hb hl
theorem ts_ok (g : Good G p r) (ifs : List Expr) : STs G p sc ifs (cTs r sc ifs) := by
  match ifs with
  | [] => exact sts_nil
  | [c] => exact sts_one (g.t _ _)
  | _ :: _ :: _ => exact sts_bad
theorem lcOk_ok {scope : Scope} {it : Expr} {g : Tg} (h : lcOk sc scope it g = true) : blkC sc.N sc.scope scope (ownOf sc.N scope.names) = true ∧ notSet it = true ∧ ∀ i ∈ tgIdx g, i ∈ (ownOf sc.N scope.names).map (·.2) := by
  unfold lcOk at h
  cases e1 : blkC sc.N sc.scope scope (ownOf sc.N scope.names) with
  | false => rw [e1] at h; cases h
  | true =>
    rw [e1] at h
    cases e2 : notSet it with
    | false => rw [e2] at h; cases h
    | true =>
      rw [e2] at h
      exact ⟨rfl, rfl, subsetB_ok h⟩
theorem async0 {i : Int} (h : ieq i 0 = true) : i = 0 := ieq_iff.mp h
theorem dc_ok (g : Good G p r) {kx vx : Expr} {gens : List Comprehension} {scope : Scope} : SE G p sc (.DictComp kx vx gens scope pos) (cDc r sc kx vx gens scope) := by
  match gens with
  | [] => exact se_bad
  | [⟨tg, it, ifs, as⟩] =>
    unfold cDc
    simp only
    split
    · rename_i t e
      refine cnd_rec (fun h0 => cnd_rec (fun h => ?_) se_bad) se_bad
      have := async0 h0
      subst this
      obtain ⟨h1, h2, h3⟩ := lcOk_ok h
      exact se_dc1 h1 h2 (tgIn_of h3) (g.i _ _ _) (tgC_ok e) (ts_ok g ifs) (g.e _ _) (g.e _ _)
    · exact se_bad
  | _ :: _ :: _ => exact se_bad
theorem lam1_ok {v : Expr} {y : Str} {apos lpos : Pos} {body : Expr} {scope : Scope} (h : lam1 v = some (y, apos, body, scope, lpos)) : v = .Lambda ⟨[], [⟨y, none, apos⟩], none, [], [], none, []⟩ body scope lpos := by
  cases v <;> first | (cases h; done) | skip
  rename_i ps b s q
  unfold lam1 at h
  simp only at h
  split at h
  · cases h; rfl
  · cases h
theorem kw_ok (g : Good (gtOf gs tab) p r) (ok : GsOk gs tab) {x : Str} {args : List Expr} {q : Pos} {kw : Keyword} : SE (gtOf gs tab) p sc (.Call (.Name x q) args [kw] pos) (cKw gs r sc x args kw.arg kw.value) := by
  obtain ⟨nm, v, kpos⟩ := kw
  unfold cKw
  refine cnd_rec (fun h => ?_) se_bad
  obtain ⟨h1, h2⟩ := isGlob_ok h
  split
  · rename_i e
    have en := ok.bt _ _ (look_mem e)
    subst en
    split
    · simp only
      split
      · rename_i n
        refine cnd_rec (fun hn => ?_) se_bad
        have := eqS_iff.mp hn
        subst this
        unfold cKey
        split
        · rename_i y apos body scope lpos el
          have := lam1_ok el
          subst this
          split
          · rename_i ls hlam
            split
            · rename_i ip hix
              exact cnd_rec (fun hp => cnd_rec (fun hL => cnd_rec (fun hs => se_sortK (bt_mem e) h1 (g.l _ _) (g.e _ _) hlam hp (idx_get hix) hL hs) se_bad) se_bad) se_bad
            · exact se_bad
          · exact se_bad
        · exact se_bad
      · exact se_bad
    · exact se_bad
  · exact se_bad
theorem e_ok (g : Good (gtOf gs tab) p r) (ok : GsOk gs tab) (e : Expr) : SE (gtOf gs tab) p sc e (cE gs r sc e) := by
  cases e <;> first | exact se_bad | skip
  case Name x pos => exact name_ok
  case Constant c j pos => exact const_ok
  case BinOp a op b pos =>
    unfold cE
    simp only
    split
    · rename_i o e; exact se_bin e (g.e _ _) (g.e _ _)
    · exact se_bad
  case UnaryOp op a pos =>
    cases op <;> first | exact se_bad | skip
    · exact se_not (g.e _ _)
    · cases a <;> first | exact se_bad | skip
      rename_i c _ _
      cases c <;> first | exact se_bad | exact se_neg
  case BoolOp op es pos =>
    match es with
    | [] => exact se_bad
    | [a] => exact se_one (g.e _ _)
    | a :: b :: rest =>
      cases op with
      | And => exact se_and (g.e _ _) (g.e _ _)
      | Or => exact se_or (g.e _ _) (g.e _ _)
  case Compare a ops bs pos => exact cmp_c g
  case IfExp c a b pos => exact se_if (g.t _ _) (g.e _ _) (g.e _ _)
  case Tuple es k pos => exact se_tup (g.a _ _)
  case List es pos => exact se_new (g.n _ _)
  case ListComp x gs s pos => exact se_new (g.n _ _)
  case Dict ks vs pos =>
    cases ks with
    | nil => cases vs with
      | nil => exact se_dic0
      | cons _ _ => exact se_bad
    | cons _ _ => exact se_bad
  case DictComp kx vx gs s pos => exact dc_ok g
  case Subscript a b pos =>
    cases b <;> first | exact se_sub (g.e _ _) (g.e _ _) rfl | skip
    rename_i lo hi st _
    cases st with
    | none => exact se_sl (g.e _ _) (opt_ok g) (opt_ok g)
    | some _ => exact se_bad
  case Attribute a f pos =>
    unfold cE
    simp only
    split
    · rename_i t e; exact cnd_rec (fun h => se_fld (att_ok e) h (g.e _ _)) se_bad
    · exact se_bad
  case Call f args kws pos =>
    cases kws with
    | nil =>
      cases f <;> first | exact se_bad | skip
      · exact mth_ok g
      · exact fn_ok g ok
    | cons kw more => cases more with
      | nil =>
        cases f <;> first | exact se_bad | skip
        exact kw_ok g ok
      | cons _ _ => cases f <;> exact se_bad
/-! ### tests -/
theorem sw_bad {op : BoolOp} {es : List Expr} : SW G p sc (.BoolOp op es pos) tBad := fun k W X cx => ⟨fun wh pins s σ H Q I ⟨_, _, _, _, _, hp⟩ => hp.elim⟩
theorem w_ok (g : Good G p r) (op : BoolOp) : ∀ es : List Expr, SW G p sc (.BoolOp op es pos) (cW r sc op es)
  | [] => sw_bad
  | [a] => sw_one (g.t _ _)
  | a :: b :: rest => by
    have ih := w_ok g op (b :: rest)
    cases op with
    | And => exact sw_and (g.t _ _) ih
    | Or => exact sw_or (g.t _ _) ih
theorem t_ok (g : Good G p r) (e : Expr) : ST G p sc e (cT r sc e) := by
  cases e <;> first | exact st_bad | skip
  case Compare a ops bs pos => exact cnd_rec (fun h => cmp_t g h) st_bad
  case UnaryOp op a pos =>
    cases op <;> first | exact st_bad | exact st_not (g.t _ _)
  case BoolOp op es pos => exact st_w (w_ok g op es)
  case Name x pos => exact st_val (fun X whole => rfl) (g.e _ _)
  case Call f args kws pos => exact st_val (fun X whole => rfl) (g.e _ _)
  case Attribute a f pos => exact st_val (fun X whole => rfl) (g.e _ _)
  case Subscript a b pos => exact st_val (fun X whole => rfl) (g.e _ _)
theorem a_ok (g : Good G p r) (es : List Expr) : SA G p sc es (cA r sc es) := by
  cases es with
  | nil => exact sa_nil
  | cons e es =>
    cases e <;> first | exact cnd_rec (fun h => sa_cons h (g.e _ _) (g.a _ _)) sa_bad | skip
    exact sa_star (g.e _ _) (g.a _ _)
theorem lc_ok (g : Good G p r) {elt : Expr} {gens : List Comprehension} {scope : Scope} : SN G p sc (.ListComp elt gens scope pos) (cLc r sc elt gens scope) := by
  match gens with
  | [] => exact sn_bad
  | [⟨tg, it, ifs, as⟩] =>
    unfold cLc
    simp only
    split
    · rename_i t e
      refine cnd_rec (fun h0 => cnd_rec (fun h => ?_) sn_bad) sn_bad
      have := async0 h0
      subst this
      obtain ⟨h1, h2, h3⟩ := lcOk_ok h
      exact sn_lc1 h1 h2 (tgIn_of h3) (g.i _ _ _) (tgC_ok e) (ts_ok g ifs) (g.e _ _)
    · exact sn_bad
  | [⟨tg, it, ifs, as⟩, ⟨tg1, it1, ifs1, as1⟩] =>
    unfold cLc
    simp only
    split
    · rename_i t e
      split
      · rename_i t1 e1
        refine cnd_rec (fun h0 => cnd_rec (fun h00 => cnd_rec (fun h => cnd_rec (fun h' => ?_) sn_bad) sn_bad) sn_bad) sn_bad
        have := async0 h0
        subst this
        have := async0 h00
        subst this
        obtain ⟨h1, h2, h3⟩ := lcOk_ok h
        obtain ⟨_, h5, h6⟩ := lcOk_ok h'
        exact sn_lc2 h1 h6 h2 h5 (tgIn_of h3) (tgIn_of fun i hi => hi) (g.i _ _ _) (tgC_ok e) (ts_ok g ifs) (g.i _ _ _) (tgC_ok e1) (ts_ok g ifs1) (g.e _ _)
      · exact sn_bad
    · exact sn_bad
  | _ :: _ :: _ :: _ => exact sn_bad
theorem n_ok (g : Good G p r) (e : Expr) : SN G p sc e (cN r sc e) := by
  cases e <;> first | exact sn_bad | skip
  case List es pos => exact sn_list (g.a _ _)
  case ListComp x gs s pos => exact lc_ok g
theorem l_ok (g : Good G p r) (e : Expr) : SL G p sc e (cL r sc e) := cnd_rec (fun _ => sl_new (g.n _ _)) (sl_of (g.e _ _))
theorem q_ok (g : Good G p r) (e : Expr) : SQ G p sc e (cQ r sc e) := cnd_rec (fun _ => sq_new (g.n _ _)) (sq_of (g.e _ _))
theorem btCall_ok (ok : GsOk gs tab) {e : Expr} {b : Bt} {args : List Expr} (h : btCall gs sc e = some (b, args)) : ∃ q pos, e = .Call (.Name (btName b) q) args [] pos ∧ sc.scope.names.lookup (btName b) = some .globalImplicit ∧ btName b ∈ (gtOf gs tab).free := by
  unfold btCall at h
  split at h
  · split at h
    · split at h
      · rename_i x q _
        cases hg : isGlob sc x with
        | false => rw [hg] at h; cases h
        | true =>
          rw [hg] at h
          simp only [cnd_true] at h
          split at h
          · rename_i e
            cases h
            have en := ok.bt _ _ (look_mem e)
            subst en
            exact ⟨_, _, rfl, (isGlob_ok hg).1, bt_mem e⟩
          · cases h
      · cases h
    · cases h
  · cases h
theorem tup_ex {tg : Expr} (h : isTupT tg = true) : ∃ es k pos, tg = .Tuple es k pos := by
  cases tg <;> first | exact ⟨_, _, _, rfl⟩ | cases h
theorem i0_ok (g : Good (gtOf gs tab) p r) (tg e : Expr) : SI (gtOf gs tab) p sc tg e (cI0 gs r sc tg e) := by
  have d : SI (gtOf gs tab) p sc tg e (r.q sc e) := si_q (g.q _ _)
  have d2 : SI (gtOf gs tab) p sc tg e (cAny gs r sc e) := by
    unfold cAny
    split
    · exact si_any (g.e _ _)
    · exact si_anyO (fun q hq => hq) (g.e _ _)
  unfold cI0
  split
  · split
    · split
      · split
        · refine cnd_rec (fun hb => cnd_rec (fun hl => cnd_rec (fun h => cnd_rec (fun ht => ?_) d) (cnd_rec (fun h => ?_) d2)) d) d
          · have := eqS_iff.mp h
            subst this
            obtain ⟨es, k, tp, rfl⟩ := tup_ex ht
            exact si_items hb hl (g.e _ _)
          · have := eqS_iff.mp h
            subst this
            exact si_vals hb hl (g.e _ _)
        · exact d
      · exact d2
    · exact d2
  · exact cnd_rec (fun _ => d) d2
theorem i_ok (g : Good (gtOf gs tab) p r) (ok : GsOk gs tab) (tg e : Expr) : SI (gtOf gs tab) p sc tg e (cI gs r sc tg e) := by
  have d : SI (gtOf gs tab) p sc tg e (r.q sc e) := si_q (g.q _ _)
  unfold cI
  split
  · rename_i b args h
    obtain ⟨q, pos, rfl, h1, h2⟩ := btCall_ok ok h
    split
    · split
      · exact cnd_rec (fun hs => si_r1 h1 h2 hs (g.e _ _)) d
      · exact cnd_rec (fun hs => si_r2 h1 h2 hs (g.e _ _) (g.e _ _)) d
      · exact cnd_rec (fun hs => si_r3 h1 h2 hs (g.e _ _) (g.e _ _) (g.e _ _)) d
      · exact d
    · split
      · refine cnd_rec (fun ht => cnd_rec (fun hs => ?_) d) d
        obtain ⟨es, k, tp, rfl⟩ := tup_ex ht
        exact si_enum h1 h2 hs (g.q _ _)
      · exact d
    · split
      · refine cnd_rec (fun ht => cnd_rec (fun hs => ?_) d) d
        obtain ⟨es, k, tp, rfl⟩ := tup_ex ht
        exact si_zip h1 h2 hs (g.q _ _) (g.q _ _)
      · exact d
    · exact d
  · exact i0_ok g tg e

/-! ### statements -/
theorem swB_ok {v : Expr} {y : Str} {py : Pos} {l : Nat} {env : PySem.Env} (he : env.scope = sc.scope) : swapsWith v (some (.Name y py)) l env = pure (swB sc v y py) := by
  cases v <;> first | rfl | skip
  all_goals
    unfold swapsWith swB lcScope
    rw [← he]
    rfl
theorem ss_setB {x : Str} {i : Nat} {pos' : Pos} {a : Expr} {fa : XE} (hi : sc.N[i]? = some x) (hx : Loc sc.scope x) (hf : sc.fn x = true ∨ sc.scope.names.lookup x = some .local) (hs : swB sc a x pos' = false) (ha : SE G p sc a fa) : SS G p sc (.Assign [.Name x pos'] a pos) (sAsg fa (gName i)) := fun k W X cx =>
  PS.imp (ps_set (i := i) cx.nd (by rw [cx.n]; exact hi) (by rw [cx.sco]; exact hx) (ha k W X cx) (by rw [swB_ok cx.sco, hs]) (by rw [cx.fn, cx.sco]; exact hf)) fun D σ H ⟨s, h, m, rh, re, hp⟩ =>
    ts_te rh re hp fun v H1 y h1 m1 rh1 re1 ra hp1 => hp1 m1 H1 _ rh1.refl rh1 (re1.set i ra)
theorem isFn_ok {s : Scope} (h : isFn s = true) : s.kind = .function := by
  unfold isFn at h
  split at h
  · assumption
  · cases h
theorem swB_parts {elt : Expr} {gens : List Comprehension} {scope : Scope} {y : Str} {py : Pos} (h : swB sc (.ListComp elt gens scope pos) y py = true) : sc.scope.names.lookup y = some .local ∧ (py.line == pos.line) = true ∧ (scope.names.any fun (n, k) => n == y && (k == .local || k == .cell)) = false := by
  have h : ((bkOf sc.scope == .function) && (sc.scope.names.lookup y == some .local) && (py.line == pos.line) && !(scope.names.any fun (n, k) => n == y && (k == .local || k == .cell))) = true := h
  simp only [Bool.and_eq_true] at h
  obtain ⟨⟨⟨_, h2⟩, h3⟩, h4⟩ := h
  refine ⟨by simpa using h2, h3, by simpa using h4⟩
theorem swB_partsD {kx vx : Expr} {gens : List Comprehension} {scope : Scope} {y : Str} {py : Pos} (h : swB sc (.DictComp kx vx gens scope pos) y py = true) : sc.scope.names.lookup y = some .local ∧ (py.line == pos.line) = true ∧ (scope.names.any fun (n, k) => n == y && (k == .local || k == .cell)) = false := by
  have h : ((bkOf sc.scope == .function) && (sc.scope.names.lookup y == some .local) && (py.line == pos.line) && !(scope.names.any fun (n, k) => n == y && (k == .local || k == .cell))) = true := h
  simp only [Bool.and_eq_true] at h
  obtain ⟨⟨⟨_, h2⟩, h3⟩, h4⟩ := h
  refine ⟨by simpa using h2, h3, by simpa using h4⟩
theorem asgN_ok (g : Good G p r) {y : Str} {py : Pos} {v : Expr} : SS G p sc (.Assign [.Name y py] v pos) (cAsgN r sc y py v) := by
  unfold cAsgN
  split
  · exact ss_bad
  · rename_i i e
    obtain ⟨h1, h2, h3⟩ := slotOf_ok e
    split
    · rename_i elt gens scope vp
      cases hsw : swB sc (.ListComp elt gens scope vp) y py with
      | false => exact ss_setB h1 h2 h3 hsw (g.e _ _)
      | true =>
        simp only [cnd_true]
        refine cnd_rec (fun hk => ?_) ss_bad
        have hk := isFn_ok hk
        obtain ⟨w1, w2, w3⟩ := swB_parts hsw
        match gens with
        | [] => exact fun k W X cx => PS.imp ps_never fun D σ H ⟨s, h, m, rh, re, hp⟩ => hp
        | [⟨tg, it, ifs, as⟩] =>
          unfold cLc
          simp only
          split
          · rename_i t e
            cases h0 : ieq as 0 with
            | false => exact fun k W X cx => PS.imp ps_never fun D σ H ⟨s, h, m, rh, re, hp⟩ => hp
            | true =>
              cases hl : lcOk sc scope it t with
              | false => exact fun k W X cx => PS.imp ps_never fun D σ H ⟨s, h, m, rh, re, hp⟩ => hp
              | true =>
                have := async0 h0
                subst this
                obtain ⟨k1, k2, k3⟩ := lcOk_ok hl
                exact ss_setLc1 hk h1 w1 w2 w3 k1 k2 (tgIn_of k3) (g.i _ _ _) (tgC_ok e) (ts_ok g ifs) (g.e _ _)
          · exact fun k W X cx => PS.imp ps_never fun D σ H ⟨s, h, m, rh, re, hp⟩ => hp
        | [⟨tg, it, ifs, as⟩, ⟨tg1, it1, ifs1, as1⟩] =>
          unfold cLc
          simp only
          split
          · rename_i t e
            split
            · rename_i t1 e1
              cases h0 : ieq as 0 with
              | false => exact fun k W X cx => PS.imp ps_never fun D σ H ⟨s, h, m, rh, re, hp⟩ => hp
              | true =>
                cases h00 : ieq as1 0 with
                | false => exact fun k W X cx => PS.imp ps_never fun D σ H ⟨s, h, m, rh, re, hp⟩ => hp
                | true =>
                  cases hl : lcOk sc scope it t with
                  | false => exact fun k W X cx => PS.imp ps_never fun D σ H ⟨s, h, m, rh, re, hp⟩ => hp
                  | true =>
                    cases hl1 : lcOk sc scope it1 t1 with
                    | false => exact fun k W X cx => PS.imp ps_never fun D σ H ⟨s, h, m, rh, re, hp⟩ => hp
                    | true =>
                      have := async0 h0
                      subst this
                      have := async0 h00
                      subst this
                      obtain ⟨k1, k2, k3⟩ := lcOk_ok hl
                      obtain ⟨_, k5, k6⟩ := lcOk_ok hl1
                      exact ss_setLc2 hk h1 w1 w2 w3 k1 k6 k2 k5 (tgIn_of k3) (tgIn_of fun i hi => hi) (g.i _ _ _) (tgC_ok e) (ts_ok g ifs) (g.i _ _ _) (tgC_ok e1) (ts_ok g ifs1) (g.e _ _)
            · exact fun k W X cx => PS.imp ps_never fun D σ H ⟨s, h, m, rh, re, hp⟩ => hp
          · exact fun k W X cx => PS.imp ps_never fun D σ H ⟨s, h, m, rh, re, hp⟩ => hp
        | _ :: _ :: _ :: _ => exact fun k W X cx => PS.imp ps_never fun D σ H ⟨s, h, m, rh, re, hp⟩ => hp
    · rename_i kx vx gens scope vp
      cases hsw : swB sc (.DictComp kx vx gens scope vp) y py with
      | false => exact ss_setB h1 h2 h3 hsw (g.e _ _)
      | true =>
        simp only [cnd_true]
        refine cnd_rec (fun hk => ?_) ss_bad
        have hk := isFn_ok hk
        obtain ⟨w1, w2, w3⟩ := swB_partsD hsw
        have nv : ∀ {st : Stmt}, SS G p sc st (sAsg eBad (tgG (.nm i))) := fun k W X cx => PS.imp ps_never fun D σ H ⟨s, h, m, rh, re, hp⟩ => hp
        match gens with
        | [] => exact nv
        | [⟨tg, it, ifs, as⟩] =>
          unfold cDc
          simp only
          split
          · rename_i t e
            cases h0 : ieq as 0 with
            | false => exact nv
            | true =>
              cases hl : lcOk sc scope it t with
              | false => exact nv
              | true =>
                have := async0 h0
                subst this
                obtain ⟨k1, k2, k3⟩ := lcOk_ok hl
                exact ss_setDc1 hk h1 w1 w2 w3 k1 k2 (tgIn_of k3) (g.i _ _ _) (tgC_ok e) (ts_ok g ifs) (g.e _ _) (g.e _ _)
          · exact nv
        | _ :: _ :: _ => exact nv
    · exact cnd_rec (fun hn => ss_set h1 h2 h3 hn (g.e _ _)) ss_bad
theorem swNames_named {ts : List Expr} {is : List Nat} (h : slotsOf sc ts = some is) : True := trivial
theorem ps_nv {st : Stmt} {f : XS} (h : ∀ c s h, f c s h = .bad) : SS G p sc st f := fun k W X cx => PS.imp ps_never fun D σ H ⟨s, hm, m, rh, re, hp⟩ => by rw [h] at hp; exact hp
/-- the swapped names are those of the targets -/
theorem slots2 {t1 t2 : Expr} {is : List Nat} (h : slotsOf sc [t1, t2] = some is) : ∃ x y px py i j, t1 = .Name x px ∧ t2 = .Name y py ∧ is = [i, j] ∧ slotOf sc x = some i ∧ slotOf sc y = some j := by
  cases t1 <;> first | (cases h; done) | skip
  rename_i x px
  unfold slotsOf at h
  cases e1 : slotOf sc x with
  | none => rw [e1] at h; cases h
  | some i =>
    rw [e1] at h
    cases t2 <;> first | (cases h; done) | skip
    rename_i y py
    unfold slotsOf at h
    cases e2 : slotOf sc y with
    | none => simp only [e2] at h; cases h
    | some j =>
      simp only [e2, slotsOf] at h
      cases h
      exact ⟨x, y, px, py, i, j, rfl, rfl, rfl, e1, e2⟩
theorem slots3 {t1 t2 t3 : Expr} {is : List Nat} (h : slotsOf sc [t1, t2, t3] = some is) : ∃ x y z px py pz i j l, t1 = .Name x px ∧ t2 = .Name y py ∧ t3 = .Name z pz ∧ is = [i, j, l] ∧ slotOf sc x = some i ∧ slotOf sc y = some j ∧ slotOf sc z = some l := by
  cases t1 <;> first | (cases h; done) | skip
  rename_i x px
  unfold slotsOf at h
  cases e1 : slotOf sc x with
  | none => rw [e1] at h; cases h
  | some i =>
    rw [e1] at h
    cases e2 : slotsOf sc [t2, t3] with
    | none => simp only [e2] at h; cases h
    | some js =>
      simp only [e2] at h
      cases h
      obtain ⟨y, z, py, pz, j, l, rfl, rfl, rfl, e3, e4⟩ := slots2 e2
      exact ⟨x, y, z, px, py, pz, i, j, l, rfl, rfl, rfl, rfl, e1, e3, e4⟩
/-- what swO says of swapped names -/
theorem swO_some {ts vs : List Expr} {k k2 : Nat} {pt pv : Pos} {ns : List Str} (h : swO sc.scope (.Tuple ts k pt) (.Tuple vs k2 pv) = some (some ns)) : (ts.length = 2 ∨ ts.length = 3) ∧ vs.length = ts.length ∧ ns = swNames sc.scope ts ∧ (swNames sc.scope ts).length = ts.length := by
  have h : cnd (swC1 sc.scope ts vs) (some none) (cnd (swC2 vs) (some none) (cnd (swC3 sc.scope ts) (some none) (cnd (vs.all (foldedForSure 8)) (some none) (cnd (vs.all (constantsAlone 8)) none (some (some (swNames sc.scope ts))))))) = some (some ns) := h
  cases c1 : swC1 sc.scope ts vs with
  | true => rw [c1] at h; cases h
  | false =>
    rw [c1] at h
    cases c2 : swC2 vs with
    | true => rw [c2] at h; cases h
    | false =>
      rw [c2] at h
      cases c3 : swC3 sc.scope ts with
      | true => rw [c3] at h; cases h
      | false =>
        rw [c3] at h
        have h : cnd (vs.all (foldedForSure 8)) (some none) (cnd (vs.all (constantsAlone 8)) none (some (some (swNames sc.scope ts)))) = some (some ns) := h
        have hn : ns = swNames sc.scope ts := by
          cases c4 : vs.all (foldedForSure 8) with
          | true => rw [c4] at h; cases h
          | false =>
            rw [c4] at h
            cases c5 : vs.all (constantsAlone 8) with
            | true => rw [c5] at h; cases h
            | false => rw [c5] at h; cases h; rfl
        unfold swC1 at c1
        unfold swC3 at c3
        simp only [Bool.or_eq_false_iff, Bool.not_eq_false', Bool.or_eq_true, beq_iff_eq, bne_eq_false_iff_eq] at c1 c3
        exact ⟨c1.1.1, c1.1.2, hn, c3.1⟩
theorem swNames_le (scope : Scope) (l : Nat) : ∀ us : List Expr, (us.filterMap fun
  | .Name id pos => if (scope.names.lookup id == some .local && pos.line == l) = true then some id else none
  | _ => none).length ≤ us.length := fun us => List.length_filterMap_le _ _
theorem swNames_all (scope : Scope) (l : Nat) : ∀ us : List Expr, (us.filterMap fun
  | .Name id pos => if (scope.names.lookup id == some .local && pos.line == l) = true then some id else none
  | _ => none).length = us.length → ∀ x q, .Name x q ∈ us → scope.names.lookup x = some .local
  | [], _, x, q, h => by cases h
  | u :: us, hl, x, q, hm => by
    have le := swNames_le scope l us
    rw [List.filterMap_cons] at hl
    split at hl
    · rw [List.length_cons] at hl; omega
    · rename_i b hb
      rw [List.length_cons, List.length_cons] at hl
      rcases List.mem_cons.mp hm with e | e
      · subst e
        have hb : (if (scope.names.lookup x == some .local && q.line == l) = true then some x else none) = some b := hb
        split at hb
        · rename_i c
          simp only [Bool.and_eq_true, beq_iff_eq] at c
          exact c.1
        · cases hb
      · exact swNames_all scope l us (by omega) x q e
theorem swNames_eq (scope : Scope) (l : Nat) : ∀ us : List Expr, (us.filterMap fun
  | .Name id pos => if (scope.names.lookup id == some .local && pos.line == l) = true then some id else none
  | _ => none).length = us.length → (us.filterMap fun
  | .Name id pos => if (scope.names.lookup id == some .local && pos.line == l) = true then some id else none
  | _ => none) = us.map fun | .Name x _ => x | _ => ""
  | [], _ => rfl
  | u :: us, hl => by
    have le := swNames_le scope l us
    rw [List.filterMap_cons] at hl ⊢
    split at hl
    · rw [List.length_cons] at hl; omega
    · rename_i b hb
      rw [List.length_cons, List.length_cons] at hl
      rw [List.map_cons, swNames_eq scope l us (by omega)]
      cases u <;> first | (cases hb; done) | skip
      rename_i x q
      have hb : (if (scope.names.lookup x == some .local && q.line == l) = true then some x else none) = some b := hb
      split at hb
      · cases hb; rfl
      · cases hb
theorem asgT_ok (g : Good G p r) {ts : List Expr} {k : Nat} {pt : Pos} {v : Expr} : SS G p sc (.Assign [.Tuple ts k pt] v pos) (cAsgT r sc (.Tuple ts k pt) v) := by
  unfold cAsgT
  split
  · exact ss_bad
  · rename_i tg e
    have hok := tgC_ok e
    split
    · exact ss_bad
    · rename_i hw
      exact ss_tg rfl (fun _ _ z => (nomatch z)) hw hok (g.e _ _)
    · rename_i ns hw
      split
      · rename_i vs k2 pv
        split
        · rename_i is
          refine cnd_rec (fun hn => ?_) ss_bad
          have hn := nodupB_ok hn
          have e : (match slotsOf sc ts with
            | some is => some (Tg.un is)
            | none => (tgC.mixOf sc ts).map fun q => .un2 q.1 q.2.1 q.2.2) = some (.un is) := e
          cases es : slotsOf sc ts with
          | none =>
            rw [es] at e
            obtain ⟨q, _, hq⟩ := Option.map_eq_some_iff.mp e
            cases hq
          | some js =>
            rw [es] at e
            cases e
            obtain ⟨h1, h2, h3, h4⟩ := swO_some hw
            have hloc := swNames_all sc.scope _ ts h4
            have hnm := swNames_eq sc.scope _ ts h4
            rcases h1 with h1 | h1
            · match ts, h1, vs, h2, es, hw, h3, hloc, hnm with
              | [t1, t2], _, [v1, v2], _, es, hw, h3, hloc, hnm =>
                obtain ⟨x, y, px, py, i, j, rfl, rfl, rfl, e1, e2⟩ := slots2 es
                have hns : ns = [x, y] := h3.trans hnm
                subst hns
                exact ss_par (slotOf_ok e1).1 (slotOf_ok e2).1 (by simp at hn; exact hn) (hloc x px (by simp)) (hloc y py (by simp)) (g.a _ _) hw
            · match ts, h1, vs, h2, es, hw, h3, hloc, hnm with
              | [t1, t2, t3], _, [v1, v2, v3], _, es, hw, h3, hloc, hnm =>
                obtain ⟨x, y, z, px, py, pz, i, j, l, rfl, rfl, rfl, rfl, e1, e2, e3⟩ := slots3 es
                have hns : ns = [x, y, z] := h3.trans hnm
                subst hns
                simp only [List.nodup_cons, List.mem_cons, List.not_mem_nil, or_false, not_or] at hn
                exact ss_par3 (slotOf_ok e1).1 (slotOf_ok e2).1 (slotOf_ok e3).1 hn.1.1 hn.1.2 hn.2.1 (hloc x px (by simp)) (hloc y py (by simp)) (hloc z pz (by simp)) (g.a _ _) hw
        · exact ss_bad
      · exact ss_bad
theorem aug_of {op : Operator} {o : BO} (h : boOf op = some o) (h2 : (augF o).isSome = true) : op = augOp o := by
  cases op <;> cases h <;> first | rfl | cases h2
theorem s_ok (g : Good (gtOf gs tab) p r) (st : Stmt) : SS (gtOf gs tab) p sc st (cS gs r sc st) := by
  cases st <;> first | exact ss_bad | skip
  case Return v pos =>
    cases v with
    | none => exact ss_bad
    | some e => exact ss_ret (g.e _ _)
  case Assign tgs v pos =>
    match tgs with
    | [] => exact ss_bad
    | _ :: _ :: _ => exact ss_bad
    | [tg] =>
      cases tg <;> first | exact ss_bad | skip
      case Attribute o f pos' =>
        unfold cS
        simp only
        split
        · rename_i t e; exact ss_slot (slot_ok e) (g.e _ _) (g.e _ _)
        · exact ss_bad
      case Subscript c e pos' =>
        refine cnd_rec (fun h => ss_setI (g.e _ _) (g.e _ _) (g.e _ _) fun X v => ?_) ss_bad
        cases e <;> first | rfl | cases h
      case Name y py => exact asgN_ok g
      case Tuple ts k pt => exact asgT_ok g
  case AugAssign tg op v pos =>
    cases tg <;> first | exact ss_bad | skip
    rename_i y py
    unfold cS
    simp only
    split
    · rename_i i e
      split
      · rename_i o e2
        refine cnd_rec (fun h => ?_) ss_bad
        obtain ⟨h1, h2, h3⟩ := slotOf_ok e
        have := aug_of e2 h
        subst this
        exact ss_aug h h1 h2 h3 (g.e _ _)
      · exact ss_bad
    · exact ss_bad
  case For tg it body oe pos =>
    cases oe with
    | cons _ _ => exact ss_bad
    | nil =>
      unfold cS
      simp only
      split
      · rename_i t e
        exact cnd_rec (fun h => ss_for (folded h) (g.i _ _ _) (sg_tg (tgC_ok e)) (g.ss _ _)) ss_bad
      · exact ss_bad
  case If t x y pos => exact ss_if (g.t _ _) (g.ss _ _) (g.ss _ _)
  case Expr e pos => exact cnd_rec (fun h => ss_expr h (g.e _ _)) ss_bad
  case Pass pos => exact ss_pass
theorem re_ok' {st : Stmt} {f : XS} (h : SS G p sc st f) : SS G p sc st (cRe (A := evA) sc f) := by
  unfold cRe
  cases sc.re with
  | true => exact ss_re h
  | false => exact h
theorem ss_ok (g : Good G p r) (sts : List Stmt) : SSs G p sc sts (cSs r sc sts) := by
  match sts with
  | [] => exact sss_nil
  | [s] => exact sss_one (re_ok' (g.s _ _))
  | s :: s2 :: rest => exact sss_cons (re_ok' (g.s _ _)) (g.ss _ _)
theorem good_step (ok : GsOk gs tab) (g : Good (gtOf gs tab) p r) : Good (gtOf gs tab) p (step gs r) where
  e := fun _ e => e_ok g ok e
  t := fun _ e => t_ok g e
  a := fun _ e => a_ok g e
  n := fun _ e => n_ok g e
  l := fun _ e => l_ok g e
  q := fun _ e => q_ok g e
  i := fun _ tg e => i_ok g ok tg e
  s := fun _ e => s_ok g e
  ss := fun _ e => ss_ok g e
theorem good_lev (ok : GsOk gs tab) : ∀ n, Good (gtOf gs tab) p (lev evA gs n)
  | 0 => good_bad
  | n + 1 => good_step ok (good_lev ok n)
end
end Ev
end

section
set_option Elab.async false
set_option linter.all false
set_option maxRecDepth 100000
/-! Ev: all defs keep what the evaluator says. -/
namespace Ev
open PySem PySem.Spec PyProof.Rows L2

/-- the facts of the head, but those of the defs -/
structure GSt (G : GT) (p : Pl) (K : PySem.W.Frag) (mg : Str → Option Value) : Prop where
  gl : ∀ x f, (x, f) ∈ G.fns → mg x = some (.ref (p.F f))
  cl : ∀ x c, (x, c) ∈ G.cls → mg x = some (.ref (p.C c)) ∧ SlX.SCls K (p.C c)
  inj : ∀ x y b c, (x, b) ∈ G.cls → (y, c) ∈ G.cls → b ≠ c → p.C b ≠ p.C c
  sl : ∀ c f i, (c, f, i) ∈ G.slots → SlX.SCls K (p.C c) ∧ ∃ q, SlX.Slot1 K (p.C c) f q i
  pr : ∀ c f g, (c, f, g) ∈ G.props → SlX.SCls K (p.C c) ∧ PropAt K (p.C c) f (p.F g)
  me : ∀ c f g, (c, f, g) ∈ G.meths → SlX.SCls K (p.C c) ∧ Meth K (p.C c) f (p.F g)
  isi : ∀ x c, (x, c) ∈ G.cls → SlX.SIsi K (p.C c) ∧ (∀ T ∈ ["int", "bool", "str", "tuple", "list"], PySem.W.kitOne K (.ref (p.C c)) (.type T) = some false) ∧
    ∀ T ∈ ["NoneType", "bool", "int", "str", "tuple", "list", "dict"], PySem.W.kitOne K (.type T) (.ref (p.C c)) = some false
  iso : ∀ j i b, (j, i, b) ∈ G.isis → (∃ x, (x, j) ∈ G.cls) ∧ PySem.W.kitOne K (.ref (p.C j)) (.ref (p.C i)) = some b
  ini : ∀ c f n, (c, f, n) ∈ G.inits → Mk K (p.C c) (p.F f)
  cint : ∀ x i, (x, i) ∈ G.cints → ∃ t, mg x = some (.int i t)
  free : ∀ x, x ∈ G.free → mg x = none
  tbu : ∀ a b, a ∈ p.C.tb → b ∈ p.C.tb → a.at_ = b.at_ → a = b
  nfi : ∀ b y c, b ∈ G.eqs → (y, c) ∈ G.cls → PySem.W.notFirst K (p.C b) (.ref (p.C c)) = true
  lsi : ∀ c, c ∈ G.lss → PySem.W.findIn K (.ref (p.C c)) "__len__" = some none ∧ PySem.W.findIn K (.ref (p.C c)) "__length_hint__" = some none
/-- a def's code object and its table -/
def LamD (mg : Str → Option Value) (base : Heap) (p : Pl) (qual : Str) (fd : FuncData) (lm : Option (List (Nat × Nat))) : Prop := ∀ ls, lm = some ls → ∃ c P, fd.code = .ref c ∧ LamX.TabB base mg c P ∧ (⟨P, qual ++ ".<locals>." ++ "<lambda>", ls⟩ : Tb) ∈ p.C.tb
theorem funD_okC {P : Program} {w : World} {K : PySem.W.Frag} {mg : Str → Option Value} {base : Heap} {x qual : Str} {params : Arguments} {body : List Stmt} {scope : Scope} {dvs : List V} {kws : List (Str × V)} {f : Addr} {fd : FuncData} {CX : CXT} {N ps : List Str} {k : Nat} {sp : Sp} (F : FunD K x qual params body scope dvs kws f fd) (S : FnScope N ps scope) (len : ∀ vs H Q E, sp vs H Q E → vs.length = ps.length)
    (hbody : ∀ (A : Around) (outer : List PySem.Env) (s : Shared) (H : Hp) (vs : List V) (Q : VK) (E : XK), Room k (A.deeper (envOfC qual scope s.heap.objs.size f fd.code)) → sp vs H Q E →
      ∃ t, PSs (cxOf CX P w K mg base N qual scope f fd.code A outer s H E) body t ∧ t { nx := fun _ H' => Q .non H', rt := Q } (start N vs) H) : FnOk P w K mg base CX (k + 1) f fd ps sp := by
  obtain ⟨oc, od, dV, kV, doc, pm, an, cdv, ct, osl, rfl, lk, hcd, _, _⟩ := F.ex
  exact fn_of lk hcd S len fun A outer s H vs Q E hr hsp => hbody A outer s H vs Q E hr hsp
/-- a def stands at p.F f, and its text was compiled to the f-th of the table -/
structure FnAt (K : PySem.W.Frag) (mg : Str → Option Value) (base : Heap) (p : Pl) (gs : GS) (L f : Nat) (d : Fd) : Prop where
  ex : ∃ (x qual : Str) (params : Arguments) (body : List Stmt) (scope : Scope) (fd : FuncData) (N ps : List Str) (lm : Option (List (Nat × Nat))) (re : Bool), FunD K x qual params body scope [] [] (p.F f) fd ∧ FnScope N ps scope ∧
    (∀ (kV doc pm : Value) (an : Option Addr) (cdv ct : Value) (us : List Value), us.length = ps.length → bindArgs (PySem.W.fnOf x qual params body scope .none kV doc pm an cdv ct) ⟨us, []⟩ = pure (ps.zip us)) ∧
    d = ⟨ps.length, N.length, (lev evA gs L).ss ⟨N, scope, fun _ => true, lm, re⟩ body⟩ ∧ LamD mg base p qual fd lm
theorem re_start {m : Mp} {z : Nat} {H : Hp} {args : List PV} {vs : List V} {N : List Str} (r : RPs m z H args vs) : RE m z H (args.map some ++ List.replicate (N.length - args.length) none) (L2.start N vs) := by
  have hl := r.length
  refine ⟨?_, fun i x e => ?_⟩
  · unfold L2.start
    simp only [List.length_append, List.length_map, List.length_replicate]
    omega
  · unfold L2.start
    by_cases h : i < args.length
    · rw [List.getElem?_append_left (by simpa using h)] at e
      obtain ⟨v, ev, rv⟩ := r.map_some e
      exact ⟨v, by rw [List.getElem?_append_left (by simpa [hl] using h)]; exact ev, rv⟩
    · rw [List.getElem?_append_right (by simpa using h), List.getElem?_replicate] at e
      split at e <;> cases e
section
variable {P : Program} {w : World} {K : PySem.W.Frag} {mg : Str → Option Value} {base : Heap} {gs : GS} {tab : List Fd} {p : Pl} {L : Nat}
theorem sp_len {tab : List Fd} {k f : Nat} {d : Fd} (e : nthF tab f = some d) {vs : List V} {H : Hp} {Q : VK} {E : XK} (h : spF K p (callD tab (k + 1)) f vs H Q E) : vs.length = d.np := by
  obtain ⟨h, m, args, rh, ra, hp⟩ := h
  have hp : Post K p RP E h m H (match nthF tab f with
    | some d => runFd d (callD tab k) args h
    | none => .bad) Q := hp
  rw [e] at hp
  simp only at hp
  unfold runFd at hp
  cases c : Nat.beq args.length d.np with
  | false => rw [c] at hp; exact hp.elim
  | true => rw [ra.length]; exact Nat.eq_of_beq_eq_true c
/-- an own __iter__ of the text: return iter(self.F) -/
def itBodyB (body : List Stmt) (F : Str) : Bool := match body with
  | [.Return (some (.Call (.Name f _) [.Attribute (.Name x _) G _] [] _)) _] => eqS f "iter" && (eqS x "self" && eqS G F)
  | _ => false
theorem itBodyB_ok {body : List Stmt} {F : Str} (h : itBodyB body F = true) : ∃ p1 p2 p3 p4 p5, body = [.Return (some (.Call (.Name "iter" p1) [.Attribute (.Name "self" p2) F p3] [] p4)) p5] := by
  unfold itBodyB at h
  split at h
  · simp only [Bool.and_eq_true] at h
    obtain ⟨h1, h2, h3⟩ := h
    have := eqS_iff.mp h1
    subst this
    have := eqS_iff.mp h2
    subst this
    have := eqS_iff.mp h3
    subst this
    exact ⟨_, _, _, _, _, rfl⟩
  · cases h
/-- one def, one level up -/
theorem fn_lvl {k f : Nat} {d : Fd} (ok : GsOk gs tab) (ih : GOk (gtOf gs tab) p P w K mg base k) (e : nthF tab f = some d) {x qual : Str} {params : Arguments} {body : List Stmt} {scope : Scope} {fd : FuncData} {N ps : List Str} (FD : FunD K x qual params body scope [] [] (p.F f) fd) (S : FnScope N ps scope)
    {lm : Option (List (Nat × Nat))} {re : Bool} (ed : d = ⟨ps.length, N.length, (lev evA gs L).ss ⟨N, scope, fun _ => true, lm, re⟩ body⟩) (hl : LamD mg base p qual fd lm) : FnOk P w K mg base (CX P w) (6 * k + 5 + 1) (p.F f) fd ps (spF K p (callD tab (k + 1)) f) := by
  refine funD_okC (N := N) FD S (fun vs H Q E h => by rw [sp_len e h, ed]) fun A outer s H vs Q E hr hs => ?_
  obtain ⟨h, m, args, rh, ra, hp⟩ := hs
  have hp : Post K p RP E h m H (match nthF tab f with
    | some d => runFd d (callD tab k) args h
    | none => .bad) Q := hp
  rw [e] at hp
  simp only at hp
  have cx : ECx (gtOf gs tab) p k ⟨N, scope, fun _ => true, lm, re⟩ (fun cls d _ H => E cls d H) (cxOf (CX P w) P w K mg base N qual scope (p.F f) fd.code A outer s H E) :=
    { g := ih, nd := S.nd, n := rfl, sco := rfl, fn := rfl, calm := rfl, room := hr.mono (by omega), lam := fun ls e => by
        obtain ⟨c, T, h1, h2, h3⟩ := hl ls e
        exact ⟨⟨c, T, h1, h2, h3⟩, hr, rfl⟩
      tk := takes_of rfl rfl rfl rfl, po := passes_of rfl }
  refine ⟨_, (good_lev ok L).ss _ body k _ _ cx, ?_⟩
  refine ⟨_, h, m, rh, re_start ra, ?_⟩
  unfold runFd at hp
  rw [ed] at hp
  simp only at hp
  cases c : Nat.beq args.length ps.length with
  | false => rw [c] at hp; exact hp.elim
  | true =>
    rw [c] at hp
    simp only [cnd_true] at hp
    refine (fun (r : SR) (hp : Post K p RP E h m H (match r with
      | .nx _ h' => .ok .non h'
      | .rt v h' => .ok v h'
      | .er x _ h' => .err x h'
      | _ => .bad) Q) => (?_ : PostS K p (fun cls d _ H => E cls d H) { nx := fun _ H' => Q .non H', rt := Q } h m H r)) _ hp
    cases r with
    | nx s' h' => exact fun m' H' σ' l rh' re' => hp m' H' .non l rh' .non
    | rt v h' => exact fun m' H' v' l rh' rv => hp m' H' v' l rh' rv
    | bk s' h' => exact hp.elim
    | ct s' h' => exact hp.elim
    | er y s' h' => exact fun m' H' σ' cls d l rh' re' rx => hp m' H' cls d l rh' rx
    | bad => exact hp
theorem fns_ok (ok : GsOk gs tab) (st : GSt (gtOf gs tab) p K mg) (hI : ∀ c i, (c, i) ∈ (gtOf gs tab).its → ItAt P w K mg base (p.C c) i) (hF : ∀ f d, nthF tab f = some d → FnAt K mg base p gs L f d) : ∀ k, GOk (gtOf gs tab) p P w K mg base k
  | 0 => ⟨fun f d e => by
      obtain ⟨x, qual, params, body, scope, fd, N, ps, lm, re, FD, S, hb, ed, hlm⟩ := (hF f d e).ex
      refine ⟨fun A outer s H us vs Q E hr e0 r hs => ?_, FD.kp⟩
      obtain ⟨h, m, args, rh, ra, hp⟩ := hs
      exact hp.elim, st.gl, st.cl, st.inj, st.sl, st.pr, st.me, st.isi, st.iso, st.ini, st.cint, st.free, st.tbu, hI, st.nfi, st.lsi⟩
  | k + 1 => by
    have ih := fns_ok ok st hI hF k
    refine ⟨fun f d e => ?_, st.gl, st.cl, st.inj, st.sl, st.pr, st.me, st.isi, st.iso, st.ini, st.cint, st.free, st.tbu, hI, st.nfi, st.lsi⟩
    have e : nthF tab f = some d := e
    obtain ⟨x, qual, params, body, scope, fd, N, ps, lm, re, FD, S, hb, ed, hlm⟩ := (hF f d e).ex
    refine ⟨?_, FD.kp⟩
    have R := (fn_lvl (L := L) ok ih e FD S ed hlm).raw (FD.bindsN hb) .nil
    exact (R.imp fun vs H Q E h => by simpa using h : FnR P w K mg base (CX P w) (6 * k + 5 + 1) (p.F f) (spF K p (callD tab (k + 1)) f))
end
end Ev
end

section
set_option Elab.async false
set_option linter.all false
set_option maxRecDepth 100000
/-! Ev: the head: what is looked at behind the top, and what follows. -/
namespace Ev
open PySem PySem.Spec PyProof.Rows L2

theorem Df.funD {K : PySem.W.Frag} {d : Df} (e : fnAtK K (d.at_.ad K) = d.val) (c : d.ok K = true) : ∃ fd, FunD K d.name d.qual d.params d.body d.scope [] [] (d.at_.ad K) fd := by
  obtain ⟨kp, c2⟩ := He.ba c
  unfold fnAtK at e
  cases q : K.lookup (d.at_.ad K) with
  | none =>
    rw [q] at c2
    cases c2
  | some o =>
    obtain ⟨oc, od, dt, osl⟩ := o
    rw [q] at c2 e
    cases dt with
    | func fd =>
      obtain ⟨n1, n2, n3, n4, n5, n6, n7, n8, n9, n10, n11, n12, n13, n14, n15⟩ := fd
      have e2 : (some (n1, n2, n3, n4, n5, n6, n7, n15) : He.FnW) = some (d.name, d.qual, d.params, .stmts d.body, d.scope, mainGlobals, [], builtinsNs) := e
      simp only [Option.some.injEq, Prod.mk.injEq] at e2
      obtain ⟨h1, h2, h3, h4, h5, h6, h7, h8⟩ := e2
      subst h1 h2 h3 h4 h5 h6 h7 h8
      have c3 : (PySem.W.codeIn K n13 d.qual && He.dflB K n8 []) = true := c2
      obtain ⟨k1, k2⟩ := He.ba c3
      exact ⟨_, ⟨oc, od, n8, n9, n10, n11, n12, n13, n14, osl, rfl, q, k1, He.dflB_ok k2, .inl rfl⟩, kp⟩
    | _ => cases c2

theorem sclsB_ok {K : PySem.W.Frag} {C : Addr} (h : sclsB K C = true) : SlX.SCls K C := by
  obtain ⟨h1, h⟩ := He.ba h
  obtain ⟨h2, h⟩ := He.ba h
  obtain ⟨h3, h4⟩ := He.ba h
  exact ⟨h1, h2, h3, He.eqO_ok h4⟩
theorem isiB_ok {K : PySem.W.Frag} {C : Addr} (h : isiB K C = true) : SlX.SIsi K C := by
  obtain ⟨h1, h⟩ := He.ba h
  obtain ⟨h2, h⟩ := He.ba h
  obtain ⟨h3, h4⟩ := He.ba h
  exact ⟨He.eqO_ok h1, of_decide_eq_true h2, of_decide_eq_true h3, of_decide_eq_true h4⟩
theorem slot1B_ok {K : PySem.W.Frag} {C : Addr} {f : Str} {i : Nat} (h : slot1B K C f i = true) : ∃ q, SlX.Slot1 K C f q i := by
  unfold slot1B at h
  split at h
  · rename_i p e
    obtain ⟨h1, h⟩ := He.ba h
    obtain ⟨h2, h⟩ := He.ba h
    obtain ⟨h3, h⟩ := He.ba h
    obtain ⟨h4, h5⟩ := He.ba h
    exact ⟨p, e, of_decide_eq_true h1, of_decide_eq_true h2, of_decide_eq_true h3, of_decide_eq_true h4, of_decide_eq_true h5⟩
  · cases h
theorem propB_ok {K : PySem.W.Frag} {C : Addr} {f : Str} {g : Addr} (h : propB K C f g = true) : PropAt K C f g := by
  unfold propB at h
  split at h
  · rename_i q e
    obtain ⟨h1, h⟩ := He.ba h
    obtain ⟨h2, h3⟩ := He.ba h
    split at h3
    · rename_i k rest e2
      have := of_decide_eq_true h3
      subst this
      exact ⟨q, e, of_decide_eq_true h1, of_decide_eq_true h2, rest, e2⟩
    · cases h3
  · cases h
theorem methB_ok {K : PySem.W.Frag} {C : Addr} {m : Str} {f : Addr} (h : methB K C m f = true) : Meth K C m f := by
  obtain ⟨h1, h⟩ := He.ba h
  obtain ⟨h2, h3⟩ := He.ba h
  exact ⟨He.eqO_ok h1, h2, h3⟩
theorem mkB_ok {K : PySem.W.Frag} {C f : Addr} (h : mkB K C f = true) : Mk K C f := by
  obtain ⟨h1, h⟩ := He.ba h
  obtain ⟨h2, h⟩ := He.ba h
  obtain ⟨h3, h4⟩ := He.ba h
  exact ⟨h1, He.eqO_ok h2, h3, h4⟩
theorem nodA_ok {tb : List Tb} : nodA (tb.map (·.at_)) = true → ∀ a b, a ∈ tb → b ∈ tb → a.at_ = b.at_ → a = b := by
  induction tb with
  | nil => intro _ a b ha
           cases ha
  | cons x r ih =>
    intro h a b ha hb e
    obtain ⟨h1, h2⟩ := He.ba (show (!((r.map (·.at_)).any fun b => Nat.beq x.at_ b) && nodA (r.map (·.at_))) = true from h)
    have out : ∀ y ∈ r, x.at_ ≠ y.at_ := fun y hy e => by
      rw [Bool.not_eq_true'] at h1
      have q := List.any_eq_false.mp h1 y.at_ (List.mem_map.mpr ⟨y, hy, rfl⟩)
      rw [e] at q
      exact q (Nat.beq_refl _)
    rcases List.mem_cons.mp ha with za | ha2
    · rcases List.mem_cons.mp hb with zb | hb2
      · rw [za, zb]
      · rw [za] at e
        exact absurd e (out b hb2)
    · rcases List.mem_cons.mp hb with zb | hb2
      · rw [zb] at e
        exact absurd e.symm (out a ha2)
      · exact ih h2 a b ha2 hb2 e
theorem gst_of {K : PySem.W.Frag} {h : Heap} {mg : Str → Option Value} {cn : List Str} {ds : List Df} {gs : GS} {tab : List Fd} (X : K.In h) (G : h.Ns mainGlobals mg) (e : exB cn ds gs K = true) : GSt (gtOf gs tab) (plOf K cn ds) K mg := by
  obtain ⟨e0, e⟩ := He.ba e
  obtain ⟨e1, e⟩ := He.ba e
  obtain ⟨e2, e⟩ := He.ba e
  obtain ⟨e3, e⟩ := He.ba e
  obtain ⟨e4, e⟩ := He.ba e
  obtain ⟨e5, e⟩ := He.ba e
  obtain ⟨e5, e6⟩ := He.ba e5
  obtain ⟨e7, e8⟩ := He.ba e
  have e7 := List.all_eq_true.mp e7
  have e8 := List.all_eq_true.mp e8
  have e1 := List.all_eq_true.mp e1
  have e2 := List.all_eq_true.mp e2
  have e3 := List.all_eq_true.mp e3
  have e4 := List.all_eq_true.mp e4
  have e5 := List.all_eq_true.mp e5
  have e6 := List.all_eq_true.mp e6
  have clm : ∀ x c, (x, c) ∈ (gtOf gs tab).cls → (x, Rl.cl c) ∈ gs.roles := fun x c hm => by
    obtain ⟨q, hq, eq⟩ := List.mem_filterMap.mp hm
    obtain ⟨y, r⟩ := q
    cases r <;> cases eq
    exact hq
  have clF : ∀ x c, (x, c) ∈ (gtOf gs tab).cls → mg x = some (.ref (clAd K cn c)) ∧ SlX.SCls K (clAd K cn c) ∧ SlX.SIsi K (clAd K cn c) ∧ kitTB K (clAd K cn c) = true := fun x c hm => by
    have q := e1 _ (clm x c hm)
    obtain ⟨q1, q2⟩ := He.ba (show (((He.Fa.glo x).ok K && decide (He.ga K x = clAd K cn c)) && (sclsB K (clAd K cn c) && (isiB K (clAd K cn c) && kitTB K (clAd K cn c)))) = true from q)
    obtain ⟨q3, q4⟩ := He.ba q1
    obtain ⟨q5, q6⟩ := He.ba q2
    obtain ⟨q7, q8⟩ := He.ba q6
    have g := He.glo_ok X G q3
    rw [of_decide_eq_true q4] at g
    exact ⟨g, sclsB_ok q5, isiB_ok q7, q8⟩
  exact {
    gl := fun x f hm => by
      obtain ⟨q, hq, eq⟩ := List.mem_filterMap.mp hm
      obtain ⟨y, r⟩ := q
      cases r <;> cases eq
      obtain ⟨q1, q2⟩ := He.ba (show ((He.Fa.glo y).ok K && decide (He.ga K y = dfAd K ds f)) = true from e1 _ hq)
      have g := He.glo_ok X G q1
      rw [of_decide_eq_true q2] at g
      exact g
    cl := fun x c hm => ⟨(clF x c hm).1, (clF x c hm).2.1⟩
    inj := fun x y b c hb hc ne => by
      have q := List.all_eq_true.mp (e6 _ (clm x b hb)) _ (clm y c hc)
      have q : (Nat.beq b c || !(decide (clAd K cn b = clAd K cn c))) = true := q
      rcases Bool.or_eq_true_iff.mp q with z | z
      · exact absurd (Nat.eq_of_beq_eq_true z) ne
      · intro w
        have w : clAd K cn b = clAd K cn c := w
        rw [decide_eq_true w] at z
        cases z
    sl := fun c f i hm => by
      obtain ⟨a, ha, hq0⟩ := List.mem_flatMap.mp hm
      obtain ⟨q, hq, eq⟩ := List.mem_filterMap.mp hq0
      obtain ⟨k, t⟩ := q
      cases t <;> cases eq
      obtain ⟨q1, q2⟩ := He.ba (show (sclsB K (clAd K cn k) && slot1B K (clAd K cn k) a.1 i) = true from List.all_eq_true.mp (e2 _ ha) _ hq)
      exact ⟨sclsB_ok q1, slot1B_ok q2⟩
    pr := fun c f g hm => by
      obtain ⟨a, ha, hq0⟩ := List.mem_flatMap.mp hm
      obtain ⟨q, hq, eq⟩ := List.mem_filterMap.mp hq0
      obtain ⟨k, t⟩ := q
      cases t <;> cases eq
      obtain ⟨q1, q2⟩ := He.ba (show (sclsB K (clAd K cn k) && propB K (clAd K cn k) a.1 (dfAd K ds g)) = true from List.all_eq_true.mp (e2 _ ha) _ hq)
      exact ⟨sclsB_ok q1, propB_ok q2⟩
    me := fun c f g hm => by
      obtain ⟨a, ha, hq0⟩ := List.mem_flatMap.mp hm
      obtain ⟨q, hq, eq⟩ := List.mem_map.mp hq0
      cases eq
      obtain ⟨q1, q2⟩ := He.ba (List.all_eq_true.mp (e3 _ ha) _ hq)
      exact ⟨sclsB_ok q1, methB_ok q2⟩
    isi := fun x c hm => by
      obtain ⟨h1, h2⟩ := He.ba (clF x c hm).2.2.2
      exact ⟨(clF x c hm).2.2.1, fun T hT => of_decide_eq_true (List.all_eq_true.mp h1 T hT), fun T hT => of_decide_eq_true (List.all_eq_true.mp h2 T hT)⟩
    iso := fun j i b hm => by
      obtain ⟨a, ha, hq0⟩ := List.mem_flatMap.mp hm
      obtain ⟨q, hq, eq⟩ := List.mem_map.mp hq0
      cases eq
      obtain ⟨q1, q2⟩ := He.ba (List.all_eq_true.mp (e5 _ ha) _ hq)
      refine ⟨?_, of_decide_eq_true q2⟩
      obtain ⟨r, hr, er⟩ := List.any_eq_true.mp q1
      obtain ⟨y, rl⟩ := r
      cases rl <;> first | (cases er; done) | skip
      rename_i c
      have : c = q.1 := Nat.eq_of_beq_eq_true er
      subst this
      exact ⟨y, List.mem_filterMap.mpr ⟨_, hr, rfl⟩⟩
    ini := fun c f n hm => mkB_ok (e4 _ hm)
    cint := fun x i hm => by
      obtain ⟨q, hq, eq⟩ := List.mem_filterMap.mp hm
      obtain ⟨y, r⟩ := q
      cases r <;> cases eq
      exact He.int_ok X G (e1 _ hq)
    free := fun x hm => by
      obtain ⟨q, hq, eq⟩ := List.mem_filterMap.mp hm
      obtain ⟨y, r⟩ := q
      cases r <;> cases eq
      exact He.free_ok X G (e1 _ hq)
    tbu := nodA_ok (He.ba e0).1
    nfi := fun b y c hb hc => List.all_eq_true.mp (e7 b hb) _ (clm y c hc)
    lsi := fun c hc => by
      obtain ⟨q1, q2⟩ := He.ba (e8 c hc)
      exact ⟨He.eqO_ok q1, He.eqO_ok q2⟩ }

theorem obsV_at {cn : List Str} {ds : List Df} {gs : GS} {K : PySem.W.Frag} (c : obsV cn ds gs K = valV ds) : exB cn ds gs K = true ∧ ∀ (f : Nat) (d : Df), ds[f]? = some d → ∃ fd, FunD K d.name d.qual d.params d.body d.scope [] [] (dfAd K ds f) fd := by
  obtain ⟨c1, c2⟩ := He.ba (show (exB cn ds gs K && ds.all (Df.ok K)) = true from congrArg (fun z : AlV => z.1) c)
  have e : ds.map (fun d => fnAtK K (d.at_.ad K)) = ds.map Df.val := congrArg (fun z : AlV => z.2) c
  refine ⟨c1, fun f d h => ?_⟩
  have e2 : (ds.map fun d => fnAtK K (d.at_.ad K))[f]? = (ds.map Df.val)[f]? := by rw [e]
  rw [List.getElem?_map, List.getElem?_map, h] at e2
  have r := Df.funD (Option.some.inj e2) (List.all_eq_true.mp c2 d (List.mem_of_getElem? h))
  have ea : dfAd K ds f = d.at_.ad K := by unfold dfAd; rw [h]
  rw [ea]
  exact r
end Ev
end

section
set_option Elab.async false
set_option linter.all false
set_option maxRecDepth 100000
/-! Ev: a law from the evaluator. -/
namespace Ev
open PySem PySem.Spec PyProof.Rows L2

/-- the memory at the law's call: the script -/
def mem0 (ns : List Int) : Mem := (⟨0, 0, fun _ => none, .lf, [], []⟩ : Mem).push (.scr (ns.map PV.int))
/-- what a table of defs has to keep -/
structure TabOk' (gs : GS) (ds : List Df) (tab : List Fd) (L : Nat) : Prop where
  tabs : GsOk gs tab
  fd : ∀ f d, nthF tab f = some d → ∃ (df : Df) (ps : List Str), ds[f]? = some df ∧ FnScope df.N ps df.scope ∧
    (∀ (kV doc pm : Value) (an : Option Addr) (cdv ct : Value) (us : List Value), us.length = ps.length → bindArgs (PySem.W.fnOf df.name df.qual df.params df.body df.scope .none kV doc pm an cdv ct) ⟨us, []⟩ = pure (ps.zip us)) ∧
    d = ⟨ps.length, df.N.length, (lev evA gs L).ss ⟨df.N, df.scope, fun _ => true, df.lam, df.re⟩ df.body⟩
/-- the text's own __iter__s -/
structure ItTx (gs : GS) (ds : List Df) (tab : List Fd) (q : Nat × Nat × Nat × Str) : Prop where
  df : ∃ d : Df, ds[q.2.2.1]? = some d ∧ itBodyB d.body q.2.2.2 = true ∧ FnScope [("self" : Str)] [("self" : Str)] d.scope ∧ d.scope.names.lookup ("iter" : Str) = some .globalImplicit ∧
    ∀ (kV doc pm : Value) (an : Option Addr) (cdv ct : Value) (us : List Value), us.length = [("self" : Str)].length → bindArgs (PySem.W.fnOf d.name d.qual d.params d.body d.scope .none kV doc pm an cdv ct) ⟨us, []⟩ = pure ([("self" : Str)].zip us)
  me : (q.1, ("__iter__" : Str), q.2.2.1) ∈ (gtOf gs tab).meths
  sl : (q.1, q.2.2.2, q.2.1) ∈ (gtOf gs tab).slots
  it : ("iter" : Str) ∈ (gtOf gs tab).free
theorem rh_script {K : PySem.W.Frag} {C : CT} {H : Hp} {a : Addr} {ns : List Int} (nl : ∀ a o, K.lookup a = some o → o.cls ≠ .type "list") (ho : ∀ p ∈ C.tb, H p.at_ = some (.tbl #[])) (hs : SqL K H a (ns.map V.int)) :
    RH K C ⟨fun _ => a, fun _ => a⟩ (mem0 ns) H where
  all := fun n hn => by
    have : n = 0 := by
      have : n < 1 := hn
      omega
    subst this
    exact ⟨_, Mem.get_push_new _ _⟩
  obj := fun n o e => by
    have hn : n < 1 := Mem.get_lt e
    have : n = 0 := by omega
    subst this
    have e2 : (mem0 ns).get 0 = some (.scr (ns.map PV.int)) := Mem.get_push_new _ _
    rw [e2] at e
    cases e
    have hr : Rd H a (.lst (ns.map V.int)) := by
      rcases hs with h | ⟨o, its, n, h1, h2, _⟩
      · exact h
      · exact absurd h2 (nl _ _ h1)
    have nn : H a ≠ none ∧ ∀ us, H a ≠ some (.tup us) := by
      rcases hr with h | ⟨o, h⟩
      · rw [h]; exact ⟨fun z => (nomatch z), fun us z => (nomatch z)⟩
      · rw [h]; exact ⟨fun z => (nomatch z), fun us z => (nomatch z)⟩
    exact ⟨rfl, nn.1, _, hs, nn.2, ints_rps ns⟩
  inj := fun i j hi hj ne => by
    have h1 : i < 1 := hi
    have h2 : j < 1 := hj
    exact absurd (by omega) ne
  lok := fun n hn => by cases hn
  lod := fun n hn => by cases hn
  tab := fun p hp => by
    have ep := ho p hp
    have ne : p.at_ ≠ a := fun z => by
      rw [z] at ep
      rcases hs with h | ⟨o, its, n, h1, h2, _⟩
      · rcases h with h | ⟨o, h⟩ <;> rw [h] at ep <;> cases ep
      · exact absurd h2 (nl _ _ h1)
    exact ⟨fun _ _ => ⟨ne, ne⟩, #[], ep, True.intro, fun pos cv _ hc => by
      have z : codeAmong pos [] = some cv := hc
      simp [codeAmong] at z⟩
theorem ev_law {l : PySem.W.OpenLaw} {w : World} {mg : Str → Option Value} {h : Heap} {fa : Addr} {cn : List Str} {ds : List Df} {gs : GS} {tab : List Fd} {L k li : Nat} {name x : Str} (T : TabOk' gs ds tab L) (TI : ∀ q ∈ gs.its, ItTx gs ds tab q)
    (Y : ∃ K : PySem.W.Frag, K.In h ∧ (∀ a o, K.lookup a = some o → o.cls ≠ .type "list") ∧ (∀ p ∈ csOf K ds, h.get? p.2 = some { cls := .none, data := .fields #[] }) ∧ obsV cn ds gs K = valV ds) (G : h.Ns mainGlobals mg) (hmg : mg name = some (.ref fa))
    (hl : (name, Rl.fn li) ∈ gs.roles) (hx : ∃ (df : Df), ds[li]? = some df ∧ FnScope df.N [x] df.scope ∧ (∀ (kV doc pm : Value) (an : Option Addr) (cdv ct : Value) (us : List Value), us.length = [x].length → bindArgs (PySem.W.fnOf df.name df.qual df.params df.body df.scope .none kV doc pm an cdv ct) ⟨us, []⟩ = pure ([x].zip us)) ∧
      nthF tab li = some ⟨1, df.N.length, (lev evA gs L).ss ⟨df.N, df.scope, fun _ => true, df.lam, df.re⟩ df.body⟩)
    (ev : ∀ ns : List Int, ns.length ≤ 63 → ∃ h', callD tab (k + 1) li [.ref 0] (mem0 ns) = .ok (.bl true) h') :
    ∃ K : PySem.W.Frag, K.In h ∧ LamX.LawAtS l w K (fun _ _ _ _ _ _ => False) (6 * k + 5 + 1) 63 x mg fa h := by
  obtain ⟨K, KX, nl, ht, c⟩ := Y
  obtain ⟨ce, cd⟩ := obsV_at c
  have st := gst_of (tab := tab) KX G ce
  have hlam := List.all_eq_true.mp (He.ba (He.ba ce).1).2
  have lamd : ∀ d ∈ ds, ∀ ls, d.lam = some ls → codeB K (d.at_.ad K) = true ∧ PySem.W.codeHdIn K (codeAd K (d.at_.ad K)) (tabAd K (codeAd K (d.at_.ad K))) = true ∧ K.lookup (tabAd K (codeAd K (d.at_.ad K))) = none := fun d hd ls el => by
    have q := hlam d hd
    rw [el] at q
    obtain ⟨q1, q2⟩ := He.ba q
    obtain ⟨q2, q3⟩ := He.ba q2
    exact ⟨q1, q2, by simpa using q3⟩
  have csd : ∀ p ∈ csOf K ds, ∃ d ∈ ds, ∃ ls, d.lam = some ls ∧ p = (codeAd K (d.at_.ad K), tabAd K (codeAd K (d.at_.ad K))) := fun p hp => by
    obtain ⟨d, hd, e⟩ := List.mem_filterMap.mp hp
    cases el : d.lam with
    | none => rw [el] at e; cases e
    | some ls => rw [el] at e; cases e; exact ⟨d, hd, ls, el, rfl⟩
  have efa : fa = (plOf K cn ds).F li := by
    have q := st.gl name li (List.mem_filterMap.mpr ⟨_, hl, rfl⟩)
    rw [hmg] at q
    have q := Option.some.inj q
    injection q
  subst efa
  obtain ⟨df, h1, h2, h3, h4⟩ := hx
  obtain ⟨fd, FD⟩ := cd li df h1
  have lamD : ∀ (base : Heap), (∀ p ∈ csOf K ds, LamX.TabB base mg p.1 p.2) → ∀ (f : Nat) (d : Df) (fd : FuncData), ds[f]? = some d → FunD K d.name d.qual d.params d.body d.scope [] [] (dfAd K ds f) fd → LamD mg base (plOf K cn ds) d.qual fd d.lam := fun base hT f d fd e F ls el => by
    have hd := List.mem_of_getElem? e
    have ea : dfAd K ds f = d.at_.ad K := by unfold dfAd; rw [e]
    rw [ea] at F
    obtain ⟨q1, q2, q3⟩ := lamd d hd ls el
    have hm : (codeAd K (d.at_.ad K), tabAd K (codeAd K (d.at_.ad K))) ∈ csOf K ds := List.mem_filterMap.mpr ⟨d, hd, by rw [el]; rfl⟩
    have hc : fd.code = .ref (codeAd K (d.at_.ad K)) := by
      obtain ⟨oc, od, dV, kV, doc, pm, an, cdv, ct, osl, rfl, lk, _⟩ := F.ex
      unfold codeB at q1
      unfold codeAd
      rw [lk] at q1 ⊢
      have q1 : refB cdv = true := q1
      show cdv = .ref (codeV cdv)
      cases cdv <;> first | rfl | (exact absurd (show false = true from q1) (by decide))
    exact ⟨_, _, hc, hT _ hm, List.mem_filterMap.mpr ⟨d, hd, by rw [el]; rfl⟩⟩
  have hF : ∀ (base : Heap), (∀ p ∈ csOf K ds, LamX.TabB base mg p.1 p.2) → ∀ f d, nthF tab f = some d → FnAt K mg base (plOf K cn ds) gs L f d := fun base hT f d e => by
    obtain ⟨df', ps, k1, k2, k3, k4⟩ := T.fd f d e
    obtain ⟨fd', FD'⟩ := cd f df' k1
    exact ⟨_, _, _, _, _, fd', df'.N, ps, df'.lam, df'.re, FD', k2, k3, k4, lamD base hT f df' fd' k1 FD'⟩
  have hI : ∀ (base : Heap) (w : World), ∀ c i, (c, i) ∈ (gtOf gs tab).its → ItAt l.prog w K mg base ((plOf K cn ds).C c) i := fun base w c i hm => by
    obtain ⟨q, hq, eq⟩ := List.mem_map.mp hm
    have t := TI q hq
    obtain ⟨d, d1, d2, d3, d4, d5⟩ := t.df
    cases eq
    obtain ⟨p1, p2, p3, p4, p5, eb⟩ := itBodyB_ok d2
    obtain ⟨fd', FD'⟩ := cd q.2.2.1 d d1
    have M := (st.me _ _ _ t.me).2
    obtain ⟨sc', sq, sl'⟩ := st.sl _ _ _ t.sl
    refine ⟨_, M, ?_⟩
    have hb : ∀ (s : Shared) (u : Value), BindsTo s fd' ⟨[u], []⟩ [(("self" : Str), u)] := fun s u => FD'.bindsA d5 s [u] rfl
    rw [eb] at FD'
    exact itfn_of FD' d3 hb d4 (st.free _ t.it) sc' sl'
  refine ⟨K, KX, fd, csOf K ds, fun vs H Q E => spF K (plOf K cn ds) (callD tab (k + 1)) li vs H Q (fun _ _ _ => False), ht, fun p hp => ?_, fun p hp => ?_, fun s u => FD.bindsA h3 s [u] rfl, fun H a ns hns hbits ho hs => ?_, fun base hb hn hT => ?_⟩
  · obtain ⟨d, hd, ls, el, rfl⟩ := csd p hp
    exact (lamd d hd ls el).2.2
  · obtain ⟨d, hd, ls, el, rfl⟩ := csd p hp
    exact PySem.W.codeHd_of_K KX (lamd d hd ls el).2.1
  · have ho' : ∀ p ∈ (plOf K cn ds).C.tb, H p.at_ = some (.tbl #[]) := fun p hp => by
      obtain ⟨d, hd, e⟩ := List.mem_filterMap.mp hp
      cases el : d.lam with
      | none => rw [el] at e; cases e
      | some ls =>
        rw [el] at e
        cases e
        exact ho _ (List.mem_filterMap.mpr ⟨d, hd, by rw [el]; rfl⟩)
    refine ⟨mem0 ns, ⟨fun _ => a, fun _ => a⟩, [.ref 0], rh_script nl ho' hs, .cons (.ref (by show 0 < 1; omega)) .nil, ?_⟩
    obtain ⟨h', e⟩ := ev ns hns
    rw [e]
    exact fun m' H' b l rh rb => rb.bl_inv
  · have F := fn_lvl (base := base) (L := L) T.tabs (fns_ok (P := l.prog) (w := w) (base := base) T.tabs st (hI base w) (hF base hT) k) h4 FD h2 rfl (lamD base hT li df fd h1 FD)
    refine ⟨fun vs H Q E q => F.len vs H Q _ q, fun A outer s H args us vs Q E hr e0 hb hv hs => ?_⟩
    refine codeAny_mono (F.run A outer s H args us vs Q _ hr e0 hb hv hs) fun r s' hq => ?_
    cases r with
    | ok u => cases u <;> exact hq
    | error e => exact (cx_false hq).elim
end Ev
end

section
set_option Elab.async false
set_option linter.all false
set_option maxRecDepth 100000
/-! Ev: a long run in parts: each part begins at a memory of which some objects are known. -/
namespace Ev
open PySem

/-- raw, but for what is known -/
noncomputable def ovr (kn : List (Nat × Ob)) (raw : Nat → Option Ob) (n : Nat) : Option Ob :=
  @List.rec (Nat × Ob) (fun _ => Option Ob) (raw n) (fun q _ ih => @Bool.rec (fun _ => Option Ob) ih (some q.2) (Nat.beq q.1 n)) kn
theorem ovr_nil (raw : Nat → Option Ob) (n : Nat) : ovr [] raw n = raw n := rfl
theorem ovr_hit {q : Nat × Ob} {kn : List (Nat × Ob)} {raw : Nat → Option Ob} {n : Nat} (e : Nat.beq q.1 n = true) : ovr (q :: kn) raw n = some q.2 := by
  show @Bool.rec (fun _ => Option Ob) (ovr kn raw n) (some q.2) (Nat.beq q.1 n) = _
  rw [e]
theorem ovr_miss {q : Nat × Ob} {kn : List (Nat × Ob)} {raw : Nat → Option Ob} {n : Nat} (e : Nat.beq q.1 n = false) : ovr (q :: kn) raw n = ovr kn raw n := by
  show @Bool.rec (fun _ => Option Ob) (ovr kn raw n) (some q.2) (Nat.beq q.1 n) = _
  rw [e]
theorem ovr_eq {raw : Nat → Option Ob} : ∀ {kn : List (Nat × Ob)}, (∀ q ∈ kn, raw q.1 = some q.2) → ovr kn raw = raw
  | [], _ => rfl
  | q :: kn, h => by
    funext n
    cases e : Nat.beq q.1 n with
    | true =>
      rw [ovr_hit e, ← Nat.eq_of_beq_eq_true e]
      exact (h q (.head _)).symm
    | false =>
      rw [ovr_miss e, ovr_eq fun p hp => h p (.tail _ hp)]
structure AtM (h : Mem) (N : Nat) (kn : List (Nat × Ob)) : Prop where
  sz : h.size = N
  lk : h.locks = []
  ld : h.dl = []
  kn : ∀ q ∈ kn, h.get q.1 = some q.2
noncomputable def knM (N : Nat) (kn : List (Nat × Ob)) (raw : Nat → Option Ob) : Mem := ⟨N, N, ovr kn raw, .lf, [], []⟩
section
variable {h : Mem} {N N' : Nat} {kn kn' : List (Nat × Ob)} {st : XS} {c : Calls} {s s' : Env} {v : PV}
theorem AtM.re_eq (a : AtM h N kn) : h.re = knM N kn h.raw := by
  have e : ovr kn h.raw = h.raw := ovr_eq fun q hq => by
    have g := a.kn q hq
    rw [← Mem.get_of_lt (Mem.get_lt g)]
    exact g
  unfold knM Mem.re
  rw [e, a.sz, a.lk, a.ld]
theorem AtM.re (a : AtM h N kn) : AtM h.re N kn := ⟨a.sz, a.lk, a.ld, fun q hq => by rw [Mem.get_re]; exact a.kn q hq⟩
theorem AtM.sub (a : AtM h N kn) (l : ∀ q ∈ kn', q ∈ kn) : AtM h N kn' := ⟨a.sz, a.lk, a.ld, fun q hq => a.kn q (l q hq)⟩
def atV (h : Mem) (kn : List (Nat × Ob)) : Nat × List Nat × List Nat × List (Option Ob) := (h.size, h.locks, h.dl, kn.map fun q => h.get q.1)
def atW (N : Nat) (kn : List (Nat × Ob)) : Nat × List Nat × List Nat × List (Option Ob) := (N, [], [], kn.map fun q => some q.2)
theorem map_mem {α β : Type} {f g : α → β} : ∀ {l : List α}, l.map f = l.map g → ∀ q ∈ l, f q = g q
  | [], _, _, h => by cases h
  | x :: l, e, q, h => by
    injection e with e1 e2
    cases h with
    | head => exact e1
    | tail _ h => exact map_mem e2 q h
theorem at_of (e : atV h kn = atW N kn) : AtM h N kn := by
  unfold atV atW at e
  injection e with e1 e
  injection e with e2 e
  injection e with e3 e
  exact ⟨e1, e2, e3, map_mem e⟩
def outN (r : SR) (kn : List (Nat × Ob)) : Option (Env × Nat × List Nat × List Nat × List (Option Ob)) := match r with
  | .nx s h => some (s, atV h kn)
  | _ => none
def outR (r : SR) (kn : List (Nat × Ob)) : Option (PV × Nat × List Nat × List Nat × List (Option Ob)) := match r with
  | .rt v h => some (v, atV h kn)
  | _ => none
def outC (r : Res PV) (kn : List (Nat × Ob)) : Option (PV × Nat × List Nat × List Nat × List (Option Ob)) := match r with
  | .ok v h => some (v, atV h kn)
  | _ => none
theorem ch_nx (H : ∀ raw, outN (st c s (knM N kn raw)) kn' = some (s', atW N' kn')) (a : AtM h N kn) : ∃ h', sRe st c s h = .nx s' h' ∧ AtM h' N' kn' := by
  have q := H h.raw
  rw [← a.re_eq] at q
  unfold sRe
  generalize st c s h.re = r at q
  cases r with
  | nx s1 h1 =>
    injection q with q
    injection q with q1 q2
    exact ⟨h1, by rw [q1], at_of q2⟩
  | _ => cases q
theorem ch_rt (H : ∀ raw, outR (st c s (knM N kn raw)) kn' = some (v, atW N' kn')) (a : AtM h N kn) : ∃ h', sRe st c s h = .rt v h' ∧ AtM h' N' kn' := by
  have q := H h.raw
  rw [← a.re_eq] at q
  unfold sRe
  generalize st c s h.re = r at q
  cases r with
  | rt s1 h1 =>
    injection q with q
    injection q with q1 q2
    exact ⟨h1, by rw [q1], at_of q2⟩
  | _ => cases q
theorem seq_nx {a b : XS} {h' : Mem} (e : a c s h = .nx s' h') : sSeq a b c s h = b c s' h' := by
  unfold sSeq
  rw [e]
theorem seq_rt {a b : XS} {h' : Mem} (e : a c s h = .rt v h') : sSeq a b c s h = .rt v h' := by
  unfold sSeq
  rw [e]
theorem call_rt {tab : List Fd} {k f : Nat} {d : Fd} {args : List PV} {h' : Mem} (e : nthF tab f = some d) (hl : Nat.beq args.length d.np = true)
    (hb : d.body (callD tab k) (args.map some ++ List.replicate (d.ns - args.length) none) h = .rt v h') : callD tab (k + 1) f args h = .ok v h' := by
  show (match nthF tab f with
    | some d => runFd d (callD tab k) args h
    | none => .bad) = _
  rw [e]
  simp only
  unfold runFd
  rw [hl, hb]
  rfl
theorem call_nx {tab : List Fd} {k f : Nat} {d : Fd} {args : List PV} {h' : Mem} (e : nthF tab f = some d) (hl : Nat.beq args.length d.np = true)
    (hb : d.body (callD tab k) (args.map some ++ List.replicate (d.ns - args.length) none) h = .nx s' h') : callD tab (k + 1) f args h = .ok .non h' := by
  show (match nthF tab f with
    | some d => runFd d (callD tab k) args h
    | none => .bad) = _
  rw [e]
  simp only
  unfold runFd
  rw [hl, hb]
  rfl
end
end Ev
end

section
set_option Elab.async false
set_option linter.all false
set_option maxRecDepth 100000
namespace HT
open PySem Ev
def b0 : XS := (sRet (eAnd (eIs .int [(0, false), (1, false), (2, false), (3, false), (4, false), (5, false)] (eVar 0)) (eAnd (eNot (eIs .bool [(0, false), (1, false), (2, false), (3, false), (4, false), (5, false)] (eVar 0))) (eChain .le .le (eVar 1) (eVar 0) (eVar 2)))))
def b1 : XS := (sSeq (sIf (tOr (tNot (tE (eIs .tuple [(0, false), (1, false), (2, false), (3, false), (4, false), (5, false)] (eVar 0)))) (tE (eCmp .ne (eLen [(0, 6)] (eVar 0)) (eC (.int 4))))) (sRet (eC (.bl false))) sNil) (sSeq (sAsg (eVar 0) (tgG (.un [2, 3, 4, 5]))) (sSeq (sIf (tOr (tNot (tE (eCall 0 (aCons (eVar 2) (aCons (eC (.int 0)) (aCons (eBin .sub (eVar 1) (eC (.int 1))) aNil)))))) (tOr (tNot (tE (eCall 0 (aCons (eVar 3) (aCons (eC (.int 0)) (aCons (eBin .sub (eVar 1) (eC (.int 1))) aNil)))))) (tE (eCmp .ge (eVar 2) (eVar 3))))) (sRet (eC (.bl false))) sNil) (sRet (eAnd (eCall 0 (aCons (eVar 4) (aCons (eC (.int 1)) (aCons (eC (.int 4)) aNil)))) (eCall 0 (aCons (eVar 5) (aCons (eC (.int 0)) (aCons (eC (.int 3)) aNil)))))))))
def b2 : XS := (sSeq (sIf (tOr (tNot (tE (eIs .tuple [(0, false), (1, false), (2, false), (3, false), (4, false), (5, false)] (eVar 0)))) (tNot (tE (eChain .le .le (eC (.int 1)) (eLen [(0, 6)] (eVar 0)) (eC (.int 7)))))) (sRet (eC (.bl false))) sNil) (sSeq (sIf (tNot (tE (eAll (lC1 [2] (iAnyO [(3, 0)] (eVar 0)) (.nm 2) tYes (eCall 1 (aCons (eVar 2) (aCons (eVar 1) aNil))))))) (sRet (eC (.bl false))) sNil) (sRet (eAll (lC1 [3, 4] (iZip (iOf (eVar 0)) (iOf (eSl (eVar 0) (oSome (eC (.int 1))) oNone))) (.un [3, 4]) tYes (eCmp .lt (eVar 3) (eVar 4)))))))
def b3 : XS := (sSeq (sIf (tOr (tNot (tE (eIs .tuple [(0, false), (1, false), (2, false), (3, false), (4, false), (5, false)] (eVar 0)))) (tE (eCmp .ne (eLen [(0, 6)] (eVar 0)) (eVar 1)))) (sRet (eC (.bl false))) sNil) (sRet (eAll (lC1 [2] (iAnyO [(3, 0)] (eVar 0)) (.nm 2) tYes (eOr (eCmp .is_ (eVar 2) (eC .non)) (eCall 0 (aCons (eVar 2) (aCons (eC (.int 1)) (aCons (eC (.int 9)) aNil)))))))))
def b4 : XS := (sSeq (sIf (tOr (tNot (tE (eIs .tuple [(0, false), (1, false), (2, false), (3, false), (4, false), (5, false)] (eVar 0)))) (tE (eCmp .ne (eLen [(0, 6)] (eVar 0)) (eC (.int 2))))) (sRet (eC (.bl false))) sNil) (sRet (eAnd (eCall 0 (aCons (eSub (eVar 0) (eC (.int 0))) (aCons (eC (.int 1)) (aCons (eC (.int 6)) aNil)))) (eCall 0 (aCons (eSub (eVar 0) (eC (.int 1))) (aCons (eC (.int 0)) (aCons (eC (.int 2)) aNil)))))))
def b5 : XS := (sSeq (sIf (tNot (tE (eCall 0 (aCons (eVar 1) (aCons (eC (.int 2)) (aCons (eC (.int 5)) aNil)))))) sBad sNil) (sSeq (sIf (tNot (tE (eCall 2 (aCons (eVar 2) (aCons (eVar 1) aNil))))) sBad sNil) (sSeq (sIf (tNot (tE (eCall 3 (aCons (eVar 3) (aCons (eVar 1) aNil))))) sBad sNil) (sSeq (sIf (tNot (tE (eCall 4 (aCons (eVar 4) aNil)))) sBad sNil) (sSeq (sSlot [(0, 2)] (eVar 0) (eVar 1)) (sSeq (sSlot [(0, 1)] (eVar 0) (eVar 2)) (sSeq (sSlot [(0, 3)] (eVar 0) (eVar 3)) (sSlot [(0, 0)] (eVar 0) (eVar 4)))))))))
def b6 : XS := (sRet (eLen [(0, 6)] (eFld [(0, .slot 1)] (eVar 0))))
def b7 : XS := (sRet (eAnd (eIs (.own 0) [(0, true), (1, false), (2, false), (3, false), (4, false), (5, false)] (eVar 1)) (eCmp .eq (eMeth [(0, 8), (2, 32)] (eVar 0) aNil) (eMeth [(0, 8), (2, 32)] (eVar 1) aNil))))
def b8 : XS := (sRet (eNew (lNew (aCons (eFld [(0, .slot 2)] (eVar 0)) (aCons (eFld [(0, .slot 1)] (eVar 0)) (aCons (eFld [(0, .slot 3)] (eVar 0)) (aCons (eFld [(0, .slot 0)] (eVar 0)) aNil)))))))
def b9 : XS := (sRet (eFld [(0, .slot 2)] (eVar 0)))
def b10 : XS := (sRet (eFld [(0, .slot 1)] (eVar 0)))
def b11 : XS := (sRet (eFld [(0, .slot 3)] (eVar 0)))
def b12 : XS := (sRet (eFld [(0, .slot 0)] (eVar 0)))
def b13 : XS := (sIf (tNot (tE (eIs (.own 0) [(0, true), (1, false), (2, false), (3, false), (4, false), (5, false)] (eVar 0)))) sBad sNil)
def b14 : XS := (sSeq (sIf (tOr (tNot (tE (eIs .tuple [(0, false), (1, false), (2, false), (3, false), (4, false), (5, false)] (eVar 1)))) (tE (eCmp .ne (eLen [(0, 6)] (eVar 1)) (eC (.int 4))))) (sRet (eC (.bl false))) sNil) (sSeq (sAsg (eFld [(0, .slot 0)] (eVar 0)) (tgG (.un [3, 4]))) (sSeq (sAsg (eNew (lNew (aCons (eBin .sub (eFld [(0, .slot 2)] (eVar 0)) (eC (.int 1))) (aCons (eVar 3) (aCons (eVar 4) (aCons (eC (.int 4)) aNil)))))) (tgG (.nm 2))) (sRet (eAll (lC1 [5, 6] (iZip (iOf (eVar 1)) (iOf (eVar 2))) (.un [5, 6]) tYes (eCall 0 (aCons (eVar 5) (aCons (eC (.int 0)) (aCons (eVar 6) aNil))))))))))
def b15 : XS := (sSeq (sExpr (eCall 13 (aCons (eVar 0) aNil))) (sIf (tNot (tE (eCall 14 (aCons (eVar 0) (aCons (eVar 1) aNil))))) sBad sNil))
def b16 : XS := (sIf (tNot (tE (eCall 0 (aCons (eVar 0) (aCons (eC (.int 0)) (aCons (eC (.int 4)) aNil)))))) sBad sNil)
def b17 : XS := (sRet (eNew (lC1 [2, 3] (iEnum (iOf (eFld [(0, .slot 1)] (eVar 0)))) (.un [2, 3]) (tE (eCmp .eq (eSub (eVar 3) (eC (.int 0))) (eVar 1))) (eVar 2))))
def b18 : XS := (sRet (eCmp .eq (eSub (eVar 1) (eC (.int 0))) (eBin .sub (eFld [(0, .slot 2)] (eVar 0)) (eC (.int 1)))))
def b19 : XS := (sSeq (sAsg (eIf (tE (eCmp .is_ (eSub (eFld [(0, .slot 3)] (eVar 0)) (eSub (eVar 1) (eC (.int 0)))) (eC .non))) (eC (.int 0)) (eBin .sub (eSub (eFld [(0, .slot 0)] (eVar 0)) (eC (.int 0))) (eSub (eVar 1) (eC (.int 1))))) (tgG (.nm 2))) (sRet (eNew (lC2 [3, 4] [4] (iR1 (eBin .add (eVar 2) (eC (.int 1)))) (.nm 3) tYes (iAnyO [(3, 0)] (eCall 17 (aCons (eVar 0) (aCons (eSub (eVar 1) (eC (.int 0))) aNil)))) (.nm 4) tYes (eTup (aCons (eVar 3) (aCons (eVar 4) aNil)))))))
def b20 : XS := (sRet (eIf (tE (eCmp .eq (eSub (eVar 2) (eC (.int 0))) (eC (.int 0)))) (eC (.int 0)) (eBin .mul (eSub (eVar 2) (eC (.int 0))) (eSub (eFld [(0, .slot 3)] (eVar 0)) (eVar 1)))))
def b21 : XS := (sSeq (sAsg (eVar 1) (tgG (.un [5, 6]))) (sSeq (sFor (iR1 (eVar 3)) (tgG (.nm 4)) (sSeq (sAug 6 .add (eIf (tE (eCmp .ge (eVar 5) (eVar 2))) (eC (.int 0)) (eC (.int 1)))) (sAsg (eB gMax2 (aCons (eC (.int 0)) (aCons (eBin .sub (eVar 5) (eVar 2)) aNil))) (tgG (.nm 5))))) (sRet (eIf (tE (eCmp .le (eVar 6) (eSub (eFld [(0, .slot 0)] (eVar 0)) (eC (.int 1))))) (eTup (aCons (eVar 5) (aCons (eVar 6) aNil))) (eC .non)))))
def b22 : XS := (sSeq (sAsg (eVar 1) (tgG (.un [5, 6, 7, 8]))) (sSeq (sAsg (eSub (eFld [(0, .slot 1)] (eVar 0)) (eSub (eVar 2) (eC (.int 1)))) (tgG (.un [9, 10, 11, 12]))) (sSeq (sAsg (eCall 21 (aCons (eVar 0) (aCons (eTup (aCons (eB gMin2 (aCons (eSub (eFld [(0, .slot 0)] (eVar 0)) (eC (.int 0))) (aCons (eBin .add (eVar 6) (eSub (eVar 2) (eC (.int 0)))) aNil))) (aCons (eVar 7) aNil))) (aCons (eVar 12) (aCons (eBin .add (eVar 11) (eVar 3)) aNil))))) (tgG (.nm 4))) (sRet (eIf (tE (eCmp .is_ (eVar 4) (eC .non))) (eC .non) (eTup (aCons (eVar 10) (aCons (eSub (eVar 4) (eC (.int 0))) (aCons (eSub (eVar 4) (eC (.int 1))) (aCons (eBin .sub (eVar 8) (eVar 3)) aNil))))))))))
def b23 : XS := (sRet (eNew (lC1 [3] (iR1 (eBin .add (eSub (eVar 1) (eC (.int 3))) (eC (.int 1)))) (.nm 3) tYes (eCall 22 (aCons (eVar 0) (aCons (eVar 1) (aCons (eVar 2) (aCons (eVar 3) aNil))))))))
def b24 : XS := (sSeq (sExpr (eCall 15 (aCons (eVar 0) (aCons (eVar 1) aNil)))) (sRet (eCall 19 (aCons (eVar 0) (aCons (eVar 1) aNil)))))
def b25 : XS := (sSeq (sExpr (eCall 15 (aCons (eVar 0) (aCons (eVar 1) aNil)))) (sSeq (sIf (tOr (tNot (tE (eIs .tuple [(0, false), (1, false), (2, false), (3, false), (4, false), (5, false)] (eVar 2)))) (tOr (tE (eCmp .ne (eLen [(0, 6)] (eVar 2)) (eC (.int 2)))) (tNot (tE (eAll (lC1 [3] (iAnyO [(3, 0)] (eVar 2)) (.nm 3) tYes (eCall 0 (aCons (eVar 3) (aCons (eC (.int 0)) (aCons (eC (.int 7)) aNil)))))))))) sBad sNil) (sSeq (sIf (tE (eCmp .notin (eVar 2) (eCall 19 (aCons (eVar 0) (aCons (eVar 1) aNil))))) sBad sNil) (sRet (eCall 23 (aCons (eVar 0) (aCons (eVar 1) (aCons (eVar 2) aNil))))))))
def b26 : XS := (sSeq (sSlot [(1, 0)] (eVar 0) (eVar 1)) (sSlot [(1, 1)] (eVar 0) eDic0))
def b27 : XS := (sSeq (sIf (tE (eCmp .notin (eVar 1) (eFld [(1, .slot 1)] (eVar 0)))) (sSetI (eFld [(1, .slot 1)] (eVar 0)) (eVar 1) (eIf (tE (eCall 18 (aCons (eFld [(1, .slot 0)] (eVar 0)) (aCons (eVar 1) aNil)))) (eC (.int 0)) (eMeth [(1, 28)] (eVar 0) (aCons (eVar 1) aNil)))) sNil) (sRet (eSub (eFld [(1, .slot 1)] (eVar 0)) (eVar 1))))
def b28 : XS := (sSeq (sAsg (eNew (lC1 [4] (iAnyO [(3, 0)] (eCall 19 (aCons (eFld [(1, .slot 0)] (eVar 0)) (aCons (eVar 1) aNil)))) (.nm 4) tYes (eMeth [(1, 29)] (eVar 0) (aCons (eVar 1) (aCons (eVar 4) aNil))))) (tgG (.nm 2))) (sSeq (sAsg (eNew (lC1 [5] (iAnyO [(3, 0)] (eVar 2)) (.nm 5) (tE (eCmp .isnot (eVar 5) (eC .non))) (eVar 5))) (tgG (.nm 3))) (sRet (eIf (tE (eCmp .ne (eVar 3) (eNew (lNew aNil)))) (eB gMinL (lOf (eVar 3))) (eC .non)))))
def b29 : XS := (sSeq (sAsg (eNew (lC1 [4] (iAnyO [(3, 0)] (eCall 23 (aCons (eFld [(1, .slot 0)] (eVar 0)) (aCons (eVar 1) (aCons (eVar 2) aNil))))) (.nm 4) tYes (eIf (tE (eCmp .is_ (eVar 4) (eC .non))) (eC .non) (eMeth [(1, 27)] (eVar 0) (aCons (eVar 4) aNil))))) (tgG (.nm 3))) (sRet (eIf (tE (eCmp .in_ (eC .non) (eVar 3))) (eC .non) (eBin .add (eCall 20 (aCons (eFld [(1, .slot 0)] (eVar 0)) (aCons (eSub (eVar 1) (eC (.int 0))) (aCons (eVar 2) aNil)))) (eB gMaxL (lOf (eVar 3)))))))
def b30 : XS := (sSeq (sSlot [(2, 0)] (eVar 0) (eVar 1)) (sSeq (sSlot [(2, 1)] (eVar 0) (eB gDict (aCons (eVar 2) aNil))) (sSlot [(2, 2)] (eVar 0) (eB gDict (aCons (eVar 3) aNil)))))
def b31 : XS := (sRet (eAnd (eIs (.own 2) [(0, false), (1, false), (2, true), (3, false), (4, false), (5, false)] (eVar 1)) (eCmp .eq (eMeth [(0, 8), (2, 32)] (eVar 0) aNil) (eMeth [(0, 8), (2, 32)] (eVar 1) aNil))))
def b32 : XS := (sRet (eNew (lNew (aCons (eFld [(2, .slot 0)] (eVar 0)) (aCons (eFld [(2, .slot 1)] (eVar 0)) (aCons (eFld [(2, .slot 2)] (eVar 0)) aNil))))))
def b33 : XS := (sSeq (sExpr (eCall 15 (aCons (eVar 1) (aCons (eVar 2) aNil)))) (sSeq (sIf (tOr (tE (eCmp .notin (eVar 2) (eFld [(2, .slot 1)] (eVar 0)))) (tE (eCmp .gt (eSub (eFld [(2, .slot 1)] (eVar 0)) (eVar 2)) (eFld [(2, .slot 0)] (eVar 0))))) (sRet (eC (.bl false))) sNil) (sSeq (sIf (tNot (tE (eAll (lC1 [3] (iAnyO [(3, 0)] (eFld [(2, .slot 1)] (eVar 0))) (.nm 3) tYes (eMeth [(2, 34)] (eVar 0) (aCons (eVar 1) (aCons (eVar 3) aNil))))))) (sRet (eC (.bl false))) sNil) (sSeq (sIf (tAnd (tE (eCmp .gt (eFld [(2, .slot 0)] (eVar 0)) (eC (.int 0)))) (tE (eCmp .lt (eGet2 (eFld [(2, .slot 2)] (eVar 0)) (eVar 2) (eC (.int 0))) (eFld [(2, .slot 0)] (eVar 0))))) (sRet (eC (.bl false))) sNil) (sRet (eAll (lC1 [3] (iAnyO [(3, 0)] (eFld [(2, .slot 2)] (eVar 0))) (.nm 3) tYes (eMeth [(2, 35)] (eVar 0) (aCons (eVar 1) (aCons (eVar 3) aNil))))))))))
def b34 : XS := (sSeq (sAsg (eSub (eFld [(2, .slot 1)] (eVar 0)) (eVar 2)) (tgG (.nm 3))) (sSeq (sIf (tOr (tE (eCmp .lt (eVar 3) (eC (.int 0)))) (tE (eCall 18 (aCons (eVar 1) (aCons (eVar 2) aNil))))) (sRet (eCmp .ge (eVar 3) (eC (.int 0)))) sNil) (sSeq (sFor (iAnyO [(3, 0)] (eCall 19 (aCons (eVar 1) (aCons (eVar 2) aNil)))) (tgG (.nm 4)) (sSeq (sAsg (eBin .sub (eVar 3) (eCall 20 (aCons (eVar 1) (aCons (eSub (eVar 2) (eC (.int 0))) (aCons (eVar 4) aNil))))) (tgG (.nm 5))) (sIf (tE (eAll (lC1 [6] (iAnyO [(3, 0)] (eCall 23 (aCons (eVar 1) (aCons (eVar 2) (aCons (eVar 4) aNil))))) (.nm 6) tYes (eAnd (eCmp .in_ (eVar 6) (eFld [(2, .slot 1)] (eVar 0))) (eCmp .le (eSub (eFld [(2, .slot 1)] (eVar 0)) (eVar 6)) (eVar 5)))))) (sRet (eC (.bl true))) sNil))) (sRet (eC (.bl false))))))
def b35 : XS := (sSeq (sAsg (eSub (eFld [(2, .slot 2)] (eVar 0)) (eVar 2)) (tgG (.nm 3))) (sSeq (sIf (tE (eCmp .le (eVar 3) (eC (.int 0)))) (sRet (eC (.bl true))) sNil) (sSeq (sIf (tE (eCall 18 (aCons (eVar 1) (aCons (eVar 2) aNil)))) (sRet (eC (.bl false))) sNil) (sSeq (sFor (iAnyO [(3, 0)] (eCall 19 (aCons (eVar 1) (aCons (eVar 2) aNil)))) (tgG (.nm 4)) (sSeq (sAsg (eCall 23 (aCons (eVar 1) (aCons (eVar 2) (aCons (eVar 4) aNil)))) (tgG (.nm 5))) (sSeq (sAsg (eB gMaxL (lNew (aCons (eC (.int 0)) (aStar (eNew (lC1 [7] (iAnyO [(3, 0)] (eVar 5)) (.nm 7) tYes (eGet2 (eFld [(2, .slot 2)] (eVar 0)) (eVar 7) (eC (.int 0))))) aNil)))) (tgG (.nm 6))) (sIf (tAnd (tE (eCmp .notin (eC .non) (eVar 5))) (tE (eCmp .lt (eBin .add (eCall 20 (aCons (eVar 1) (aCons (eSub (eVar 2) (eC (.int 0))) (aCons (eVar 4) aNil)))) (eVar 6)) (eVar 3)))) (sRet (eC (.bl false))) sNil)))) (sRet (eC (.bl true)))))))
def b36 : XS := (sSlot [(3, 0)] (eVar 0) (eB gListL (lOf (eVar 1))))
def b37 : XS := (sRet eBad)
def b38 : XS := (sRet (eAnd (eIs (.own 3) [(0, false), (1, false), (2, false), (3, true), (4, false), (5, false)] (eVar 1)) (eCmp .eq (eFld [(3, .slot 0)] (eVar 0)) (eFld [(3, .slot 0)] (eVar 1)))))
def b39 : XS := (sSeq (sExpr (eCall 15 (aCons (eVar 1) (aCons (eVar 2) aNil)))) (sSeq (sAsg (dC1 [4] (iAnyO [(3, 0)] (eVar 0)) (.nm 4) tYes (eVar 4) (eC (.bl true))) (tgG (.nm 3))) (sSeq (sIf (tOr (tE (eCmp .notin (eVar 2) (eVar 3))) (tE (eAny (lC1 [4] (iAnyO [(3, 0)] (eVar 3)) (.nm 4) tYes (eCall 18 (aCons (eVar 1) (aCons (eVar 4) aNil))))))) (sRet (eC (.bl false))) sNil) (sSeq (sFor (iAnyO [(3, 0)] (eVar 3)) (tgG (.nm 4)) (sFor (iAnyO [(3, 0)] (eCall 19 (aCons (eVar 1) (aCons (eVar 4) aNil)))) (tgG (.nm 5)) (sIf (tNot (tE (eAny (lC1 [6] (iAnyO [(3, 0)] (eCall 23 (aCons (eVar 1) (aCons (eVar 4) (aCons (eVar 5) aNil))))) (.nm 6) tYes (eOr (eCmp .is_ (eVar 6) (eC .non)) (eCmp .in_ (eVar 6) (eVar 3))))))) (sRet (eC (.bl false))) sNil))) (sRet (eC (.bl true)))))))
def b40 : XS := (sSeq (sAsg (eMake 1 26 2 (aCons (eVar 0) aNil)) (tgG (.nm 2))) (sSeq (sAsg (eMeth [(1, 27)] (eVar 2) (aCons (eVar 1) aNil)) (tgG (.nm 3))) (sSeq (sIf (tE (eCmp .is_ (eVar 3) (eC .non))) (sRet (eMake 3 36 1 (aCons (eNew (lC1 [6, 7] (iItems (eFld [(1, .slot 1)] (eVar 2))) (.un [6, 7]) (tE (eCmp .is_ (eVar 7) (eC .non))) (eVar 6))) aNil))) sNil) (sSeq (sAsg (dC1 [6, 7] (iItems (eFld [(1, .slot 1)] (eVar 2))) (.un [6, 7]) (tE (eCmp .isnot (eVar 7) (eC .non))) (eVar 6) (eVar 7)) (tgG (.nm 4))) (sSeq (sAsg (dC1 [6, 7] (iItems (eFld [(1, .slot 1)] (eVar 2))) (.un [6, 7]) tYes (eVar 6) (eIf (tE (eCmp .is_ (eVar 7) (eC .non))) (eVar 3) (eB gMin2 (aCons (eVar 3) (aCons (eVar 7) aNil))))) (tgG (.nm 5))) (sRet (eMake 2 30 3 (aCons (eVar 3) (aCons (eVar 4) (aCons (eVar 5) aNil))))))))))
def b41 : XS := (sRet (eMeth [(1, 27)] (eMake 1 26 2 (aCons (eVar 0) aNil)) (aCons (eVar 1) aNil)))
def b42 : XS := (sSeq (sExpr (eCall 15 (aCons (eVar 0) (aCons (eVar 1) aNil)))) (sRet (eCall 40 (aCons (eVar 0) (aCons (eVar 1) aNil)))))
def b43 : XS := (sSeq (sExpr (eCall 15 (aCons (eVar 0) (aCons (eVar 1) aNil)))) (sRet (eCall 41 (aCons (eVar 0) (aCons (eVar 1) aNil)))))
def b44 : XS := (sSeq (sIf (tE (eCmp .eq (eVar 1) (eBin .sub (eFld [(0, .slot 2)] (eVar 0)) (eC (.int 1))))) (sRet (eNew (lNew (aCons (eTup aNil) aNil)))) sNil) (sSeq (sAsg (eNew (lNew aNil)) (tgG (.nm 2))) (sSeq (sFor (iAnyO [(3, 0)] (eCall 17 (aCons (eVar 0) (aCons (eVar 1) aNil)))) (tgG (.nm 3)) (sExpr (eExt (eVar 2) (eNew (lC1 [4] (iAnyO [(3, 0)] (eCall 44 (aCons (eVar 0) (aCons (eSub (eSub (eFld [(0, .slot 1)] (eVar 0)) (eVar 3)) (eC (.int 1))) aNil)))) (.nm 4) tYes (eTup (aCons (eVar 3) (aStar (eVar 4) aNil)))))))) (sRet (eVar 2)))))
def b45 : XS := (sRet (eIf (tE (eCmp .isnot (eSub (eFld [(0, .slot 3)] (eVar 0)) (eSub (eSub (eFld [(0, .slot 1)] (eVar 0)) (eVar 1)) (eC (.int 0)))) (eC .non))) (eLRg (eBin .add (eSub (eFld [(0, .slot 0)] (eVar 0)) (eC (.int 0))) (eC (.int 1)))) (eNew (lNew (aCons (eC (.int 0)) aNil)))))
def b46 : XS := (sSeq (sAsg (eNew (lNew (aCons (eTup aNil) aNil))) (tgG (.nm 2))) (sSeq (sFor (iAnyO [(3, 0)] (eVar 1)) (tgG (.nm 3)) (sAsg (eNew (lC2 [4, 5] [5] (iAnyO [(3, 0)] (eVar 2)) (.nm 4) tYes (iAnyO [(3, 0)] (eCall 45 (aCons (eVar 0) (aCons (eVar 3) aNil)))) (.nm 5) tYes (eTup (aStar (eVar 4) (aCons (eTup (aCons (eVar 5) (aCons (eVar 3) aNil))) aNil))))) (tgG (.nm 2)))) (sRet (eVar 2))))
def b47 : XS := (sRet (eB gSum (lC1 [2] (iAnyO [(3, 0)] (eVar 1)) (.nm 2) tYes (eCall 20 (aCons (eVar 0) (aCons (eSub (eSub (eFld [(0, .slot 1)] (eVar 0)) (eSub (eVar 2) (eC (.int 1)))) (eC (.int 0))) (aCons (eVar 2) aNil)))))))
def b48 : XS := (sSeq (sAsg (eC (.int 0)) (tgG (.nm 1))) (sSeq (sFor (iAnyO [(3, 0)] (eCall 44 (aCons (eVar 0) (aCons (eC (.int 0)) aNil)))) (tgG (.nm 2)) (sSeq (sAsg (eC (.int 1)) (tgG (.nm 3))) (sSeq (sFor (iAnyO [(3, 0)] (eVar 2)) (tgG (.nm 4)) (sAug 3 .mul (eLen [(0, 6)] (eCall 45 (aCons (eVar 0) (aCons (eVar 4) aNil)))))) (sAug 1 .add (eVar 3))))) (sIf (tE (eCmp .gt (eVar 1) (eC (.int 400)))) sBad sNil)))
def b49 : XS := (sSeq (sAsg (eNew (lC2 [2, 3] [3] (iAnyO [(3, 0)] (eCall 44 (aCons (eVar 0) (aCons (eC (.int 0)) aNil)))) (.nm 2) tYes (iAnyO [(3, 0)] (eCall 46 (aCons (eVar 0) (aCons (eVar 2) aNil)))) (.nm 3) tYes (eVar 3))) (tgG (.nm 1))) (sRet (eSortK 3 (lOf (eVar 1)) (eTup (aCons (eCall 47 (aCons (eVar 0) (aCons (eVar 3) aNil))) (aCons (eVar 3) aNil))))))
def b50 : XS := (sSeq (sIf (tOr (tNot (tE (eIs .tuple [(0, false), (1, false), (2, false), (3, false), (4, false), (5, false)] (eVar 1)))) (tOr (tE (eCmp .ne (eLen [(0, 6)] (eVar 1)) (eC (.int 2)))) (tNot (tE (eCall 0 (aCons (eSub (eVar 1) (eC (.int 1))) (aCons (eC (.int 0)) (aCons (eBin .sub (eLen [(0, 6)] (eVar 0)) (eC (.int 1))) aNil)))))))) (sRet (eC (.bl false))) sNil) (sRet (eAnd (eCall 0 (aCons (eSub (eVar 1) (eC (.int 0))) (aCons (eC (.int 0)) (aCons (eSub (eFld [(0, .slot 0)] (eVar 0)) (eC (.int 0))) aNil)))) (eCmp .in_ (eSub (eVar 1) (eC (.int 0))) (eCall 45 (aCons (eVar 0) (aCons (eSub (eVar 1) (eC (.int 1))) aNil)))))))
def b51 : XS := (sSeq (sIf (tOr (tNot (tE (eIs .tuple [(0, false), (1, false), (2, false), (3, false), (4, false), (5, false)] (eVar 1)))) (tNot (tE (eAll (lC1 [2] (iAnyO [(3, 0)] (eVar 1)) (.nm 2) tYes (eCall 50 (aCons (eVar 0) (aCons (eVar 2) aNil)))))))) (sRet (eC (.bl false))) sNil) (sRet (eCmp .in_ (eB gTupL (lC1 [3, 4] (iAnyO [(3, 0)] (eVar 1)) (.un [3, 4]) tYes (eVar 4))) (eCall 44 (aCons (eVar 0) (aCons (eC (.int 0)) aNil))))))
def b52 : XS := (sSeq (sAsg (eTup (aCons (eC (.int 0)) (aCons (eC (.int 0)) aNil))) (tgG (.nm 3))) (sSeq (sFor (iZip (iOf (eVar 1)) (iOf (eVar 2))) (tgG (.un2 [] [5, 6] [4])) (sSeq (sAsg (eSub (eFld [(0, .slot 1)] (eVar 0)) (eVar 6)) (tgG (.un [7, 8, 9, 10]))) (sSeq (sAsg (eCall 21 (aCons (eVar 0) (aCons (eTup (aCons (eB gMin2 (aCons (eSub (eFld [(0, .slot 0)] (eVar 0)) (eC (.int 0))) (aCons (eBin .add (eSub (eVar 3) (eC (.int 0))) (eVar 5)) aNil))) (aCons (eSub (eVar 3) (eC (.int 1))) aNil))) (aCons (eVar 10) (aCons (eBin .add (eVar 9) (eVar 4)) aNil))))) (tgG (.nm 3))) (sIf (tE (eCmp .is_ (eVar 3) (eC .non))) (sRet (eC (.bl true))) sNil)))) (sRet (eC (.bl false)))))
def b53 : XS := (sSeq (sAsg (eNew (lNew (aCons (eTup aNil) aNil))) (tgG (.nm 2))) (sSeq (sFor (iR1 (eVar 0)) (tgG (.nm 3)) (sAsg (eNew (lC2 [4, 5] [5] (iAnyO [(3, 0)] (eVar 2)) (.nm 4) tYes (iR1 (eBin .add (eBin .sub (eVar 1) (eSumA (eVar 4))) (eC (.int 1)))) (.nm 5) tYes (eTup (aStar (eVar 4) (aCons (eVar 5) aNil))))) (tgG (.nm 2)))) (sRet (eVar 2))))
def b54 : XS := (sRet (eAnd (eCmp .eq (eLen [(0, 6)] (eVar 2)) (eLen [(0, 6)] (eVar 0))) (eAnd (eAll (lC1 [3] (iAnyO [(3, 0)] (eVar 2)) (.nm 3) tYes (eCmp .ge (eVar 3) (eC (.int 0))))) (eCmp .le (eSumA (eVar 2)) (eVar 1)))))
def b55 : XS := (sRet (eNext [3] (iAnyO [(3, 0)] (eCall 53 (aCons (eLen [(0, 6)] (eVar 1)) (aCons (eVar 2) aNil)))) (.nm 3) (tE (eCall 52 (aCons (eVar 0) (aCons (eVar 1) (aCons (eVar 3) aNil))))) (eVar 3)))
def b56 : XS := (sSeq (sIf (tOr (tE (eCmp .ne (eLen [(0, 6)] (eVar 2)) (eLen [(0, 6)] (eVar 3)))) (tNot (tE (eAll (lC1 [4] (iAnyO [(3, 0)] (eVar 3)) (.nm 4) tYes (eCmp .in_ (eVar 4) (eVar 2))))))) (sRet (eC (.bl false))) sNil) (sRet (eAll (lC1 [4] (iAnyO [(3, 0)] (eVar 3)) (.nm 4) tYes (eAnd (eCall 54 (aCons (eVar 4) (aCons (eVar 1) (aCons (eSub (eVar 2) (eVar 4)) aNil)))) (eCall 52 (aCons (eVar 0) (aCons (eVar 4) (aCons (eSub (eVar 2) (eVar 4)) aNil)))))))))
def b57 : XS := (sSeq (sSlot [(4, 1)] (eVar 0) (eVar 1)) (sSlot [(4, 0), (5, 0)] (eVar 0) (eB gDict (aCons (eVar 2) aNil))))
def b58 : XS := (sRet eBad)
def b59 : XS := (sRet (eAnd (eIs (.own 4) [(0, false), (1, false), (2, false), (3, false), (4, true), (5, false)] (eVar 1)) (eAnd (eCmp .eq (eFld [(4, .slot 1)] (eVar 0)) (eFld [(4, .slot 1)] (eVar 1))) (eCmp .eq (eFld [(4, .slot 0), (5, .slot 0)] (eVar 0)) (eFld [(4, .slot 0), (5, .slot 0)] (eVar 1))))))
def b60 : XS := (sSeq (sExpr (eCall 65 (aCons (eVar 1) (aCons (eVar 2) aNil)))) (sSeq (sIf (tE (eCmp .isnot (eCall 55 (aCons (eVar 1) (aCons (eFld [(4, .slot 1)] (eVar 0)) (aCons (eVar 2) aNil)))) (eC .non))) (sRet (eC (.bl false))) sNil) (sSeq (sAsg (eCall 47 (aCons (eVar 1) (aCons (eFld [(4, .slot 1)] (eVar 0)) aNil))) (tgG (.nm 3))) (sRet (eCall 56 (aCons (eVar 1) (aCons (eVar 2) (aCons (eFld [(4, .slot 0), (5, .slot 0)] (eVar 0)) (aCons (eNew (lC1 [4] (iAnyO [(3, 0)] (eCall 49 (aCons (eVar 1) aNil))) (.nm 4) (tE (eCmp .lt (eCall 47 (aCons (eVar 1) (aCons (eVar 4) aNil))) (eVar 3))) (eVar 4))) aNil)))))))))
def b61 : XS := (sSlot [(4, 0), (5, 0)] (eVar 0) (eB gDict (aCons (eVar 1) aNil)))
def b62 : XS := (sRet eBad)
def b63 : XS := (sRet (eAnd (eIs (.own 5) [(0, false), (1, false), (2, false), (3, false), (4, false), (5, true)] (eVar 1)) (eCmp .eq (eFld [(4, .slot 0), (5, .slot 0)] (eVar 0)) (eFld [(4, .slot 0), (5, .slot 0)] (eVar 1)))))
def b64 : XS := (sSeq (sExpr (eCall 65 (aCons (eVar 1) (aCons (eVar 2) aNil)))) (sRet (eCall 56 (aCons (eVar 1) (aCons (eVar 2) (aCons (eFld [(4, .slot 0), (5, .slot 0)] (eVar 0)) (aCons (eCall 49 (aCons (eVar 1) aNil)) aNil)))))))
def b65 : XS := (sSeq (sExpr (eCall 13 (aCons (eVar 0) aNil))) (sSeq (sExpr (eCall 16 (aCons (eVar 1) aNil))) (sExpr (eCall 48 (aCons (eVar 0) aNil)))))
def b66 : XS := (sSeq (sExpr (eCall 13 (aCons (eVar 0) aNil))) (sSeq (sExpr (eCall 48 (aCons (eVar 0) aNil))) (sRet (eCall 49 (aCons (eVar 0) aNil)))))
def b67 : XS := (sSeq (sExpr (eCall 13 (aCons (eVar 0) aNil))) (sSeq (sIf (tNot (tE (eCall 51 (aCons (eVar 0) (aCons (eVar 1) aNil))))) sBad sNil) (sSeq (sExpr (eCall 16 (aCons (eVar 2) aNil))) (sRet (eCall 55 (aCons (eVar 0) (aCons (eVar 1) (aCons (eVar 2) aNil))))))))
def b68 : XS := (sSeq (sExpr (eCall 65 (aCons (eVar 0) (aCons (eVar 1) aNil)))) (sSeq (sAsg eDic0 (tgG (.nm 2))) (sSeq (sFor (iAnyO [(3, 0)] (eCall 49 (aCons (eVar 0) aNil))) (tgG (.nm 3)) (sSeq (sAsg (eCall 55 (aCons (eVar 0) (aCons (eVar 3) (aCons (eVar 1) aNil)))) (tgG (.nm 4))) (sSeq (sIf (tE (eCmp .is_ (eVar 4) (eC .non))) (sSeq (sAsg (eCall 47 (aCons (eVar 0) (aCons (eVar 3) aNil))) (tgG (.nm 5))) (sRet (eMake 4 57 2 (aCons (eVar 3) (aCons (dC1 [6, 7] (iItems (eVar 2)) (.un [6, 7]) (tE (eCmp .lt (eCall 47 (aCons (eVar 0) (aCons (eVar 6) aNil))) (eVar 5))) (eVar 6) (eVar 7)) aNil))))) sNil) (sSetI (eVar 2) (eVar 3) (eVar 4))))) (sRet (eMake 5 61 1 (aCons (eVar 2) aNil))))))
def b69 : XS := (sSeq (sAsg (eCall 68 (aCons (eVar 0) (aCons (eVar 1) aNil))) (tgG (.nm 2))) (sRet (eIf (tE (eIs (.own 4) [(0, false), (1, false), (2, false), (3, false), (4, true), (5, false)] (eVar 2))) (eCall 47 (aCons (eVar 0) (aCons (eFld [(4, .slot 1)] (eVar 2)) aNil))) (eC .non))))
def b70 : XS := (sRet (eCall 41 (aCons (eVar 0) (aCons (eTup (aCons (eC (.int 0)) (aCons (eC (.int 0)) (aCons (eC (.int 0)) (aCons (eVar 1) aNil))))) aNil))))
def b71 : XS := (sSeq (sExpr (eCall 13 (aCons (eVar 0) aNil))) (sRet (eNew (lC1 [1] (iR1 (eBin .add (eC (.int 4)) (eC (.int 1)))) (.nm 1) tYes (eCall 70 (aCons (eVar 0) (aCons (eVar 1) aNil)))))))
def b72 : XS := (sSeq (sExpr (eCall 13 (aCons (eVar 0) aNil))) (sSeq (sAsg (eCall 71 (aCons (eVar 0) aNil)) (tgG (.nm 1))) (sSeq (sAsg (eNew (lNew aNil)) (tgG (.nm 2))) (sSeq (sFor (iEnum (iOf (eVar 1))) (tgG (.un [3, 4])) (sSeq (sAsg (eIf (tE (eCmp .lt (eVar 3) (eC (.int 4)))) (eSub (eVar 1) (eBin .add (eVar 3) (eC (.int 1)))) (eC .non)) (tgG (.nm 5))) (sIf (tAnd (tE (eCmp .isnot (eVar 4) (eC .non))) (tOr (tE (eCmp .is_ (eVar 5) (eC .non))) (tE (eCmp .gt (eVar 5) (eVar 4))))) (sExpr (eApp (eVar 2) (eTup (aCons (eVar 3) (aCons (eVar 4) aNil))))) sNil))) (sRet (eVar 2))))))
def b73 : XS := (sSeq (sExpr (eCall 13 (aCons (eVar 0) aNil))) (sSeq (sExpr (eCall 16 (aCons (eVar 1) aNil))) (sSeq (sAsg (eNew (lC1 [3] (iR2 (eC (.int 1)) (eBin .add (eC (.int 6)) (eC (.int 1)))) (.nm 3) tYes (eMake 0 5 4 (aCons (eFld [(0, .slot 2)] (eVar 0)) (aCons (eFld [(0, .slot 1)] (eVar 0)) (aCons (eFld [(0, .slot 3)] (eVar 0)) (aCons (eTup (aCons (eVar 3) (aCons (eSub (eFld [(0, .slot 0)] (eVar 0)) (eC (.int 1))) aNil))) aNil))))))) (tgG (.nm 2))) (sRet (eNew (lC1 [4] (iAnyO [(3, 0)] (eVar 2)) (.nm 4) tYes (eCall 70 (aCons (eVar 4) (aCons (eVar 1) aNil)))))))))
def b74_0 : XS := (sAsg (eTup (aCons (eC (.int 0)) (aCons (eC (.int 0)) (aCons (eC (.int 0)) (aCons (eC (.int 1)) aNil))))) (tgG (.nm 1)))
def b74_1 : XS := (sIf (tE (eCmp .ne (eCall 24 (aCons (eVar 0) (aCons (eVar 1) aNil))) (eNew (lNew (aCons (eTup (aCons (eC (.int 0)) (aCons (eC (.int 0)) aNil))) (aCons (eTup (aCons (eC (.int 1)) (aCons (eC (.int 0)) aNil))) (aCons (eTup (aCons (eC (.int 2)) (aCons (eC (.int 0)) aNil))) (aCons (eTup (aCons (eC (.int 3)) (aCons (eC (.int 0)) aNil))) (aCons (eTup (aCons (eC (.int 4)) (aCons (eC (.int 0)) aNil))) aNil))))))))) (sRe (sRet (eC (.bl false)))) sNil)
def b74_2 : XS := (sIf (tE (eCmp .ne (eCall 24 (aCons (eVar 0) (aCons (eTup (aCons (eC (.int 1)) (aCons (eC (.int 3)) (aCons (eC (.int 0)) (aCons (eC (.int 0)) aNil))))) aNil))) (eNew (lNew (aCons (eTup (aCons (eC (.int 0)) (aCons (eC (.int 1)) aNil))) (aCons (eTup (aCons (eC (.int 1)) (aCons (eC (.int 1)) aNil))) aNil)))))) (sRe (sRet (eC (.bl false)))) sNil)
def b74_3 : XS := (sIf (tOr (tE (eCmp .ne (eCall 24 (aCons (eVar 0) (aCons (eTup (aCons (eC (.int 2)) (aCons (eC (.int 0)) (aCons (eC (.int 0)) (aCons (eC (.int 0)) aNil))))) aNil))) (eNew (lNew aNil)))) (tE (eCmp .ne (eCall 24 (aCons (eVar 0) (aCons (eTup (aCons (eC (.int 1)) (aCons (eC (.int 4)) (aCons (eC (.int 0)) (aCons (eC (.int 2)) aNil))))) aNil))) (eNew (lNew (aCons (eTup (aCons (eC (.int 0)) (aCons (eC (.int 1)) aNil))) aNil)))))) (sRe (sRet (eC (.bl false)))) sNil)
def b74_4 : XS := (sIf (tE (eCmp .ne (eCall 25 (aCons (eVar 0) (aCons (eVar 1) (aCons (eTup (aCons (eC (.int 2)) (aCons (eC (.int 0)) aNil))) aNil)))) (eNew (lNew (aCons (eTup (aCons (eC (.int 1)) (aCons (eC (.int 0)) (aCons (eC (.int 0)) (aCons (eC (.int 1)) aNil))))) (aCons (eC .non) aNil)))))) (sRe (sRet (eC (.bl false)))) sNil)
def b74_5 : XS := (sIf (tE (eCmp .ne (eCall 25 (aCons (eVar 0) (aCons (eVar 1) (aCons (eTup (aCons (eC (.int 4)) (aCons (eC (.int 0)) aNil))) aNil)))) (eNew (lNew (aCons (eTup (aCons (eC (.int 1)) (aCons (eC (.int 2)) (aCons (eC (.int 0)) (aCons (eC (.int 1)) aNil))))) (aCons (eTup (aCons (eC (.int 1)) (aCons (eC (.int 1)) (aCons (eC (.int 0)) (aCons (eC (.int 0)) aNil))))) aNil)))))) (sRe (sRet (eC (.bl false)))) sNil)
def b74_6 : XS := (sIf (tE (eCmp .ne (eCall 25 (aCons (eVar 0) (aCons (eVar 1) (aCons (eTup (aCons (eC (.int 1)) (aCons (eC (.int 0)) aNil))) aNil)))) (eNew (lNew (aCons (eC .non) (aCons (eC .non) aNil)))))) (sRe (sRet (eC (.bl false)))) sNil)
def b74_7 : XS := (sAsg (eMake 0 5 4 (aCons (eC (.int 2)) (aCons (eTup (aCons (eTup (aCons (eC (.int 0)) (aCons (eC (.int 1)) (aCons (eC (.int 3)) (aCons (eC (.int 2)) aNil))))) aNil)) (aCons (eTup (aCons (eC (.int 1)) (aCons (eC .non) aNil))) (aCons (eTup (aCons (eC (.int 5)) (aCons (eC (.int 2)) aNil))) aNil))))) (tgG (.nm 2)))
def b74_8 : XS := (sIf (tE (eCmp .ne (eCall 25 (aCons (eVar 2) (aCons (eTup (aCons (eC (.int 0)) (aCons (eC (.int 0)) (aCons (eC (.int 0)) (aCons (eC (.int 0)) aNil))))) (aCons (eTup (aCons (eC (.int 5)) (aCons (eC (.int 0)) aNil))) aNil)))) (eNew (lNew (aCons (eTup (aCons (eC (.int 1)) (aCons (eC (.int 0)) (aCons (eC (.int 1)) (aCons (eC (.int 0)) aNil))))) aNil))))) (sRe (sRet (eC (.bl false)))) sNil)
def b74_9 : XS := (sIf (tE (eCmp .ne (eCall 25 (aCons (eVar 2) (aCons (eTup (aCons (eC (.int 0)) (aCons (eC (.int 0)) (aCons (eC (.int 0)) (aCons (eC (.int 0)) aNil))))) (aCons (eTup (aCons (eC (.int 3)) (aCons (eC (.int 0)) aNil))) aNil)))) (eNew (lNew (aCons (eTup (aCons (eC (.int 1)) (aCons (eC (.int 0)) (aCons (eC (.int 2)) (aCons (eC (.int 0)) aNil))))) aNil))))) (sRe (sRet (eC (.bl false)))) sNil)
def b74_10 : XS := (sIf (tE (eCmp .ne (eCall 25 (aCons (eVar 2) (aCons (eTup (aCons (eC (.int 0)) (aCons (eC (.int 0)) (aCons (eC (.int 0)) (aCons (eC (.int 0)) aNil))))) (aCons (eTup (aCons (eC (.int 1)) (aCons (eC (.int 0)) aNil))) aNil)))) (eNew (lNew (aCons (eC .non) aNil))))) (sRe (sRet (eC (.bl false)))) sNil)
def b74_11 : XS := (sIf (tE (eCmp .ne (eCall 25 (aCons (eVar 2) (aCons (eTup (aCons (eC (.int 0)) (aCons (eC (.int 1)) (aCons (eC (.int 1)) (aCons (eC (.int 1)) aNil))))) (aCons (eTup (aCons (eC (.int 4)) (aCons (eC (.int 0)) aNil))) aNil)))) (eNew (lNew (aCons (eTup (aCons (eC (.int 1)) (aCons (eC (.int 0)) (aCons (eC (.int 2)) (aCons (eC (.int 1)) aNil))))) (aCons (eC .non) aNil)))))) (sRe (sRet (eC (.bl false)))) sNil)
def b74_12 : XS := (sAsg (eMake 0 5 4 (aCons (eC (.int 2)) (aCons (eTup (aCons (eTup (aCons (eC (.int 0)) (aCons (eC (.int 1)) (aCons (eC (.int 2)) (aCons (eC (.int 0)) aNil))))) aNil)) (aCons (eTup (aCons (eC .non) (aCons (eC .non) aNil))) (aCons (eTup (aCons (eC (.int 1)) (aCons (eC (.int 0)) aNil))) aNil))))) (tgG (.nm 3)))
def b74_13 : XS := (sIf (tE (eCmp .ne (eCall 24 (aCons (eVar 3) (aCons (eTup (aCons (eC (.int 0)) (aCons (eC (.int 0)) (aCons (eC (.int 0)) (aCons (eC (.int 2)) aNil))))) aNil))) (eNew (lNew (aCons (eTup (aCons (eC (.int 0)) (aCons (eC (.int 0)) aNil))) aNil))))) (sRe (sRet (eC (.bl false)))) sNil)
def b74_14 : XS := (sIf (tE (eCmp .ne (eCall 25 (aCons (eVar 3) (aCons (eTup (aCons (eC (.int 0)) (aCons (eC (.int 0)) (aCons (eC (.int 0)) (aCons (eC (.int 2)) aNil))))) (aCons (eTup (aCons (eC (.int 0)) (aCons (eC (.int 0)) aNil))) aNil)))) (eNew (lNew (aCons (eTup (aCons (eC (.int 1)) (aCons (eC (.int 0)) (aCons (eC (.int 0)) (aCons (eC (.int 2)) aNil))))) (aCons (eTup (aCons (eC (.int 1)) (aCons (eC (.int 0)) (aCons (eC (.int 0)) (aCons (eC (.int 1)) aNil))))) (aCons (eTup (aCons (eC (.int 1)) (aCons (eC (.int 0)) (aCons (eC (.int 0)) (aCons (eC (.int 0)) aNil))))) aNil))))))) (sRe (sRet (eC (.bl false)))) sNil)
def b74_15 : XS := (sIf (tOr (tE (eCmp .ne (eCall 43 (aCons (eVar 3) (aCons (eTup (aCons (eC (.int 0)) (aCons (eC (.int 0)) (aCons (eC (.int 0)) (aCons (eC (.int 4)) aNil))))) aNil))) (eC (.int 0)))) (tE (eCmp .ne (eCall 71 (aCons (eVar 3) aNil)) (eBin .mul (eNew (lNew (aCons (eC (.int 0)) aNil))) (eC (.int 5)))))) (sRe (sRet (eC (.bl false)))) sNil)
def b74_16 : XS := (sRet (eCmp .eq (eCall 72 (aCons (eVar 3) aNil)) (eNew (lNew (aCons (eTup (aCons (eC (.int 4)) (aCons (eC (.int 0)) aNil))) aNil)))))
def r74_16 : XS := sRe b74_16
def r74_15 : XS := sSeq (sRe b74_15) r74_16
def r74_14 : XS := sSeq (sRe b74_14) r74_15
def r74_13 : XS := sSeq (sRe b74_13) r74_14
def r74_12 : XS := sSeq (sRe b74_12) r74_13
def r74_11 : XS := sSeq (sRe b74_11) r74_12
def r74_10 : XS := sSeq (sRe b74_10) r74_11
def r74_9 : XS := sSeq (sRe b74_9) r74_10
def r74_8 : XS := sSeq (sRe b74_8) r74_9
def r74_7 : XS := sSeq (sRe b74_7) r74_8
def r74_6 : XS := sSeq (sRe b74_6) r74_7
def r74_5 : XS := sSeq (sRe b74_5) r74_6
def r74_4 : XS := sSeq (sRe b74_4) r74_5
def r74_3 : XS := sSeq (sRe b74_3) r74_4
def r74_2 : XS := sSeq (sRe b74_2) r74_3
def r74_1 : XS := sSeq (sRe b74_1) r74_2
def b74 : XS := sSeq (sRe b74_0) r74_1
def b75_0 : XS := (sAsg (eTup (aCons (eTup (aCons (eC (.int 0)) (aCons (eC (.int 0)) (aCons (eC (.int 0)) (aCons (eC (.int 0)) aNil))))) (aCons (eTup (aCons (eC (.int 0)) (aCons (eC (.int 0)) (aCons (eC (.int 0)) (aCons (eC (.int 1)) aNil))))) aNil))) (tgG (.un [6, 7])))
def b75_1 : XS := (sAsg (eB gDict (aCons (eNew (lNew (aCons (eTup (aCons (eVar 6) (aCons (eC (.int 8)) aNil))) (aCons (eTup (aCons (eTup (aCons (eC (.int 1)) (aCons (eC (.int 2)) (aCons (eC (.int 0)) (aCons (eC (.int 0)) aNil))))) (aCons (eC (.int 0)) aNil))) (aCons (eTup (aCons (eTup (aCons (eC (.int 2)) (aCons (eC (.int 0)) (aCons (eC (.int 0)) (aCons (eC (.int 0)) aNil))))) (aCons (eC (.int 0)) aNil))) aNil))))) aNil)) (tgG (.nm 2)))
def b75_2 : XS := (sAsg (eB gDict (aCons (eNew (lNew (aCons (eTup (aCons (eVar 6) (aCons (eC (.int 8)) aNil))) (aCons (eTup (aCons (eTup (aCons (eC (.int 1)) (aCons (eC (.int 0)) (aCons (eC (.int 0)) (aCons (eC (.int 0)) aNil))))) (aCons (eC (.int 10)) aNil))) (aCons (eTup (aCons (eTup (aCons (eC (.int 1)) (aCons (eC (.int 1)) (aCons (eC (.int 0)) (aCons (eC (.int 0)) aNil))))) (aCons (eC (.int 5)) aNil))) aNil))))) aNil)) (tgG (.nm 3)))
def b75_3 : XS := (sAsg (eNew (lNew (aCons (eTup (aCons (eC (.int 8)) (aCons (eVar 2) (aCons (eVar 3) (aCons (eC (.bl true)) aNil))))) (aCons (eTup (aCons (eC (.int 7)) (aCons (eVar 2) (aCons (eVar 3) (aCons (eC (.bl false)) aNil))))) aNil)))) (tgG (.nm 4)))
def b75_4 : XS := (sAsg (eBin .add (eVar 4) (eNew (lNew (aCons (eTup (aCons (eC (.int 9)) (aCons (eVar 2) (aCons (eVar 3) (aCons (eC (.bl false)) aNil))))) (aCons (eTup (aCons (eC (.int 8)) (aCons (eVar 2) (aCons eDic0 (aCons (eC (.bl false)) aNil))))) aNil))))) (tgG (.nm 4)))
def b75_5 : XS := (sAsg (eBin .add (eVar 4) (eNew (lNew (aCons (eTup (aCons (eC (.int 8)) (aCons eDic0 (aCons (eVar 3) (aCons (eC (.bl false)) aNil))))) aNil)))) (tgG (.nm 4)))
def b75_6 : XS := (sAsg (eBin .add (eVar 4) (eNew (lNew (aCons (eTup (aCons (eC (.int 8)) (aCons (eB gDict (aCons (eNew (lNew (aCons (eTup (aCons (eVar 6) (aCons (eC (.int 8)) aNil))) (aCons (eTup (aCons (eTup (aCons (eC (.int 1)) (aCons (eC (.int 2)) (aCons (eC (.int 0)) (aCons (eC (.int 0)) aNil))))) (aCons (eC (.int 0)) aNil))) aNil)))) aNil)) (aCons (eVar 3) (aCons (eC (.bl false)) aNil))))) aNil)))) (tgG (.nm 4)))
def b75_7 : XS := (sAsg (eBin .add (eVar 4) (eNew (lNew (aCons (eTup (aCons (eC (.int 8)) (aCons (eB gDict (aCons (eNew (lNew (aCons (eTup (aCons (eVar 6) (aCons (eC (.int 8)) aNil))) (aCons (eTup (aCons (eTup (aCons (eC (.int 1)) (aCons (eC (.int 2)) (aCons (eC (.int 0)) (aCons (eC (.int 0)) aNil))))) (aCons (eC (.int 1)) aNil))) (aCons (eTup (aCons (eTup (aCons (eC (.int 2)) (aCons (eC (.int 0)) (aCons (eC (.int 0)) (aCons (eC (.int 0)) aNil))))) (aCons (eC (.int 0)) aNil))) aNil))))) aNil)) (aCons (eVar 3) (aCons (eC (.bl false)) aNil))))) aNil)))) (tgG (.nm 4)))
def b75_8 : XS := (sAsg (eBin .add (eVar 4) (eNew (lNew (aCons (eTup (aCons (eC (.int 8)) (aCons (eB gDict (aCons (eNew (lNew (aCons (eTup (aCons (eVar 6) (aCons (eC (.int 8)) aNil))) (aCons (eTup (aCons (eTup (aCons (eC (.int 1)) (aCons (eC (.int 2)) (aCons (eC (.int 0)) (aCons (eC (.int 0)) aNil))))) (aCons (eC (.int 0)) aNil))) (aCons (eTup (aCons (eTup (aCons (eC (.int 2)) (aCons (eC (.int 0)) (aCons (eC (.int 0)) (aCons (eC (.int 0)) aNil))))) (aCons (eC (.int (-1))) aNil))) aNil))))) aNil)) (aCons (eVar 3) (aCons (eC (.bl false)) aNil))))) aNil)))) (tgG (.nm 4)))
def b75_9 : XS := (sAsg (eBin .add (eVar 4) (eNew (lNew (aCons (eTup (aCons (eC (.int 8)) (aCons (eVar 2) (aCons (eB gDict (aCons (eNew (lNew (aCons (eTup (aCons (eVar 6) (aCons (eC (.int 8)) aNil))) (aCons (eTup (aCons (eTup (aCons (eC (.int 1)) (aCons (eC (.int 0)) (aCons (eC (.int 0)) (aCons (eC (.int 0)) aNil))))) (aCons (eC (.int 3)) aNil))) (aCons (eTup (aCons (eTup (aCons (eC (.int 1)) (aCons (eC (.int 1)) (aCons (eC (.int 0)) (aCons (eC (.int 0)) aNil))))) (aCons (eC (.int 5)) aNil))) aNil))))) aNil)) (aCons (eC (.bl false)) aNil))))) aNil)))) (tgG (.nm 4)))
def b75_10 : XS := (sAsg (eBin .add (eVar 4) (eNew (lNew (aCons (eTup (aCons (eC (.int 8)) (aCons (eVar 2) (aCons (eB gDict (aCons (eNew (lNew (aCons (eTup (aCons (eVar 6) (aCons (eC (.int 8)) aNil))) (aCons (eTup (aCons (eTup (aCons (eC (.int 1)) (aCons (eC (.int 0)) (aCons (eC (.int 0)) (aCons (eC (.int 0)) aNil))))) (aCons (eC (.int 4)) aNil))) (aCons (eTup (aCons (eTup (aCons (eC (.int 1)) (aCons (eC (.int 1)) (aCons (eC (.int 0)) (aCons (eC (.int 0)) aNil))))) (aCons (eC (.int 2)) aNil))) aNil))))) aNil)) (aCons (eC (.bl true)) aNil))))) aNil)))) (tgG (.nm 4)))
def b75_11 : XS := (sAsg (eBin .add (eVar 4) (eNew (lNew (aCons (eTup (aCons (eC (.int 8)) (aCons (eVar 2) (aCons (eB gDict (aCons (eNew (lNew (aCons (eTup (aCons (eVar 6) (aCons (eC (.int 8)) aNil))) (aCons (eTup (aCons (eTup (aCons (eC (.int 1)) (aCons (eC (.int 0)) (aCons (eC (.int 0)) (aCons (eC (.int 0)) aNil))))) (aCons (eC (.int 11)) aNil))) (aCons (eTup (aCons (eTup (aCons (eC (.int 1)) (aCons (eC (.int 1)) (aCons (eC (.int 0)) (aCons (eC (.int 0)) aNil))))) (aCons (eC (.int 5)) aNil))) aNil))))) aNil)) (aCons (eC (.bl false)) aNil))))) aNil)))) (tgG (.nm 4)))
def b75_12 : XS := (sAsg (eB gDict (aCons (eVar 3) aNil)) (tgG (.nm 5)))
def b75_13 : XS := (sSetI (eVar 5) (eTup (aCons (eC (.int 2)) (aCons (eC (.int 0)) (aCons (eC (.int 0)) (aCons (eC (.int 0)) aNil))))) (eC (.int 1)))
def b75_14 : XS := (sFor (iAnyO [(3, 0)] (eBin .add (eVar 4) (eNew (lNew (aCons (eTup (aCons (eC (.int 8)) (aCons (eVar 2) (aCons (eVar 5) (aCons (eC (.bl false)) aNil))))) aNil))))) (tgG (.un [8, 9, 10, 11])) (sRe (sIf (tE (eCmp .ne (eMeth [(2, 33), (3, 39), (4, 60), (5, 64)] (eMake 2 30 3 (aCons (eVar 8) (aCons (eVar 9) (aCons (eVar 10) aNil)))) (aCons (eVar 0) (aCons (eVar 6) aNil))) (eVar 11))) (sRe (sRet (eC (.bl false)))) sNil)))
def b75_15 : XS := (sRet (eCall 76 (aCons (eVar 0) (aCons (eVar 1) (aCons (eVar 6) (aCons (eVar 7) aNil))))))
def r75_15 : XS := sRe b75_15
def r75_14 : XS := sSeq (sRe b75_14) r75_15
def r75_13 : XS := sSeq (sRe b75_13) r75_14
def r75_12 : XS := sSeq (sRe b75_12) r75_13
def r75_11 : XS := sSeq (sRe b75_11) r75_12
def r75_10 : XS := sSeq (sRe b75_10) r75_11
def r75_9 : XS := sSeq (sRe b75_9) r75_10
def r75_8 : XS := sSeq (sRe b75_8) r75_9
def r75_7 : XS := sSeq (sRe b75_7) r75_8
def r75_6 : XS := sSeq (sRe b75_6) r75_7
def r75_5 : XS := sSeq (sRe b75_5) r75_6
def r75_4 : XS := sSeq (sRe b75_4) r75_5
def r75_3 : XS := sSeq (sRe b75_3) r75_4
def r75_2 : XS := sSeq (sRe b75_2) r75_3
def r75_1 : XS := sSeq (sRe b75_1) r75_2
def b75 : XS := sSeq (sRe b75_0) r75_1
def b76_0 : XS := (sIf (tE (eCmp .isnot (eMeth [(2, 33), (3, 39), (4, 60), (5, 64)] (eMake 3 36 1 (aCons (eNew (lNew (aCons (eVar 3) aNil))) aNil)) (aCons (eVar 1) (aCons (eVar 3) aNil))) (eC (.bl true)))) (sRe (sRet (eC (.bl false)))) sNil)
def b76_1 : XS := (sIf (tE (eMeth [(2, 33), (3, 39), (4, 60), (5, 64)] (eMake 3 36 1 (aCons (eNew (lNew (aCons (eVar 2) aNil))) aNil)) (aCons (eVar 0) (aCons (eVar 2) aNil)))) (sRe (sRet (eC (.bl false)))) sNil)
def b76_2 : XS := (sIf (tE (eMeth [(2, 33), (3, 39), (4, 60), (5, 64)] (eMake 3 36 1 (aCons (eNew (lNew aNil)) aNil)) (aCons (eVar 1) (aCons (eVar 3) aNil)))) (sRe (sRet (eC (.bl false)))) sNil)
def b76_3 : XS := (sIf (tOr (tE (eMeth [(2, 33), (3, 39), (4, 60), (5, 64)] (eMake 3 36 1 (aCons (eNew (lNew (aCons (eVar 3) (aCons (eTup (aCons (eC (.int 2)) (aCons (eC (.int 0)) (aCons (eC (.int 0)) (aCons (eC (.int 0)) aNil))))) aNil)))) aNil)) (aCons (eVar 1) (aCons (eVar 3) aNil)))) (tE (eMeth [(2, 33), (3, 39), (4, 60), (5, 64)] (eMake 3 36 1 (aCons (eNew (lNew (aCons (eTup (aCons (eC (.int 0)) (aCons (eC (.int 1)) (aCons (eC (.int 0)) (aCons (eC (.int 1)) aNil))))) aNil))) aNil)) (aCons (eVar 1) (aCons (eVar 3) aNil))))) (sRe (sRet (eC (.bl false)))) sNil)
def b76_4 : XS := (sIf (tE (eCmp .isnot (eMeth [(2, 33), (3, 39), (4, 60), (5, 64)] (eMake 3 36 1 (aCons (eNew (lNew (aCons (eVar 3) (aCons (eTup (aCons (eC (.int 0)) (aCons (eC (.int 1)) (aCons (eC (.int 0)) (aCons (eC (.int 1)) aNil))))) (aCons (eVar 3) aNil))))) aNil)) (aCons (eVar 1) (aCons (eVar 3) aNil))) (eC (.bl true)))) (sRe (sRet (eC (.bl false)))) sNil)
def b76_5 : XS := (sIf (tE (eCmp .ne (eNew (lC1 [6] (iAnyO [(3, 0)] (eTup (aCons (eVar 2) (aCons (eVar 3) aNil)))) (.nm 6) tYes (eCall 43 (aCons (eVar 0) (aCons (eVar 6) aNil))))) (eNew (lNew (aCons (eC (.int 8)) (aCons (eC (.int 13)) aNil)))))) (sRe (sRet (eC (.bl false)))) sNil)
def b76_6 : XS := (sIf (tE (eCmp .ne (eNew (lC1 [6] (iAnyO [(3, 0)] (eTup (aCons (eVar 2) (aCons (eVar 3) aNil)))) (.nm 6) tYes (eCall 43 (aCons (eVar 1) (aCons (eVar 6) aNil))))) (eNew (lNew (aCons (eC (.int 14)) (aCons (eC .non) aNil)))))) (sRe (sRet (eC (.bl false)))) sNil)
def b76_7 : XS := (sIf (tE (eCmp .isnot (eMeth [(2, 33), (3, 39), (4, 60), (5, 64)] (eCall 42 (aCons (eVar 0) (aCons (eVar 3) aNil))) (aCons (eVar 0) (aCons (eVar 3) aNil))) (eC (.bl true)))) (sRe (sRet (eC (.bl false)))) sNil)
def b76_8 : XS := (sIf (tE (eCmp .isnot (eMeth [(2, 33), (3, 39), (4, 60), (5, 64)] (eCall 42 (aCons (eVar 1) (aCons (eVar 3) aNil))) (aCons (eVar 1) (aCons (eVar 3) aNil))) (eC (.bl true)))) (sRe (sRet (eC (.bl false)))) sNil)
def b76_9 : XS := (sAsg (eMake 0 5 4 (aCons (eC (.int 3)) (aCons (eTup (aCons (eTup (aCons (eC (.int 0)) (aCons (eC (.int 1)) (aCons (eC (.int 1)) (aCons (eC (.int 0)) aNil))))) aNil)) (aCons (eTup (aCons (eC (.int 1)) (aCons (eC .non) (aCons (eC .non) aNil)))) (aCons (eTup (aCons (eC (.int 2)) (aCons (eC (.int 0)) aNil))) aNil))))) (tgG (.nm 4)))
def b76_10 : XS := (sIf (tOr (tE (eMeth [(2, 33), (3, 39), (4, 60), (5, 64)] (eMake 3 36 1 (aCons (eNew (lNew (aCons (eVar 2) (aCons (eTup (aCons (eC (.int 1)) (aCons (eC (.int 0)) (aCons (eC (.int 0)) (aCons (eC (.int 0)) aNil))))) aNil)))) aNil)) (aCons (eVar 4) (aCons (eVar 2) aNil)))) (tE (eCmp .isnot (eCall 43 (aCons (eVar 4) (aCons (eVar 2) aNil))) (eC .non)))) (sRe (sRet (eC (.bl false)))) sNil)
def b76_11 : XS := (sAsg (eNew (lNew (aCons (eVar 2) (aCons (eTup (aCons (eC (.int 1)) (aCons (eC (.int 0)) (aCons (eC (.int 0)) (aCons (eC (.int 0)) aNil))))) (aCons (eTup (aCons (eC (.int 1)) (aCons (eC (.int 1)) (aCons (eC (.int 0)) (aCons (eC (.int 0)) aNil))))) (aCons (eTup (aCons (eC (.int 1)) (aCons (eC (.int 2)) (aCons (eC (.int 0)) (aCons (eC (.int 0)) aNil))))) aNil)))))) (tgG (.nm 5)))
def b76_12 : XS := (sIf (tE (eCmp .isnot (eMeth [(2, 33), (3, 39), (4, 60), (5, 64)] (eMake 3 36 1 (aCons (eVar 5) aNil)) (aCons (eVar 4) (aCons (eVar 2) aNil))) (eC (.bl true)))) (sRe (sRet (eC (.bl false)))) sNil)
def b76_13 : XS := (sRet (eCmp .eq (eCall 43 (aCons (eVar 0) (aCons (eTup (aCons (eC (.int 2)) (aCons (eC (.int 4)) (aCons (eC (.int 0)) (aCons (eC (.int 3)) aNil))))) aNil))) (eC (.int 0))))
def r76_13 : XS := sRe b76_13
def r76_12 : XS := sSeq (sRe b76_12) r76_13
def r76_11 : XS := sSeq (sRe b76_11) r76_12
def r76_10 : XS := sSeq (sRe b76_10) r76_11
def r76_9 : XS := sSeq (sRe b76_9) r76_10
def r76_8 : XS := sSeq (sRe b76_8) r76_9
def r76_7 : XS := sSeq (sRe b76_7) r76_8
def r76_6 : XS := sSeq (sRe b76_6) r76_7
def r76_5 : XS := sSeq (sRe b76_5) r76_6
def r76_4 : XS := sSeq (sRe b76_4) r76_5
def r76_3 : XS := sSeq (sRe b76_3) r76_4
def r76_2 : XS := sSeq (sRe b76_2) r76_3
def r76_1 : XS := sSeq (sRe b76_1) r76_2
def b76 : XS := sSeq (sRe b76_0) r76_1
def b77_0 : XS := (sAsg (eTup (aCons (eMake 0 5 4 (aCons (eC (.int 3)) (aCons (eTup (aCons (eTup (aCons (eC (.int 0)) (aCons (eC (.int 1)) (aCons (eC (.int 2)) (aCons (eC (.int 1)) aNil))))) (aCons (eTup (aCons (eC (.int 1)) (aCons (eC (.int 2)) (aCons (eC (.int 2)) (aCons (eC (.int 1)) aNil))))) aNil))) (aCons (eTup (aCons (eC (.int 2)) (aCons (eC (.int 5)) (aCons (eC .non) aNil)))) (aCons (eTup (aCons (eC (.int 1)) (aCons (eC (.int 0)) aNil))) aNil))))) (aCons (eTup (aCons (eTup (aCons (eC (.int 4)) (aCons (eC (.int 0)) aNil))) (aCons (eTup (aCons (eC (.int 1)) (aCons (eC (.int 1)) aNil))) aNil))) aNil))) (tgG (.un [3, 4])))
def b77_1 : XS := (sAsg (eNew (lNew (aCons (eTup (aCons (eTup (aCons (eC (.int 0)) (aCons (eC (.int 0)) aNil))) (aCons (eTup (aCons (eC (.int 0)) (aCons (eC (.int 1)) aNil))) aNil))) (aCons (eTup (aCons (eTup (aCons (eC (.int 1)) (aCons (eC (.int 0)) aNil))) (aCons (eTup (aCons (eC (.int 0)) (aCons (eC (.int 1)) aNil))) aNil))) (aCons (eTup (aCons (eTup (aCons (eC (.int 0)) (aCons (eC (.int 0)) aNil))) (aCons (eTup (aCons (eC (.int 1)) (aCons (eC (.int 1)) aNil))) aNil))) (aCons (eTup (aCons (eTup (aCons (eC (.int 1)) (aCons (eC (.int 0)) aNil))) (aCons (eTup (aCons (eC (.int 1)) (aCons (eC (.int 1)) aNil))) aNil))) aNil)))))) (tgG (.nm 2)))
def b77_2 : XS := (sIf (tOr (tE (eCmp .ne (eLen [(0, 6)] (eCall 66 (aCons (eVar 0) aNil))) (eC (.int 25)))) (tE (eCmp .ne (eCall 66 (aCons (eVar 3) aNil)) (eVar 2)))) (sRe (sRet (eC (.bl false)))) sNil)
def b77_3 : XS := (sIf (tE (eCmp .ne (eNew (lC1 [5] (iAnyO [(3, 0)] (eTup (aCons (eC (.int 0)) (aCons (eC (.int 1)) (aCons (eC (.int 2)) aNil))))) (.nm 5) tYes (eCall 67 (aCons (eVar 0) (aCons (eVar 4) (aCons (eVar 5) aNil)))))) (eNew (lNew (aCons (eC .non) (aCons (eC .non) (aCons (eTup (aCons (eC (.int 0)) (aCons (eC (.int 2)) aNil))) aNil))))))) (sRe (sRet (eC (.bl false)))) sNil)
def b77_4 : XS := (sIf (tE (eCmp .ne (eCall 67 (aCons (eVar 0) (aCons (eTup (aCons (eTup (aCons (eC (.int 4)) (aCons (eC (.int 0)) aNil))) (aCons (eTup (aCons (eC (.int 0)) (aCons (eC (.int 1)) aNil))) aNil))) (aCons (eC (.int 1)) aNil)))) (eTup (aCons (eC (.int 0)) (aCons (eC (.int 1)) aNil))))) (sRe (sRet (eC (.bl false)))) sNil)
def b77_5 : XS := (sIf (tE (eCmp .isnot (eCall 67 (aCons (eVar 0) (aCons (eTup (aCons (eTup (aCons (eC (.int 4)) (aCons (eC (.int 0)) aNil))) (aCons (eTup (aCons (eC (.int 4)) (aCons (eC (.int 1)) aNil))) aNil))) (aCons (eC (.int 2)) aNil)))) (eC .non))) (sRe (sRet (eC (.bl false)))) sNil)
def b77_6 : XS := (sIf (tE (eCmp .ne (eCall 67 (aCons (eVar 0) (aCons (eTup (aCons (eTup (aCons (eC (.int 4)) (aCons (eC (.int 0)) aNil))) (aCons (eTup (aCons (eC (.int 4)) (aCons (eC (.int 1)) aNil))) aNil))) (aCons (eC (.int 3)) aNil)))) (eTup (aCons (eC (.int 0)) (aCons (eC (.int 3)) aNil))))) (sRe (sRet (eC (.bl false)))) sNil)
def b77_7 : XS := (sIf (tE (eCmp .ne (eCall 67 (aCons (eVar 0) (aCons (eTup (aCons (eTup (aCons (eC (.int 0)) (aCons (eC (.int 0)) aNil))) (aCons (eTup (aCons (eC (.int 4)) (aCons (eC (.int 1)) aNil))) aNil))) (aCons (eC (.int 0)) aNil)))) (eTup (aCons (eC (.int 0)) (aCons (eC (.int 0)) aNil))))) (sRe (sRet (eC (.bl false)))) sNil)
def b77_8 : XS := (sIf (tE (eCmp .ne (eNew (lC1 [5] (iAnyO [(3, 0)] (eTup (aCons (eC (.int 0)) (aCons (eC (.int 1)) (aCons (eC (.int 2)) (aCons (eC (.int 3)) aNil)))))) (.nm 5) tYes (eCall 69 (aCons (eVar 0) (aCons (eVar 5) aNil))))) (eNew (lNew (aCons (eC (.int 8)) (aCons (eC (.int 13)) (aCons (eC (.int 18)) (aCons (eC .non) aNil)))))))) (sRe (sRet (eC (.bl false)))) sNil)
def b77_9 : XS := (sIf (tE (eCmp .ne (eNew (lC1 [5] (iAnyO [(3, 0)] (eTup (aCons (eC (.int 0)) (aCons (eC (.int 1)) aNil)))) (.nm 5) tYes (eCall 69 (aCons (eVar 3) (aCons (eVar 5) aNil))))) (eNew (lNew (aCons (eC .non) (aCons (eC .non) aNil)))))) (sRe (sRet (eC (.bl false)))) sNil)
def b77_10 : XS := (sIf (tE (eCmp .isnot (eMeth [(2, 33), (3, 39), (4, 60), (5, 64)] (eCall 68 (aCons (eVar 0) (aCons (eC (.int 1)) aNil))) (aCons (eVar 0) (aCons (eC (.int 1)) aNil))) (eC (.bl true)))) (sRe (sRet (eC (.bl false)))) sNil)
def b77_11 : XS := (sIf (tE (eCmp .isnot (eMeth [(2, 33), (3, 39), (4, 60), (5, 64)] (eCall 68 (aCons (eVar 1) (aCons (eC (.int 1)) aNil))) (aCons (eVar 1) (aCons (eC (.int 1)) aNil))) (eC (.bl true)))) (sRe (sRet (eC (.bl false)))) sNil)
def b77_12 : XS := (sIf (tE (eCmp .ne (eFld [(4, .slot 1)] (eCall 68 (aCons (eVar 0) (aCons (eC (.int 1)) aNil)))) (eVar 4))) (sRe (sRet (eC (.bl false)))) sNil)
def b77_13 : XS := (sRet (eAnd (eCall 78 (aCons (eVar 3) (aCons (eVar 2) aNil))) (eCall 79 (aCons (eVar 0) aNil))))
def r77_13 : XS := sRe b77_13
def r77_12 : XS := sSeq (sRe b77_12) r77_13
def r77_11 : XS := sSeq (sRe b77_11) r77_12
def r77_10 : XS := sSeq (sRe b77_10) r77_11
def r77_9 : XS := sSeq (sRe b77_9) r77_10
def r77_8 : XS := sSeq (sRe b77_8) r77_9
def r77_7 : XS := sSeq (sRe b77_7) r77_8
def r77_6 : XS := sSeq (sRe b77_6) r77_7
def r77_5 : XS := sSeq (sRe b77_5) r77_6
def r77_4 : XS := sSeq (sRe b77_4) r77_5
def r77_3 : XS := sSeq (sRe b77_3) r77_4
def r77_2 : XS := sSeq (sRe b77_2) r77_3
def r77_1 : XS := sSeq (sRe b77_1) r77_2
def b77 : XS := sSeq (sRe b77_0) r77_1
def b78_0 : XS := (sAsg (eB gDict (aCons (eNew (lC1 [4] (iAnyO [(3, 0)] (eVar 1)) (.nm 4) tYes (eTup (aCons (eVar 4) (aCons (eTup (aCons (eC (.int 0)) (aCons (eC (.int 0)) aNil))) aNil))))) aNil)) (tgG (.nm 2)))
def b78_1 : XS := (sIf (tE (eCmp .isnot (eMeth [(2, 33), (3, 39), (4, 60), (5, 64)] (eMake 5 61 1 (aCons (eVar 2) aNil)) (aCons (eVar 0) (aCons (eC (.int 0)) aNil))) (eC (.bl true)))) (sRe (sRet (eC (.bl false)))) sNil)
def b78_2 : XS := (sIf (tE (eCmp .isnot (eMeth [(2, 33), (3, 39), (4, 60), (5, 64)] (eMake 5 61 1 (aCons (eVar 2) aNil)) (aCons (eVar 0) (aCons (eC (.int 4)) aNil))) (eC (.bl true)))) (sRe (sRet (eC (.bl false)))) sNil)
def b78_3 : XS := (sIf (tE (eMeth [(2, 33), (3, 39), (4, 60), (5, 64)] (eMake 5 61 1 (aCons eDic0 aNil)) (aCons (eVar 0) (aCons (eC (.int 0)) aNil)))) (sRe (sRet (eC (.bl false)))) sNil)
def b78_4 : XS := (sSetI (eVar 2) (eSub (eVar 1) (eC (.int 0))) (eTup (aCons (eC (.int 1)) (aCons (eC (.int 0)) aNil))))
def b78_5 : XS := (sIf (tE (eMeth [(2, 33), (3, 39), (4, 60), (5, 64)] (eMake 5 61 1 (aCons (eVar 2) aNil)) (aCons (eVar 0) (aCons (eC (.int 0)) aNil)))) (sRe (sRet (eC (.bl false)))) sNil)
def b78_6 : XS := (sIf (tE (eCmp .isnot (eMeth [(2, 33), (3, 39), (4, 60), (5, 64)] (eMake 5 61 1 (aCons (eVar 2) aNil)) (aCons (eVar 0) (aCons (eC (.int 1)) aNil))) (eC (.bl true)))) (sRe (sRet (eC (.bl false)))) sNil)
def b78_7 : XS := (sIf (tE (eMeth [(2, 33), (3, 39), (4, 60), (5, 64)] (eMake 4 57 2 (aCons (eSub (eVar 1) (eC (.int 0))) (aCons eDic0 aNil))) (aCons (eVar 0) (aCons (eC (.int 0)) aNil)))) (sRe (sRet (eC (.bl false)))) sNil)
def b78_8 : XS := (sAsg (eMake 0 5 4 (aCons (eC (.int 2)) (aCons (eTup (aCons (eTup (aCons (eC (.int 0)) (aCons (eC (.int 1)) (aCons (eC (.int 1)) (aCons (eC (.int 1)) aNil))))) aNil)) (aCons (eTup (aCons (eC (.int 3)) (aCons (eC .non) aNil))) (aCons (eTup (aCons (eC (.int 2)) (aCons (eC (.int 0)) aNil))) aNil))))) (tgG (.nm 3)))
def b78_9 : XS := (sIf (tE (eCmp .isnot (eMeth [(2, 33), (3, 39), (4, 60), (5, 64)] (eMake 4 57 2 (aCons (eTup (aCons (eTup (aCons (eC (.int 1)) (aCons (eC (.int 0)) aNil))) aNil)) (aCons (eB gDict (aCons (eNew (lNew (aCons (eTup (aCons (eTup (aCons (eTup (aCons (eC (.int 0)) (aCons (eC (.int 0)) aNil))) aNil)) (aCons (eTup (aCons (eC (.int 0)) aNil)) aNil))) aNil))) aNil)) aNil))) (aCons (eVar 3) (aCons (eC (.int 0)) aNil))) (eC (.bl true)))) (sRe (sRet (eC (.bl false)))) sNil)
def b78_10 : XS := (sIf (tE (eMeth [(2, 33), (3, 39), (4, 60), (5, 64)] (eMake 4 57 2 (aCons (eTup (aCons (eTup (aCons (eC (.int 1)) (aCons (eC (.int 0)) aNil))) aNil)) (aCons eDic0 aNil))) (aCons (eVar 3) (aCons (eC (.int 0)) aNil)))) (sRe (sRet (eC (.bl false)))) sNil)
def b78_11 : XS := (sIf (tE (eMeth [(2, 33), (3, 39), (4, 60), (5, 64)] (eMake 4 57 2 (aCons (eTup (aCons (eTup (aCons (eC (.int 1)) (aCons (eC (.int 0)) aNil))) aNil)) (aCons (eB gDict (aCons (eNew (lNew (aCons (eTup (aCons (eTup (aCons (eTup (aCons (eC (.int 0)) (aCons (eC (.int 0)) aNil))) aNil)) (aCons (eTup (aCons (eC (.int 0)) aNil)) aNil))) (aCons (eTup (aCons (eTup (aCons (eTup (aCons (eC (.int 2)) (aCons (eC (.int 0)) aNil))) aNil)) (aCons (eTup (aCons (eC (.int 0)) aNil)) aNil))) aNil)))) aNil)) aNil))) (aCons (eVar 3) (aCons (eC (.int 0)) aNil)))) (sRe (sRet (eC (.bl false)))) sNil)
def b78_12 : XS := (sIf (tE (eMeth [(2, 33), (3, 39), (4, 60), (5, 64)] (eMake 4 57 2 (aCons (eTup (aCons (eTup (aCons (eC (.int 2)) (aCons (eC (.int 0)) aNil))) aNil)) (aCons (eB gDict (aCons (eNew (lNew (aCons (eTup (aCons (eTup (aCons (eTup (aCons (eC (.int 0)) (aCons (eC (.int 0)) aNil))) aNil)) (aCons (eTup (aCons (eC (.int 0)) aNil)) aNil))) (aCons (eTup (aCons (eTup (aCons (eTup (aCons (eC (.int 1)) (aCons (eC (.int 0)) aNil))) aNil)) (aCons (eTup (aCons (eC (.int 0)) aNil)) aNil))) aNil)))) aNil)) aNil))) (aCons (eVar 3) (aCons (eC (.int 0)) aNil)))) (sRe (sRet (eC (.bl false)))) sNil)
def b78_13 : XS := (sIf (tE (eMeth [(2, 33), (3, 39), (4, 60), (5, 64)] (eMake 4 57 2 (aCons (eTup (aCons (eTup (aCons (eC (.int 1)) (aCons (eC (.int 0)) aNil))) aNil)) (aCons (eB gDict (aCons (eNew (lNew (aCons (eTup (aCons (eTup (aCons (eTup (aCons (eC (.int 0)) (aCons (eC (.int 0)) aNil))) aNil)) (aCons (eTup (aCons (eC (.int 0)) aNil)) aNil))) aNil))) aNil)) aNil))) (aCons (eVar 3) (aCons (eC (.int 1)) aNil)))) (sRe (sRet (eC (.bl false)))) sNil)
def b78_14 : XS := (sIf (tE (eCmp .isnot (eMeth [(2, 33), (3, 39), (4, 60), (5, 64)] (eMake 4 57 2 (aCons (eTup (aCons (eTup (aCons (eC (.int 2)) (aCons (eC (.int 0)) aNil))) aNil)) (aCons (eB gDict (aCons (eNew (lNew (aCons (eTup (aCons (eTup (aCons (eTup (aCons (eC (.int 0)) (aCons (eC (.int 0)) aNil))) aNil)) (aCons (eTup (aCons (eC (.int 0)) aNil)) aNil))) (aCons (eTup (aCons (eTup (aCons (eTup (aCons (eC (.int 1)) (aCons (eC (.int 0)) aNil))) aNil)) (aCons (eTup (aCons (eC (.int 1)) aNil)) aNil))) aNil)))) aNil)) aNil))) (aCons (eVar 3) (aCons (eC (.int 1)) aNil))) (eC (.bl true)))) (sRe (sRet (eC (.bl false)))) sNil)
def b78_15 : XS := (sRet (eC (.bl true)))
def r78_15 : XS := sRe b78_15
def r78_14 : XS := sSeq (sRe b78_14) r78_15
def r78_13 : XS := sSeq (sRe b78_13) r78_14
def r78_12 : XS := sSeq (sRe b78_12) r78_13
def r78_11 : XS := sSeq (sRe b78_11) r78_12
def r78_10 : XS := sSeq (sRe b78_10) r78_11
def r78_9 : XS := sSeq (sRe b78_9) r78_10
def r78_8 : XS := sSeq (sRe b78_8) r78_9
def r78_7 : XS := sSeq (sRe b78_7) r78_8
def r78_6 : XS := sSeq (sRe b78_6) r78_7
def r78_5 : XS := sSeq (sRe b78_5) r78_6
def r78_4 : XS := sSeq (sRe b78_4) r78_5
def r78_3 : XS := sSeq (sRe b78_3) r78_4
def r78_2 : XS := sSeq (sRe b78_2) r78_3
def r78_1 : XS := sSeq (sRe b78_1) r78_2
def b78 : XS := sSeq (sRe b78_0) r78_1
def b79_0 : XS := (sIf (tE (eCmp .ne (eCall 71 (aCons (eVar 0) aNil)) (eNew (lNew (aCons (eC (.int 8)) (aCons (eC (.int 13)) (aCons (eC (.int 18)) (aCons (eC .non) (aCons (eC .non) aNil))))))))) (sRe (sRet (eC (.bl false)))) sNil)
def b79_1 : XS := (sIf (tE (eCmp .ne (eCall 72 (aCons (eVar 0) aNil)) (eNew (lNew (aCons (eTup (aCons (eC (.int 0)) (aCons (eC (.int 8)) aNil))) (aCons (eTup (aCons (eC (.int 1)) (aCons (eC (.int 13)) aNil))) (aCons (eTup (aCons (eC (.int 2)) (aCons (eC (.int 18)) aNil))) aNil))))))) (sRe (sRet (eC (.bl false)))) sNil)
def b79_2 : XS := (sIf (tE (eCmp .ne (eCall 73 (aCons (eVar 0) (aCons (eC (.int 0)) aNil))) (eNew (lNew (aCons (eC .non) (aCons (eC (.int 14)) (aCons (eC (.int 11)) (aCons (eC (.int 8)) (aCons (eC (.int 8)) (aCons (eC (.int 8)) aNil)))))))))) (sRe (sRet (eC (.bl false)))) sNil)
def b79_3 : XS := (sRet (eCmp .eq (eCall 73 (aCons (eVar 0) (aCons (eC (.int 4)) aNil))) (eNew (lNew (aCons (eC .non) (aCons (eC .non) (aCons (eC .non) (aCons (eC .non) (aCons (eC .non) (aCons (eC (.int 22)) aNil))))))))))
def r79_3 : XS := sRe b79_3
def r79_2 : XS := sSeq (sRe b79_2) r79_3
def r79_1 : XS := sSeq (sRe b79_1) r79_2
def b79 : XS := sSeq (sRe b79_0) r79_1
def b80_0 : XS := (sAsg (eNew (lC1 [3] (iAnyO [(3, 0)] (eTup (aCons (eC (.int 4)) (aCons (eC (.int 2)) aNil)))) (.nm 3) tYes (eMake 0 5 4 (aCons (eC (.int 3)) (aCons (eTup (aCons (eTup (aCons (eC (.int 0)) (aCons (eC (.int 1)) (aCons (eC (.int 2)) (aCons (eC (.int 1)) aNil))))) (aCons (eTup (aCons (eC (.int 1)) (aCons (eC (.int 2)) (aCons (eC (.int 2)) (aCons (eC (.int 1)) aNil))))) aNil))) (aCons (eTup (aCons (eC (.int 2)) (aCons (eC (.int 5)) (aCons (eC .non) aNil)))) (aCons (eTup (aCons (eVar 3) (aCons (eC (.int 0)) aNil))) aNil))))))) (tgG (.un [1, 2])))
def b80_1 : XS := (sIf (tOr (tNot (tE (eCall 74 (aCons (eVar 1) aNil)))) (tNot (tE (eCall 75 (aCons (eVar 1) (aCons (eVar 2) aNil)))))) (sRe (sRet (eC (.bl false)))) sNil)
def b80_2 : XS := (sRet (eCall 77 (aCons (eVar 1) (aCons (eVar 2) aNil))))
def r80_2 : XS := sRe b80_2
def r80_1 : XS := sSeq (sRe b80_1) r80_2
def b80 : XS := sSeq (sRe b80_0) r80_1
def tab : List Fd := ([(⟨3, 3, b0⟩ : Fd), (⟨2, 6, b1⟩ : Fd), (⟨2, 5, b2⟩ : Fd), (⟨2, 3, b3⟩ : Fd), (⟨1, 1, b4⟩ : Fd), (⟨5, 5, b5⟩ : Fd), (⟨1, 1, b6⟩ : Fd), (⟨2, 2, b7⟩ : Fd), (⟨1, 1, b8⟩ : Fd), (⟨1, 1, b9⟩ : Fd), (⟨1, 1, b10⟩ : Fd), (⟨1, 1, b11⟩ : Fd), (⟨1, 1, b12⟩ : Fd), (⟨1, 1, b13⟩ : Fd), (⟨2, 7, b14⟩ : Fd), (⟨2, 2, b15⟩ : Fd), (⟨1, 1, b16⟩ : Fd), (⟨2, 4, b17⟩ : Fd), (⟨2, 2, b18⟩ : Fd), (⟨2, 5, b19⟩ : Fd)] : List Fd) ++ ([(⟨3, 3, b20⟩ : Fd), (⟨4, 7, b21⟩ : Fd), (⟨4, 13, b22⟩ : Fd), (⟨3, 4, b23⟩ : Fd), (⟨2, 2, b24⟩ : Fd), (⟨3, 4, b25⟩ : Fd), (⟨2, 2, b26⟩ : Fd), (⟨2, 2, b27⟩ : Fd), (⟨2, 6, b28⟩ : Fd), (⟨3, 5, b29⟩ : Fd), (⟨4, 4, b30⟩ : Fd), (⟨2, 2, b31⟩ : Fd), (⟨1, 1, b32⟩ : Fd), (⟨3, 4, b33⟩ : Fd), (⟨3, 7, b34⟩ : Fd), (⟨3, 8, b35⟩ : Fd), (⟨2, 2, b36⟩ : Fd), (⟨1, 1, b37⟩ : Fd), (⟨2, 2, b38⟩ : Fd), (⟨3, 7, b39⟩ : Fd)] : List Fd) ++ ([(⟨2, 8, b40⟩ : Fd), (⟨2, 2, b41⟩ : Fd), (⟨2, 2, b42⟩ : Fd), (⟨2, 2, b43⟩ : Fd), (⟨2, 5, b44⟩ : Fd), (⟨2, 2, b45⟩ : Fd), (⟨2, 6, b46⟩ : Fd), (⟨2, 3, b47⟩ : Fd), (⟨1, 5, b48⟩ : Fd), (⟨1, 4, b49⟩ : Fd), (⟨2, 2, b50⟩ : Fd), (⟨2, 5, b51⟩ : Fd), (⟨3, 11, b52⟩ : Fd), (⟨2, 6, b53⟩ : Fd), (⟨3, 4, b54⟩ : Fd), (⟨3, 4, b55⟩ : Fd), (⟨4, 5, b56⟩ : Fd), (⟨3, 3, b57⟩ : Fd), (⟨1, 1, b58⟩ : Fd), (⟨2, 2, b59⟩ : Fd)] : List Fd) ++ ([(⟨3, 5, b60⟩ : Fd), (⟨2, 2, b61⟩ : Fd), (⟨1, 1, b62⟩ : Fd), (⟨2, 2, b63⟩ : Fd), (⟨3, 3, b64⟩ : Fd), (⟨2, 2, b65⟩ : Fd), (⟨1, 1, b66⟩ : Fd), (⟨3, 3, b67⟩ : Fd), (⟨2, 8, b68⟩ : Fd), (⟨2, 3, b69⟩ : Fd), (⟨2, 2, b70⟩ : Fd), (⟨1, 2, b71⟩ : Fd), (⟨1, 6, b72⟩ : Fd), (⟨2, 5, b73⟩ : Fd), (⟨1, 4, b74⟩ : Fd), (⟨2, 12, b75⟩ : Fd), (⟨4, 7, b76⟩ : Fd), (⟨2, 6, b77⟩ : Fd), (⟨2, 5, b78⟩ : Fd), (⟨1, 1, b79⟩ : Fd)] : List Fd) ++ ([(⟨1, 4, b80⟩ : Fd)] : List Fd)
end HT
end

section
set_option Elab.async false
set_option linter.all false
set_option maxRecDepth 100000
set_option maxHeartbeats 0
namespace HT
open PySem PySem.Spec PyProof.Rows L2 Ev
theorem d0 : ∃ (df : Df) (ps : List Str), ds[0]? = some df ∧ FnScope df.N ps df.scope ∧
    (∀ (kV doc pm : Value) (an : Option Addr) (cdv ct : Value) (us : List Value), us.length = ps.length → bindArgs (PySem.W.fnOf df.name df.qual df.params df.body df.scope .none kV doc pm an cdv ct) ⟨us, []⟩ = pure (ps.zip us)) ∧
    (⟨3, 3, b0⟩ : Fd) = ⟨ps.length, df.N.length, (lev evA gs 40).ss ⟨df.N, df.scope, fun _ => true, df.lam, df.re⟩ df.body⟩ :=
  ⟨_, [Str.ofString "value", Str.ofString "low", Str.ofString "high"], rfl, ⟨rfl, rfl, rfl, by decide +kernel, by decide +kernel, by decide +kernel, by decide +kernel⟩, fun _ _ _ _ _ _ us hl => match us, hl with | [_, _, _], _ => rfl, by kernel_rfl⟩
theorem d1 : ∃ (df : Df) (ps : List Str), ds[1]? = some df ∧ FnScope df.N ps df.scope ∧
    (∀ (kV doc pm : Value) (an : Option Addr) (cdv ct : Value) (us : List Value), us.length = ps.length → bindArgs (PySem.W.fnOf df.name df.qual df.params df.body df.scope .none kV doc pm an cdv ct) ⟨us, []⟩ = pure (ps.zip us)) ∧
    (⟨2, 6, b1⟩ : Fd) = ⟨ps.length, df.N.length, (lev evA gs 40).ss ⟨df.N, df.scope, fun _ => true, df.lam, df.re⟩ df.body⟩ :=
  ⟨_, [Str.ofString "value", Str.ofString "places"], rfl, ⟨rfl, rfl, rfl, by decide +kernel, by decide +kernel, by decide +kernel, by decide +kernel⟩, fun _ _ _ _ _ _ us hl => match us, hl with | [_, _], _ => rfl, by kernel_rfl⟩
theorem d2 : ∃ (df : Df) (ps : List Str), ds[2]? = some df ∧ FnScope df.N ps df.scope ∧
    (∀ (kV doc pm : Value) (an : Option Addr) (cdv ct : Value) (us : List Value), us.length = ps.length → bindArgs (PySem.W.fnOf df.name df.qual df.params df.body df.scope .none kV doc pm an cdv ct) ⟨us, []⟩ = pure (ps.zip us)) ∧
    (⟨2, 5, b2⟩ : Fd) = ⟨ps.length, df.N.length, (lev evA gs 40).ss ⟨df.N, df.scope, fun _ => true, df.lam, df.re⟩ df.body⟩ :=
  ⟨_, [Str.ofString "value", Str.ofString "places"], rfl, ⟨rfl, rfl, rfl, by decide +kernel, by decide +kernel, by decide +kernel, by decide +kernel⟩, fun _ _ _ _ _ _ us hl => match us, hl with | [_, _], _ => rfl, by kernel_rfl⟩
theorem d3 : ∃ (df : Df) (ps : List Str), ds[3]? = some df ∧ FnScope df.N ps df.scope ∧
    (∀ (kV doc pm : Value) (an : Option Addr) (cdv ct : Value) (us : List Value), us.length = ps.length → bindArgs (PySem.W.fnOf df.name df.qual df.params df.body df.scope .none kV doc pm an cdv ct) ⟨us, []⟩ = pure (ps.zip us)) ∧
    (⟨2, 3, b3⟩ : Fd) = ⟨ps.length, df.N.length, (lev evA gs 40).ss ⟨df.N, df.scope, fun _ => true, df.lam, df.re⟩ df.body⟩ :=
  ⟨_, [Str.ofString "value", Str.ofString "places"], rfl, ⟨rfl, rfl, rfl, by decide +kernel, by decide +kernel, by decide +kernel, by decide +kernel⟩, fun _ _ _ _ _ _ us hl => match us, hl with | [_, _], _ => rfl, by kernel_rfl⟩
theorem d4 : ∃ (df : Df) (ps : List Str), ds[4]? = some df ∧ FnScope df.N ps df.scope ∧
    (∀ (kV doc pm : Value) (an : Option Addr) (cdv ct : Value) (us : List Value), us.length = ps.length → bindArgs (PySem.W.fnOf df.name df.qual df.params df.body df.scope .none kV doc pm an cdv ct) ⟨us, []⟩ = pure (ps.zip us)) ∧
    (⟨1, 1, b4⟩ : Fd) = ⟨ps.length, df.N.length, (lev evA gs 40).ss ⟨df.N, df.scope, fun _ => true, df.lam, df.re⟩ df.body⟩ :=
  ⟨_, [Str.ofString "value"], rfl, ⟨rfl, rfl, rfl, by decide +kernel, by decide +kernel, by decide +kernel, by decide +kernel⟩, fun _ _ _ _ _ _ us hl => match us, hl with | [_], _ => rfl, by kernel_rfl⟩
theorem d5 : ∃ (df : Df) (ps : List Str), ds[5]? = some df ∧ FnScope df.N ps df.scope ∧
    (∀ (kV doc pm : Value) (an : Option Addr) (cdv ct : Value) (us : List Value), us.length = ps.length → bindArgs (PySem.W.fnOf df.name df.qual df.params df.body df.scope .none kV doc pm an cdv ct) ⟨us, []⟩ = pure (ps.zip us)) ∧
    (⟨5, 5, b5⟩ : Fd) = ⟨ps.length, df.N.length, (lev evA gs 40).ss ⟨df.N, df.scope, fun _ => true, df.lam, df.re⟩ df.body⟩ :=
  ⟨_, [Str.ofString "self", Str.ofString "places", Str.ofString "roads", Str.ofString "prices", Str.ofString "box"], rfl, ⟨rfl, rfl, rfl, by decide +kernel, by decide +kernel, by decide +kernel, by decide +kernel⟩, fun _ _ _ _ _ _ us hl => match us, hl with | [_, _, _, _, _], _ => rfl, by kernel_rfl⟩
theorem d6 : ∃ (df : Df) (ps : List Str), ds[6]? = some df ∧ FnScope df.N ps df.scope ∧
    (∀ (kV doc pm : Value) (an : Option Addr) (cdv ct : Value) (us : List Value), us.length = ps.length → bindArgs (PySem.W.fnOf df.name df.qual df.params df.body df.scope .none kV doc pm an cdv ct) ⟨us, []⟩ = pure (ps.zip us)) ∧
    (⟨1, 1, b6⟩ : Fd) = ⟨ps.length, df.N.length, (lev evA gs 40).ss ⟨df.N, df.scope, fun _ => true, df.lam, df.re⟩ df.body⟩ :=
  ⟨_, [Str.ofString "self"], rfl, ⟨rfl, rfl, rfl, by decide +kernel, by decide +kernel, by decide +kernel, by decide +kernel⟩, fun _ _ _ _ _ _ us hl => match us, hl with | [_], _ => rfl, by kernel_rfl⟩
theorem d7 : ∃ (df : Df) (ps : List Str), ds[7]? = some df ∧ FnScope df.N ps df.scope ∧
    (∀ (kV doc pm : Value) (an : Option Addr) (cdv ct : Value) (us : List Value), us.length = ps.length → bindArgs (PySem.W.fnOf df.name df.qual df.params df.body df.scope .none kV doc pm an cdv ct) ⟨us, []⟩ = pure (ps.zip us)) ∧
    (⟨2, 2, b7⟩ : Fd) = ⟨ps.length, df.N.length, (lev evA gs 40).ss ⟨df.N, df.scope, fun _ => true, df.lam, df.re⟩ df.body⟩ :=
  ⟨_, [Str.ofString "self", Str.ofString "other"], rfl, ⟨rfl, rfl, rfl, by decide +kernel, by decide +kernel, by decide +kernel, by decide +kernel⟩, fun _ _ _ _ _ _ us hl => match us, hl with | [_, _], _ => rfl, by kernel_rfl⟩
theorem d8 : ∃ (df : Df) (ps : List Str), ds[8]? = some df ∧ FnScope df.N ps df.scope ∧
    (∀ (kV doc pm : Value) (an : Option Addr) (cdv ct : Value) (us : List Value), us.length = ps.length → bindArgs (PySem.W.fnOf df.name df.qual df.params df.body df.scope .none kV doc pm an cdv ct) ⟨us, []⟩ = pure (ps.zip us)) ∧
    (⟨1, 1, b8⟩ : Fd) = ⟨ps.length, df.N.length, (lev evA gs 40).ss ⟨df.N, df.scope, fun _ => true, df.lam, df.re⟩ df.body⟩ :=
  ⟨_, [Str.ofString "self"], rfl, ⟨rfl, rfl, rfl, by decide +kernel, by decide +kernel, by decide +kernel, by decide +kernel⟩, fun _ _ _ _ _ _ us hl => match us, hl with | [_], _ => rfl, by kernel_rfl⟩
theorem d9 : ∃ (df : Df) (ps : List Str), ds[9]? = some df ∧ FnScope df.N ps df.scope ∧
    (∀ (kV doc pm : Value) (an : Option Addr) (cdv ct : Value) (us : List Value), us.length = ps.length → bindArgs (PySem.W.fnOf df.name df.qual df.params df.body df.scope .none kV doc pm an cdv ct) ⟨us, []⟩ = pure (ps.zip us)) ∧
    (⟨1, 1, b9⟩ : Fd) = ⟨ps.length, df.N.length, (lev evA gs 40).ss ⟨df.N, df.scope, fun _ => true, df.lam, df.re⟩ df.body⟩ :=
  ⟨_, [Str.ofString "self"], rfl, ⟨rfl, rfl, rfl, by decide +kernel, by decide +kernel, by decide +kernel, by decide +kernel⟩, fun _ _ _ _ _ _ us hl => match us, hl with | [_], _ => rfl, by kernel_rfl⟩
theorem d10 : ∃ (df : Df) (ps : List Str), ds[10]? = some df ∧ FnScope df.N ps df.scope ∧
    (∀ (kV doc pm : Value) (an : Option Addr) (cdv ct : Value) (us : List Value), us.length = ps.length → bindArgs (PySem.W.fnOf df.name df.qual df.params df.body df.scope .none kV doc pm an cdv ct) ⟨us, []⟩ = pure (ps.zip us)) ∧
    (⟨1, 1, b10⟩ : Fd) = ⟨ps.length, df.N.length, (lev evA gs 40).ss ⟨df.N, df.scope, fun _ => true, df.lam, df.re⟩ df.body⟩ :=
  ⟨_, [Str.ofString "self"], rfl, ⟨rfl, rfl, rfl, by decide +kernel, by decide +kernel, by decide +kernel, by decide +kernel⟩, fun _ _ _ _ _ _ us hl => match us, hl with | [_], _ => rfl, by kernel_rfl⟩
theorem d11 : ∃ (df : Df) (ps : List Str), ds[11]? = some df ∧ FnScope df.N ps df.scope ∧
    (∀ (kV doc pm : Value) (an : Option Addr) (cdv ct : Value) (us : List Value), us.length = ps.length → bindArgs (PySem.W.fnOf df.name df.qual df.params df.body df.scope .none kV doc pm an cdv ct) ⟨us, []⟩ = pure (ps.zip us)) ∧
    (⟨1, 1, b11⟩ : Fd) = ⟨ps.length, df.N.length, (lev evA gs 40).ss ⟨df.N, df.scope, fun _ => true, df.lam, df.re⟩ df.body⟩ :=
  ⟨_, [Str.ofString "self"], rfl, ⟨rfl, rfl, rfl, by decide +kernel, by decide +kernel, by decide +kernel, by decide +kernel⟩, fun _ _ _ _ _ _ us hl => match us, hl with | [_], _ => rfl, by kernel_rfl⟩
theorem d12 : ∃ (df : Df) (ps : List Str), ds[12]? = some df ∧ FnScope df.N ps df.scope ∧
    (∀ (kV doc pm : Value) (an : Option Addr) (cdv ct : Value) (us : List Value), us.length = ps.length → bindArgs (PySem.W.fnOf df.name df.qual df.params df.body df.scope .none kV doc pm an cdv ct) ⟨us, []⟩ = pure (ps.zip us)) ∧
    (⟨1, 1, b12⟩ : Fd) = ⟨ps.length, df.N.length, (lev evA gs 40).ss ⟨df.N, df.scope, fun _ => true, df.lam, df.re⟩ df.body⟩ :=
  ⟨_, [Str.ofString "self"], rfl, ⟨rfl, rfl, rfl, by decide +kernel, by decide +kernel, by decide +kernel, by decide +kernel⟩, fun _ _ _ _ _ _ us hl => match us, hl with | [_], _ => rfl, by kernel_rfl⟩
theorem d13 : ∃ (df : Df) (ps : List Str), ds[13]? = some df ∧ FnScope df.N ps df.scope ∧
    (∀ (kV doc pm : Value) (an : Option Addr) (cdv ct : Value) (us : List Value), us.length = ps.length → bindArgs (PySem.W.fnOf df.name df.qual df.params df.body df.scope .none kV doc pm an cdv ct) ⟨us, []⟩ = pure (ps.zip us)) ∧
    (⟨1, 1, b13⟩ : Fd) = ⟨ps.length, df.N.length, (lev evA gs 40).ss ⟨df.N, df.scope, fun _ => true, df.lam, df.re⟩ df.body⟩ :=
  ⟨_, [Str.ofString "chart"], rfl, ⟨rfl, rfl, rfl, by decide +kernel, by decide +kernel, by decide +kernel, by decide +kernel⟩, fun _ _ _ _ _ _ us hl => match us, hl with | [_], _ => rfl, by kernel_rfl⟩
theorem d14 : ∃ (df : Df) (ps : List Str), ds[14]? = some df ∧ FnScope df.N ps df.scope ∧
    (∀ (kV doc pm : Value) (an : Option Addr) (cdv ct : Value) (us : List Value), us.length = ps.length → bindArgs (PySem.W.fnOf df.name df.qual df.params df.body df.scope .none kV doc pm an cdv ct) ⟨us, []⟩ = pure (ps.zip us)) ∧
    (⟨2, 7, b14⟩ : Fd) = ⟨ps.length, df.N.length, (lev evA gs 40).ss ⟨df.N, df.scope, fun _ => true, df.lam, df.re⟩ df.body⟩ :=
  ⟨_, [Str.ofString "chart", Str.ofString "value"], rfl, ⟨rfl, rfl, rfl, by decide +kernel, by decide +kernel, by decide +kernel, by decide +kernel⟩, fun _ _ _ _ _ _ us hl => match us, hl with | [_, _], _ => rfl, by kernel_rfl⟩
theorem d15 : ∃ (df : Df) (ps : List Str), ds[15]? = some df ∧ FnScope df.N ps df.scope ∧
    (∀ (kV doc pm : Value) (an : Option Addr) (cdv ct : Value) (us : List Value), us.length = ps.length → bindArgs (PySem.W.fnOf df.name df.qual df.params df.body df.scope .none kV doc pm an cdv ct) ⟨us, []⟩ = pure (ps.zip us)) ∧
    (⟨2, 2, b15⟩ : Fd) = ⟨ps.length, df.N.length, (lev evA gs 40).ss ⟨df.N, df.scope, fun _ => true, df.lam, df.re⟩ df.body⟩ :=
  ⟨_, [Str.ofString "chart", Str.ofString "state"], rfl, ⟨rfl, rfl, rfl, by decide +kernel, by decide +kernel, by decide +kernel, by decide +kernel⟩, fun _ _ _ _ _ _ us hl => match us, hl with | [_, _], _ => rfl, by kernel_rfl⟩
theorem d16 : ∃ (df : Df) (ps : List Str), ds[16]? = some df ∧ FnScope df.N ps df.scope ∧
    (∀ (kV doc pm : Value) (an : Option Addr) (cdv ct : Value) (us : List Value), us.length = ps.length → bindArgs (PySem.W.fnOf df.name df.qual df.params df.body df.scope .none kV doc pm an cdv ct) ⟨us, []⟩ = pure (ps.zip us)) ∧
    (⟨1, 1, b16⟩ : Fd) = ⟨ps.length, df.N.length, (lev evA gs 40).ss ⟨df.N, df.scope, fun _ => true, df.lam, df.re⟩ df.body⟩ :=
  ⟨_, [Str.ofString "late"], rfl, ⟨rfl, rfl, rfl, by decide +kernel, by decide +kernel, by decide +kernel, by decide +kernel⟩, fun _ _ _ _ _ _ us hl => match us, hl with | [_], _ => rfl, by kernel_rfl⟩
theorem d17 : ∃ (df : Df) (ps : List Str), ds[17]? = some df ∧ FnScope df.N ps df.scope ∧
    (∀ (kV doc pm : Value) (an : Option Addr) (cdv ct : Value) (us : List Value), us.length = ps.length → bindArgs (PySem.W.fnOf df.name df.qual df.params df.body df.scope .none kV doc pm an cdv ct) ⟨us, []⟩ = pure (ps.zip us)) ∧
    (⟨2, 4, b17⟩ : Fd) = ⟨ps.length, df.N.length, (lev evA gs 40).ss ⟨df.N, df.scope, fun _ => true, df.lam, df.re⟩ df.body⟩ :=
  ⟨_, [Str.ofString "chart", Str.ofString "place"], rfl, ⟨rfl, rfl, rfl, by decide +kernel, by decide +kernel, by decide +kernel, by decide +kernel⟩, fun _ _ _ _ _ _ us hl => match us, hl with | [_, _], _ => rfl, by kernel_rfl⟩
theorem d18 : ∃ (df : Df) (ps : List Str), ds[18]? = some df ∧ FnScope df.N ps df.scope ∧
    (∀ (kV doc pm : Value) (an : Option Addr) (cdv ct : Value) (us : List Value), us.length = ps.length → bindArgs (PySem.W.fnOf df.name df.qual df.params df.body df.scope .none kV doc pm an cdv ct) ⟨us, []⟩ = pure (ps.zip us)) ∧
    (⟨2, 2, b18⟩ : Fd) = ⟨ps.length, df.N.length, (lev evA gs 40).ss ⟨df.N, df.scope, fun _ => true, df.lam, df.re⟩ df.body⟩ :=
  ⟨_, [Str.ofString "chart", Str.ofString "state"], rfl, ⟨rfl, rfl, rfl, by decide +kernel, by decide +kernel, by decide +kernel, by decide +kernel⟩, fun _ _ _ _ _ _ us hl => match us, hl with | [_, _], _ => rfl, by kernel_rfl⟩
theorem d19 : ∃ (df : Df) (ps : List Str), ds[19]? = some df ∧ FnScope df.N ps df.scope ∧
    (∀ (kV doc pm : Value) (an : Option Addr) (cdv ct : Value) (us : List Value), us.length = ps.length → bindArgs (PySem.W.fnOf df.name df.qual df.params df.body df.scope .none kV doc pm an cdv ct) ⟨us, []⟩ = pure (ps.zip us)) ∧
    (⟨2, 5, b19⟩ : Fd) = ⟨ps.length, df.N.length, (lev evA gs 40).ss ⟨df.N, df.scope, fun _ => true, df.lam, df.re⟩ df.body⟩ :=
  ⟨_, [Str.ofString "chart", Str.ofString "state"], rfl, ⟨rfl, rfl, rfl, by decide +kernel, by decide +kernel, by decide +kernel, by decide +kernel⟩, fun _ _ _ _ _ _ us hl => match us, hl with | [_, _], _ => rfl, by kernel_rfl⟩
theorem d20 : ∃ (df : Df) (ps : List Str), ds[20]? = some df ∧ FnScope df.N ps df.scope ∧
    (∀ (kV doc pm : Value) (an : Option Addr) (cdv ct : Value) (us : List Value), us.length = ps.length → bindArgs (PySem.W.fnOf df.name df.qual df.params df.body df.scope .none kV doc pm an cdv ct) ⟨us, []⟩ = pure (ps.zip us)) ∧
    (⟨3, 3, b20⟩ : Fd) = ⟨ps.length, df.N.length, (lev evA gs 40).ss ⟨df.N, df.scope, fun _ => true, df.lam, df.re⟩ df.body⟩ :=
  ⟨_, [Str.ofString "chart", Str.ofString "place", Str.ofString "move"], rfl, ⟨rfl, rfl, rfl, by decide +kernel, by decide +kernel, by decide +kernel, by decide +kernel⟩, fun _ _ _ _ _ _ us hl => match us, hl with | [_, _, _], _ => rfl, by kernel_rfl⟩
theorem d21 : ∃ (df : Df) (ps : List Str), ds[21]? = some df ∧ FnScope df.N ps df.scope ∧
    (∀ (kV doc pm : Value) (an : Option Addr) (cdv ct : Value) (us : List Value), us.length = ps.length → bindArgs (PySem.W.fnOf df.name df.qual df.params df.body df.scope .none kV doc pm an cdv ct) ⟨us, []⟩ = pure (ps.zip us)) ∧
    (⟨4, 7, b21⟩ : Fd) = ⟨ps.length, df.N.length, (lev evA gs 40).ss ⟨df.N, df.scope, fun _ => true, df.lam, df.re⟩ df.body⟩ :=
  ⟨_, [Str.ofString "chart", Str.ofString "load", Str.ofString "melt", Str.ofString "hours"], rfl, ⟨rfl, rfl, rfl, by decide +kernel, by decide +kernel, by decide +kernel, by decide +kernel⟩, fun _ _ _ _ _ _ us hl => match us, hl with | [_, _, _, _], _ => rfl, by kernel_rfl⟩
theorem d22 : ∃ (df : Df) (ps : List Str), ds[22]? = some df ∧ FnScope df.N ps df.scope ∧
    (∀ (kV doc pm : Value) (an : Option Addr) (cdv ct : Value) (us : List Value), us.length = ps.length → bindArgs (PySem.W.fnOf df.name df.qual df.params df.body df.scope .none kV doc pm an cdv ct) ⟨us, []⟩ = pure (ps.zip us)) ∧
    (⟨4, 13, b22⟩ : Fd) = ⟨ps.length, df.N.length, (lev evA gs 40).ss ⟨df.N, df.scope, fun _ => true, df.lam, df.re⟩ df.body⟩ :=
  ⟨_, [Str.ofString "chart", Str.ofString "state", Str.ofString "move", Str.ofString "more"], rfl, ⟨rfl, rfl, rfl, by decide +kernel, by decide +kernel, by decide +kernel, by decide +kernel⟩, fun _ _ _ _ _ _ us hl => match us, hl with | [_, _, _, _], _ => rfl, by kernel_rfl⟩
theorem d23 : ∃ (df : Df) (ps : List Str), ds[23]? = some df ∧ FnScope df.N ps df.scope ∧
    (∀ (kV doc pm : Value) (an : Option Addr) (cdv ct : Value) (us : List Value), us.length = ps.length → bindArgs (PySem.W.fnOf df.name df.qual df.params df.body df.scope .none kV doc pm an cdv ct) ⟨us, []⟩ = pure (ps.zip us)) ∧
    (⟨3, 4, b23⟩ : Fd) = ⟨ps.length, df.N.length, (lev evA gs 40).ss ⟨df.N, df.scope, fun _ => true, df.lam, df.re⟩ df.body⟩ :=
  ⟨_, [Str.ofString "chart", Str.ofString "state", Str.ofString "move"], rfl, ⟨rfl, rfl, rfl, by decide +kernel, by decide +kernel, by decide +kernel, by decide +kernel⟩, fun _ _ _ _ _ _ us hl => match us, hl with | [_, _, _], _ => rfl, by kernel_rfl⟩
theorem d24 : ∃ (df : Df) (ps : List Str), ds[24]? = some df ∧ FnScope df.N ps df.scope ∧
    (∀ (kV doc pm : Value) (an : Option Addr) (cdv ct : Value) (us : List Value), us.length = ps.length → bindArgs (PySem.W.fnOf df.name df.qual df.params df.body df.scope .none kV doc pm an cdv ct) ⟨us, []⟩ = pure (ps.zip us)) ∧
    (⟨2, 2, b24⟩ : Fd) = ⟨ps.length, df.N.length, (lev evA gs 40).ss ⟨df.N, df.scope, fun _ => true, df.lam, df.re⟩ df.body⟩ :=
  ⟨_, [Str.ofString "chart", Str.ofString "state"], rfl, ⟨rfl, rfl, rfl, by decide +kernel, by decide +kernel, by decide +kernel, by decide +kernel⟩, fun _ _ _ _ _ _ us hl => match us, hl with | [_, _], _ => rfl, by kernel_rfl⟩
theorem d25 : ∃ (df : Df) (ps : List Str), ds[25]? = some df ∧ FnScope df.N ps df.scope ∧
    (∀ (kV doc pm : Value) (an : Option Addr) (cdv ct : Value) (us : List Value), us.length = ps.length → bindArgs (PySem.W.fnOf df.name df.qual df.params df.body df.scope .none kV doc pm an cdv ct) ⟨us, []⟩ = pure (ps.zip us)) ∧
    (⟨3, 4, b25⟩ : Fd) = ⟨ps.length, df.N.length, (lev evA gs 40).ss ⟨df.N, df.scope, fun _ => true, df.lam, df.re⟩ df.body⟩ :=
  ⟨_, [Str.ofString "chart", Str.ofString "state", Str.ofString "move"], rfl, ⟨rfl, rfl, rfl, by decide +kernel, by decide +kernel, by decide +kernel, by decide +kernel⟩, fun _ _ _ _ _ _ us hl => match us, hl with | [_, _, _], _ => rfl, by kernel_rfl⟩
theorem d26 : ∃ (df : Df) (ps : List Str), ds[26]? = some df ∧ FnScope df.N ps df.scope ∧
    (∀ (kV doc pm : Value) (an : Option Addr) (cdv ct : Value) (us : List Value), us.length = ps.length → bindArgs (PySem.W.fnOf df.name df.qual df.params df.body df.scope .none kV doc pm an cdv ct) ⟨us, []⟩ = pure (ps.zip us)) ∧
    (⟨2, 2, b26⟩ : Fd) = ⟨ps.length, df.N.length, (lev evA gs 40).ss ⟨df.N, df.scope, fun _ => true, df.lam, df.re⟩ df.body⟩ :=
  ⟨_, [Str.ofString "self", Str.ofString "chart"], rfl, ⟨rfl, rfl, rfl, by decide +kernel, by decide +kernel, by decide +kernel, by decide +kernel⟩, fun _ _ _ _ _ _ us hl => match us, hl with | [_, _], _ => rfl, by kernel_rfl⟩
theorem d27 : ∃ (df : Df) (ps : List Str), ds[27]? = some df ∧ FnScope df.N ps df.scope ∧
    (∀ (kV doc pm : Value) (an : Option Addr) (cdv ct : Value) (us : List Value), us.length = ps.length → bindArgs (PySem.W.fnOf df.name df.qual df.params df.body df.scope .none kV doc pm an cdv ct) ⟨us, []⟩ = pure (ps.zip us)) ∧
    (⟨2, 2, b27⟩ : Fd) = ⟨ps.length, df.N.length, (lev evA gs 40).ss ⟨df.N, df.scope, fun _ => true, df.lam, df.re⟩ df.body⟩ :=
  ⟨_, [Str.ofString "self", Str.ofString "state"], rfl, ⟨rfl, rfl, rfl, by decide +kernel, by decide +kernel, by decide +kernel, by decide +kernel⟩, fun _ _ _ _ _ _ us hl => match us, hl with | [_, _], _ => rfl, by kernel_rfl⟩
theorem d28 : ∃ (df : Df) (ps : List Str), ds[28]? = some df ∧ FnScope df.N ps df.scope ∧
    (∀ (kV doc pm : Value) (an : Option Addr) (cdv ct : Value) (us : List Value), us.length = ps.length → bindArgs (PySem.W.fnOf df.name df.qual df.params df.body df.scope .none kV doc pm an cdv ct) ⟨us, []⟩ = pure (ps.zip us)) ∧
    (⟨2, 6, b28⟩ : Fd) = ⟨ps.length, df.N.length, (lev evA gs 40).ss ⟨df.N, df.scope, fun _ => true, df.lam, df.re⟩ df.body⟩ :=
  ⟨_, [Str.ofString "self", Str.ofString "state"], rfl, ⟨rfl, rfl, rfl, by decide +kernel, by decide +kernel, by decide +kernel, by decide +kernel⟩, fun _ _ _ _ _ _ us hl => match us, hl with | [_, _], _ => rfl, by kernel_rfl⟩
theorem d29 : ∃ (df : Df) (ps : List Str), ds[29]? = some df ∧ FnScope df.N ps df.scope ∧
    (∀ (kV doc pm : Value) (an : Option Addr) (cdv ct : Value) (us : List Value), us.length = ps.length → bindArgs (PySem.W.fnOf df.name df.qual df.params df.body df.scope .none kV doc pm an cdv ct) ⟨us, []⟩ = pure (ps.zip us)) ∧
    (⟨3, 5, b29⟩ : Fd) = ⟨ps.length, df.N.length, (lev evA gs 40).ss ⟨df.N, df.scope, fun _ => true, df.lam, df.re⟩ df.body⟩ :=
  ⟨_, [Str.ofString "self", Str.ofString "state", Str.ofString "move"], rfl, ⟨rfl, rfl, rfl, by decide +kernel, by decide +kernel, by decide +kernel, by decide +kernel⟩, fun _ _ _ _ _ _ us hl => match us, hl with | [_, _, _], _ => rfl, by kernel_rfl⟩
theorem d30 : ∃ (df : Df) (ps : List Str), ds[30]? = some df ∧ FnScope df.N ps df.scope ∧
    (∀ (kV doc pm : Value) (an : Option Addr) (cdv ct : Value) (us : List Value), us.length = ps.length → bindArgs (PySem.W.fnOf df.name df.qual df.params df.body df.scope .none kV doc pm an cdv ct) ⟨us, []⟩ = pure (ps.zip us)) ∧
    (⟨4, 4, b30⟩ : Fd) = ⟨ps.length, df.N.length, (lev evA gs 40).ss ⟨df.N, df.scope, fun _ => true, df.lam, df.re⟩ df.body⟩ :=
  ⟨_, [Str.ofString "self", Str.ofString "cost", Str.ofString "heights", Str.ofString "levels"], rfl, ⟨rfl, rfl, rfl, by decide +kernel, by decide +kernel, by decide +kernel, by decide +kernel⟩, fun _ _ _ _ _ _ us hl => match us, hl with | [_, _, _, _], _ => rfl, by kernel_rfl⟩
theorem d31 : ∃ (df : Df) (ps : List Str), ds[31]? = some df ∧ FnScope df.N ps df.scope ∧
    (∀ (kV doc pm : Value) (an : Option Addr) (cdv ct : Value) (us : List Value), us.length = ps.length → bindArgs (PySem.W.fnOf df.name df.qual df.params df.body df.scope .none kV doc pm an cdv ct) ⟨us, []⟩ = pure (ps.zip us)) ∧
    (⟨2, 2, b31⟩ : Fd) = ⟨ps.length, df.N.length, (lev evA gs 40).ss ⟨df.N, df.scope, fun _ => true, df.lam, df.re⟩ df.body⟩ :=
  ⟨_, [Str.ofString "self", Str.ofString "other"], rfl, ⟨rfl, rfl, rfl, by decide +kernel, by decide +kernel, by decide +kernel, by decide +kernel⟩, fun _ _ _ _ _ _ us hl => match us, hl with | [_, _], _ => rfl, by kernel_rfl⟩
theorem d32 : ∃ (df : Df) (ps : List Str), ds[32]? = some df ∧ FnScope df.N ps df.scope ∧
    (∀ (kV doc pm : Value) (an : Option Addr) (cdv ct : Value) (us : List Value), us.length = ps.length → bindArgs (PySem.W.fnOf df.name df.qual df.params df.body df.scope .none kV doc pm an cdv ct) ⟨us, []⟩ = pure (ps.zip us)) ∧
    (⟨1, 1, b32⟩ : Fd) = ⟨ps.length, df.N.length, (lev evA gs 40).ss ⟨df.N, df.scope, fun _ => true, df.lam, df.re⟩ df.body⟩ :=
  ⟨_, [Str.ofString "self"], rfl, ⟨rfl, rfl, rfl, by decide +kernel, by decide +kernel, by decide +kernel, by decide +kernel⟩, fun _ _ _ _ _ _ us hl => match us, hl with | [_], _ => rfl, by kernel_rfl⟩
theorem d33 : ∃ (df : Df) (ps : List Str), ds[33]? = some df ∧ FnScope df.N ps df.scope ∧
    (∀ (kV doc pm : Value) (an : Option Addr) (cdv ct : Value) (us : List Value), us.length = ps.length → bindArgs (PySem.W.fnOf df.name df.qual df.params df.body df.scope .none kV doc pm an cdv ct) ⟨us, []⟩ = pure (ps.zip us)) ∧
    (⟨3, 4, b33⟩ : Fd) = ⟨ps.length, df.N.length, (lev evA gs 40).ss ⟨df.N, df.scope, fun _ => true, df.lam, df.re⟩ df.body⟩ :=
  ⟨_, [Str.ofString "self", Str.ofString "chart", Str.ofString "state"], rfl, ⟨rfl, rfl, rfl, by decide +kernel, by decide +kernel, by decide +kernel, by decide +kernel⟩, fun _ _ _ _ _ _ us hl => match us, hl with | [_, _, _], _ => rfl, by kernel_rfl⟩
theorem d34 : ∃ (df : Df) (ps : List Str), ds[34]? = some df ∧ FnScope df.N ps df.scope ∧
    (∀ (kV doc pm : Value) (an : Option Addr) (cdv ct : Value) (us : List Value), us.length = ps.length → bindArgs (PySem.W.fnOf df.name df.qual df.params df.body df.scope .none kV doc pm an cdv ct) ⟨us, []⟩ = pure (ps.zip us)) ∧
    (⟨3, 7, b34⟩ : Fd) = ⟨ps.length, df.N.length, (lev evA gs 40).ss ⟨df.N, df.scope, fun _ => true, df.lam, df.re⟩ df.body⟩ :=
  ⟨_, [Str.ofString "self", Str.ofString "chart", Str.ofString "state"], rfl, ⟨rfl, rfl, rfl, by decide +kernel, by decide +kernel, by decide +kernel, by decide +kernel⟩, fun _ _ _ _ _ _ us hl => match us, hl with | [_, _, _], _ => rfl, by kernel_rfl⟩
theorem d35 : ∃ (df : Df) (ps : List Str), ds[35]? = some df ∧ FnScope df.N ps df.scope ∧
    (∀ (kV doc pm : Value) (an : Option Addr) (cdv ct : Value) (us : List Value), us.length = ps.length → bindArgs (PySem.W.fnOf df.name df.qual df.params df.body df.scope .none kV doc pm an cdv ct) ⟨us, []⟩ = pure (ps.zip us)) ∧
    (⟨3, 8, b35⟩ : Fd) = ⟨ps.length, df.N.length, (lev evA gs 40).ss ⟨df.N, df.scope, fun _ => true, df.lam, df.re⟩ df.body⟩ :=
  ⟨_, [Str.ofString "self", Str.ofString "chart", Str.ofString "state"], rfl, ⟨rfl, rfl, rfl, by decide +kernel, by decide +kernel, by decide +kernel, by decide +kernel⟩, fun _ _ _ _ _ _ us hl => match us, hl with | [_, _, _], _ => rfl, by kernel_rfl⟩
theorem d36 : ∃ (df : Df) (ps : List Str), ds[36]? = some df ∧ FnScope df.N ps df.scope ∧
    (∀ (kV doc pm : Value) (an : Option Addr) (cdv ct : Value) (us : List Value), us.length = ps.length → bindArgs (PySem.W.fnOf df.name df.qual df.params df.body df.scope .none kV doc pm an cdv ct) ⟨us, []⟩ = pure (ps.zip us)) ∧
    (⟨2, 2, b36⟩ : Fd) = ⟨ps.length, df.N.length, (lev evA gs 40).ss ⟨df.N, df.scope, fun _ => true, df.lam, df.re⟩ df.body⟩ :=
  ⟨_, [Str.ofString "self", Str.ofString "states"], rfl, ⟨rfl, rfl, rfl, by decide +kernel, by decide +kernel, by decide +kernel, by decide +kernel⟩, fun _ _ _ _ _ _ us hl => match us, hl with | [_, _], _ => rfl, by kernel_rfl⟩
theorem d37 : ∃ (df : Df) (ps : List Str), ds[37]? = some df ∧ FnScope df.N ps df.scope ∧
    (∀ (kV doc pm : Value) (an : Option Addr) (cdv ct : Value) (us : List Value), us.length = ps.length → bindArgs (PySem.W.fnOf df.name df.qual df.params df.body df.scope .none kV doc pm an cdv ct) ⟨us, []⟩ = pure (ps.zip us)) ∧
    (⟨1, 1, b37⟩ : Fd) = ⟨ps.length, df.N.length, (lev evA gs 40).ss ⟨df.N, df.scope, fun _ => true, df.lam, df.re⟩ df.body⟩ :=
  ⟨_, [Str.ofString "self"], rfl, ⟨rfl, rfl, rfl, by decide +kernel, by decide +kernel, by decide +kernel, by decide +kernel⟩, fun _ _ _ _ _ _ us hl => match us, hl with | [_], _ => rfl, by kernel_rfl⟩
theorem d38 : ∃ (df : Df) (ps : List Str), ds[38]? = some df ∧ FnScope df.N ps df.scope ∧
    (∀ (kV doc pm : Value) (an : Option Addr) (cdv ct : Value) (us : List Value), us.length = ps.length → bindArgs (PySem.W.fnOf df.name df.qual df.params df.body df.scope .none kV doc pm an cdv ct) ⟨us, []⟩ = pure (ps.zip us)) ∧
    (⟨2, 2, b38⟩ : Fd) = ⟨ps.length, df.N.length, (lev evA gs 40).ss ⟨df.N, df.scope, fun _ => true, df.lam, df.re⟩ df.body⟩ :=
  ⟨_, [Str.ofString "self", Str.ofString "other"], rfl, ⟨rfl, rfl, rfl, by decide +kernel, by decide +kernel, by decide +kernel, by decide +kernel⟩, fun _ _ _ _ _ _ us hl => match us, hl with | [_, _], _ => rfl, by kernel_rfl⟩
theorem d39 : ∃ (df : Df) (ps : List Str), ds[39]? = some df ∧ FnScope df.N ps df.scope ∧
    (∀ (kV doc pm : Value) (an : Option Addr) (cdv ct : Value) (us : List Value), us.length = ps.length → bindArgs (PySem.W.fnOf df.name df.qual df.params df.body df.scope .none kV doc pm an cdv ct) ⟨us, []⟩ = pure (ps.zip us)) ∧
    (⟨3, 7, b39⟩ : Fd) = ⟨ps.length, df.N.length, (lev evA gs 40).ss ⟨df.N, df.scope, fun _ => true, df.lam, df.re⟩ df.body⟩ :=
  ⟨_, [Str.ofString "self", Str.ofString "chart", Str.ofString "state"], rfl, ⟨rfl, rfl, rfl, by decide +kernel, by decide +kernel, by decide +kernel, by decide +kernel⟩, fun _ _ _ _ _ _ us hl => match us, hl with | [_, _, _], _ => rfl, by kernel_rfl⟩
theorem d40 : ∃ (df : Df) (ps : List Str), ds[40]? = some df ∧ FnScope df.N ps df.scope ∧
    (∀ (kV doc pm : Value) (an : Option Addr) (cdv ct : Value) (us : List Value), us.length = ps.length → bindArgs (PySem.W.fnOf df.name df.qual df.params df.body df.scope .none kV doc pm an cdv ct) ⟨us, []⟩ = pure (ps.zip us)) ∧
    (⟨2, 8, b40⟩ : Fd) = ⟨ps.length, df.N.length, (lev evA gs 40).ss ⟨df.N, df.scope, fun _ => true, df.lam, df.re⟩ df.body⟩ :=
  ⟨_, [Str.ofString "chart", Str.ofString "state"], rfl, ⟨rfl, rfl, rfl, by decide +kernel, by decide +kernel, by decide +kernel, by decide +kernel⟩, fun _ _ _ _ _ _ us hl => match us, hl with | [_, _], _ => rfl, by kernel_rfl⟩
theorem d41 : ∃ (df : Df) (ps : List Str), ds[41]? = some df ∧ FnScope df.N ps df.scope ∧
    (∀ (kV doc pm : Value) (an : Option Addr) (cdv ct : Value) (us : List Value), us.length = ps.length → bindArgs (PySem.W.fnOf df.name df.qual df.params df.body df.scope .none kV doc pm an cdv ct) ⟨us, []⟩ = pure (ps.zip us)) ∧
    (⟨2, 2, b41⟩ : Fd) = ⟨ps.length, df.N.length, (lev evA gs 40).ss ⟨df.N, df.scope, fun _ => true, df.lam, df.re⟩ df.body⟩ :=
  ⟨_, [Str.ofString "chart", Str.ofString "state"], rfl, ⟨rfl, rfl, rfl, by decide +kernel, by decide +kernel, by decide +kernel, by decide +kernel⟩, fun _ _ _ _ _ _ us hl => match us, hl with | [_, _], _ => rfl, by kernel_rfl⟩
theorem d42 : ∃ (df : Df) (ps : List Str), ds[42]? = some df ∧ FnScope df.N ps df.scope ∧
    (∀ (kV doc pm : Value) (an : Option Addr) (cdv ct : Value) (us : List Value), us.length = ps.length → bindArgs (PySem.W.fnOf df.name df.qual df.params df.body df.scope .none kV doc pm an cdv ct) ⟨us, []⟩ = pure (ps.zip us)) ∧
    (⟨2, 2, b42⟩ : Fd) = ⟨ps.length, df.N.length, (lev evA gs 40).ss ⟨df.N, df.scope, fun _ => true, df.lam, df.re⟩ df.body⟩ :=
  ⟨_, [Str.ofString "chart", Str.ofString "state"], rfl, ⟨rfl, rfl, rfl, by decide +kernel, by decide +kernel, by decide +kernel, by decide +kernel⟩, fun _ _ _ _ _ _ us hl => match us, hl with | [_, _], _ => rfl, by kernel_rfl⟩
theorem d43 : ∃ (df : Df) (ps : List Str), ds[43]? = some df ∧ FnScope df.N ps df.scope ∧
    (∀ (kV doc pm : Value) (an : Option Addr) (cdv ct : Value) (us : List Value), us.length = ps.length → bindArgs (PySem.W.fnOf df.name df.qual df.params df.body df.scope .none kV doc pm an cdv ct) ⟨us, []⟩ = pure (ps.zip us)) ∧
    (⟨2, 2, b43⟩ : Fd) = ⟨ps.length, df.N.length, (lev evA gs 40).ss ⟨df.N, df.scope, fun _ => true, df.lam, df.re⟩ df.body⟩ :=
  ⟨_, [Str.ofString "chart", Str.ofString "state"], rfl, ⟨rfl, rfl, rfl, by decide +kernel, by decide +kernel, by decide +kernel, by decide +kernel⟩, fun _ _ _ _ _ _ us hl => match us, hl with | [_, _], _ => rfl, by kernel_rfl⟩
theorem d44 : ∃ (df : Df) (ps : List Str), ds[44]? = some df ∧ FnScope df.N ps df.scope ∧
    (∀ (kV doc pm : Value) (an : Option Addr) (cdv ct : Value) (us : List Value), us.length = ps.length → bindArgs (PySem.W.fnOf df.name df.qual df.params df.body df.scope .none kV doc pm an cdv ct) ⟨us, []⟩ = pure (ps.zip us)) ∧
    (⟨2, 5, b44⟩ : Fd) = ⟨ps.length, df.N.length, (lev evA gs 40).ss ⟨df.N, df.scope, fun _ => true, df.lam, df.re⟩ df.body⟩ :=
  ⟨_, [Str.ofString "chart", Str.ofString "place"], rfl, ⟨rfl, rfl, rfl, by decide +kernel, by decide +kernel, by decide +kernel, by decide +kernel⟩, fun _ _ _ _ _ _ us hl => match us, hl with | [_, _], _ => rfl, by kernel_rfl⟩
theorem d45 : ∃ (df : Df) (ps : List Str), ds[45]? = some df ∧ FnScope df.N ps df.scope ∧
    (∀ (kV doc pm : Value) (an : Option Addr) (cdv ct : Value) (us : List Value), us.length = ps.length → bindArgs (PySem.W.fnOf df.name df.qual df.params df.body df.scope .none kV doc pm an cdv ct) ⟨us, []⟩ = pure (ps.zip us)) ∧
    (⟨2, 2, b45⟩ : Fd) = ⟨ps.length, df.N.length, (lev evA gs 40).ss ⟨df.N, df.scope, fun _ => true, df.lam, df.re⟩ df.body⟩ :=
  ⟨_, [Str.ofString "chart", Str.ofString "road"], rfl, ⟨rfl, rfl, rfl, by decide +kernel, by decide +kernel, by decide +kernel, by decide +kernel⟩, fun _ _ _ _ _ _ us hl => match us, hl with | [_, _], _ => rfl, by kernel_rfl⟩
theorem d46 : ∃ (df : Df) (ps : List Str), ds[46]? = some df ∧ FnScope df.N ps df.scope ∧
    (∀ (kV doc pm : Value) (an : Option Addr) (cdv ct : Value) (us : List Value), us.length = ps.length → bindArgs (PySem.W.fnOf df.name df.qual df.params df.body df.scope .none kV doc pm an cdv ct) ⟨us, []⟩ = pure (ps.zip us)) ∧
    (⟨2, 6, b46⟩ : Fd) = ⟨ps.length, df.N.length, (lev evA gs 40).ss ⟨df.N, df.scope, fun _ => true, df.lam, df.re⟩ df.body⟩ :=
  ⟨_, [Str.ofString "chart", Str.ofString "route"], rfl, ⟨rfl, rfl, rfl, by decide +kernel, by decide +kernel, by decide +kernel, by decide +kernel⟩, fun _ _ _ _ _ _ us hl => match us, hl with | [_, _], _ => rfl, by kernel_rfl⟩
theorem d47 : ∃ (df : Df) (ps : List Str), ds[47]? = some df ∧ FnScope df.N ps df.scope ∧
    (∀ (kV doc pm : Value) (an : Option Addr) (cdv ct : Value) (us : List Value), us.length = ps.length → bindArgs (PySem.W.fnOf df.name df.qual df.params df.body df.scope .none kV doc pm an cdv ct) ⟨us, []⟩ = pure (ps.zip us)) ∧
    (⟨2, 3, b47⟩ : Fd) = ⟨ps.length, df.N.length, (lev evA gs 40).ss ⟨df.N, df.scope, fun _ => true, df.lam, df.re⟩ df.body⟩ :=
  ⟨_, [Str.ofString "chart", Str.ofString "plan"], rfl, ⟨rfl, rfl, rfl, by decide +kernel, by decide +kernel, by decide +kernel, by decide +kernel⟩, fun _ _ _ _ _ _ us hl => match us, hl with | [_, _], _ => rfl, by kernel_rfl⟩
theorem d48 : ∃ (df : Df) (ps : List Str), ds[48]? = some df ∧ FnScope df.N ps df.scope ∧
    (∀ (kV doc pm : Value) (an : Option Addr) (cdv ct : Value) (us : List Value), us.length = ps.length → bindArgs (PySem.W.fnOf df.name df.qual df.params df.body df.scope .none kV doc pm an cdv ct) ⟨us, []⟩ = pure (ps.zip us)) ∧
    (⟨1, 5, b48⟩ : Fd) = ⟨ps.length, df.N.length, (lev evA gs 40).ss ⟨df.N, df.scope, fun _ => true, df.lam, df.re⟩ df.body⟩ :=
  ⟨_, [Str.ofString "chart"], rfl, ⟨rfl, rfl, rfl, by decide +kernel, by decide +kernel, by decide +kernel, by decide +kernel⟩, fun _ _ _ _ _ _ us hl => match us, hl with | [_], _ => rfl, by kernel_rfl⟩
theorem d49 : ∃ (df : Df) (ps : List Str), ds[49]? = some df ∧ FnScope df.N ps df.scope ∧
    (∀ (kV doc pm : Value) (an : Option Addr) (cdv ct : Value) (us : List Value), us.length = ps.length → bindArgs (PySem.W.fnOf df.name df.qual df.params df.body df.scope .none kV doc pm an cdv ct) ⟨us, []⟩ = pure (ps.zip us)) ∧
    (⟨1, 4, b49⟩ : Fd) = ⟨ps.length, df.N.length, (lev evA gs 40).ss ⟨df.N, df.scope, fun _ => true, df.lam, df.re⟩ df.body⟩ :=
  ⟨_, [Str.ofString "chart"], rfl, ⟨rfl, rfl, rfl, by decide +kernel, by decide +kernel, by decide +kernel, by decide +kernel⟩, fun _ _ _ _ _ _ us hl => match us, hl with | [_], _ => rfl, by kernel_rfl⟩
theorem d50 : ∃ (df : Df) (ps : List Str), ds[50]? = some df ∧ FnScope df.N ps df.scope ∧
    (∀ (kV doc pm : Value) (an : Option Addr) (cdv ct : Value) (us : List Value), us.length = ps.length → bindArgs (PySem.W.fnOf df.name df.qual df.params df.body df.scope .none kV doc pm an cdv ct) ⟨us, []⟩ = pure (ps.zip us)) ∧
    (⟨2, 2, b50⟩ : Fd) = ⟨ps.length, df.N.length, (lev evA gs 40).ss ⟨df.N, df.scope, fun _ => true, df.lam, df.re⟩ df.body⟩ :=
  ⟨_, [Str.ofString "chart", Str.ofString "value"], rfl, ⟨rfl, rfl, rfl, by decide +kernel, by decide +kernel, by decide +kernel, by decide +kernel⟩, fun _ _ _ _ _ _ us hl => match us, hl with | [_, _], _ => rfl, by kernel_rfl⟩
theorem d51 : ∃ (df : Df) (ps : List Str), ds[51]? = some df ∧ FnScope df.N ps df.scope ∧
    (∀ (kV doc pm : Value) (an : Option Addr) (cdv ct : Value) (us : List Value), us.length = ps.length → bindArgs (PySem.W.fnOf df.name df.qual df.params df.body df.scope .none kV doc pm an cdv ct) ⟨us, []⟩ = pure (ps.zip us)) ∧
    (⟨2, 5, b51⟩ : Fd) = ⟨ps.length, df.N.length, (lev evA gs 40).ss ⟨df.N, df.scope, fun _ => true, df.lam, df.re⟩ df.body⟩ :=
  ⟨_, [Str.ofString "chart", Str.ofString "value"], rfl, ⟨rfl, rfl, rfl, by decide +kernel, by decide +kernel, by decide +kernel, by decide +kernel⟩, fun _ _ _ _ _ _ us hl => match us, hl with | [_, _], _ => rfl, by kernel_rfl⟩
theorem d52 : ∃ (df : Df) (ps : List Str), ds[52]? = some df ∧ FnScope df.N ps df.scope ∧
    (∀ (kV doc pm : Value) (an : Option Addr) (cdv ct : Value) (us : List Value), us.length = ps.length → bindArgs (PySem.W.fnOf df.name df.qual df.params df.body df.scope .none kV doc pm an cdv ct) ⟨us, []⟩ = pure (ps.zip us)) ∧
    (⟨3, 11, b52⟩ : Fd) = ⟨ps.length, df.N.length, (lev evA gs 40).ss ⟨df.N, df.scope, fun _ => true, df.lam, df.re⟩ df.body⟩ :=
  ⟨_, [Str.ofString "chart", Str.ofString "plan", Str.ofString "delay"], rfl, ⟨rfl, rfl, rfl, by decide +kernel, by decide +kernel, by decide +kernel, by decide +kernel⟩, fun _ _ _ _ _ _ us hl => match us, hl with | [_, _, _], _ => rfl, by kernel_rfl⟩
theorem d53 : ∃ (df : Df) (ps : List Str), ds[53]? = some df ∧ FnScope df.N ps df.scope ∧
    (∀ (kV doc pm : Value) (an : Option Addr) (cdv ct : Value) (us : List Value), us.length = ps.length → bindArgs (PySem.W.fnOf df.name df.qual df.params df.body df.scope .none kV doc pm an cdv ct) ⟨us, []⟩ = pure (ps.zip us)) ∧
    (⟨2, 6, b53⟩ : Fd) = ⟨ps.length, df.N.length, (lev evA gs 40).ss ⟨df.N, df.scope, fun _ => true, df.lam, df.re⟩ df.body⟩ :=
  ⟨_, [Str.ofString "many", Str.ofString "late"], rfl, ⟨rfl, rfl, rfl, by decide +kernel, by decide +kernel, by decide +kernel, by decide +kernel⟩, fun _ _ _ _ _ _ us hl => match us, hl with | [_, _], _ => rfl, by kernel_rfl⟩
theorem d54 : ∃ (df : Df) (ps : List Str), ds[54]? = some df ∧ FnScope df.N ps df.scope ∧
    (∀ (kV doc pm : Value) (an : Option Addr) (cdv ct : Value) (us : List Value), us.length = ps.length → bindArgs (PySem.W.fnOf df.name df.qual df.params df.body df.scope .none kV doc pm an cdv ct) ⟨us, []⟩ = pure (ps.zip us)) ∧
    (⟨3, 4, b54⟩ : Fd) = ⟨ps.length, df.N.length, (lev evA gs 40).ss ⟨df.N, df.scope, fun _ => true, df.lam, df.re⟩ df.body⟩ :=
  ⟨_, [Str.ofString "plan", Str.ofString "late", Str.ofString "value"], rfl, ⟨rfl, rfl, rfl, by decide +kernel, by decide +kernel, by decide +kernel, by decide +kernel⟩, fun _ _ _ _ _ _ us hl => match us, hl with | [_, _, _], _ => rfl, by kernel_rfl⟩
theorem d55 : ∃ (df : Df) (ps : List Str), ds[55]? = some df ∧ FnScope df.N ps df.scope ∧
    (∀ (kV doc pm : Value) (an : Option Addr) (cdv ct : Value) (us : List Value), us.length = ps.length → bindArgs (PySem.W.fnOf df.name df.qual df.params df.body df.scope .none kV doc pm an cdv ct) ⟨us, []⟩ = pure (ps.zip us)) ∧
    (⟨3, 4, b55⟩ : Fd) = ⟨ps.length, df.N.length, (lev evA gs 40).ss ⟨df.N, df.scope, fun _ => true, df.lam, df.re⟩ df.body⟩ :=
  ⟨_, [Str.ofString "chart", Str.ofString "plan", Str.ofString "late"], rfl, ⟨rfl, rfl, rfl, by decide +kernel, by decide +kernel, by decide +kernel, by decide +kernel⟩, fun _ _ _ _ _ _ us hl => match us, hl with | [_, _, _], _ => rfl, by kernel_rfl⟩
theorem d56 : ∃ (df : Df) (ps : List Str), ds[56]? = some df ∧ FnScope df.N ps df.scope ∧
    (∀ (kV doc pm : Value) (an : Option Addr) (cdv ct : Value) (us : List Value), us.length = ps.length → bindArgs (PySem.W.fnOf df.name df.qual df.params df.body df.scope .none kV doc pm an cdv ct) ⟨us, []⟩ = pure (ps.zip us)) ∧
    (⟨4, 5, b56⟩ : Fd) = ⟨ps.length, df.N.length, (lev evA gs 40).ss ⟨df.N, df.scope, fun _ => true, df.lam, df.re⟩ df.body⟩ :=
  ⟨_, [Str.ofString "chart", Str.ofString "late", Str.ofString "doubts", Str.ofString "due"], rfl, ⟨rfl, rfl, rfl, by decide +kernel, by decide +kernel, by decide +kernel, by decide +kernel⟩, fun _ _ _ _ _ _ us hl => match us, hl with | [_, _, _, _], _ => rfl, by kernel_rfl⟩
theorem d57 : ∃ (df : Df) (ps : List Str), ds[57]? = some df ∧ FnScope df.N ps df.scope ∧
    (∀ (kV doc pm : Value) (an : Option Addr) (cdv ct : Value) (us : List Value), us.length = ps.length → bindArgs (PySem.W.fnOf df.name df.qual df.params df.body df.scope .none kV doc pm an cdv ct) ⟨us, []⟩ = pure (ps.zip us)) ∧
    (⟨3, 3, b57⟩ : Fd) = ⟨ps.length, df.N.length, (lev evA gs 40).ss ⟨df.N, df.scope, fun _ => true, df.lam, df.re⟩ df.body⟩ :=
  ⟨_, [Str.ofString "self", Str.ofString "plan", Str.ofString "doubts"], rfl, ⟨rfl, rfl, rfl, by decide +kernel, by decide +kernel, by decide +kernel, by decide +kernel⟩, fun _ _ _ _ _ _ us hl => match us, hl with | [_, _, _], _ => rfl, by kernel_rfl⟩
theorem d58 : ∃ (df : Df) (ps : List Str), ds[58]? = some df ∧ FnScope df.N ps df.scope ∧
    (∀ (kV doc pm : Value) (an : Option Addr) (cdv ct : Value) (us : List Value), us.length = ps.length → bindArgs (PySem.W.fnOf df.name df.qual df.params df.body df.scope .none kV doc pm an cdv ct) ⟨us, []⟩ = pure (ps.zip us)) ∧
    (⟨1, 1, b58⟩ : Fd) = ⟨ps.length, df.N.length, (lev evA gs 40).ss ⟨df.N, df.scope, fun _ => true, df.lam, df.re⟩ df.body⟩ :=
  ⟨_, [Str.ofString "self"], rfl, ⟨rfl, rfl, rfl, by decide +kernel, by decide +kernel, by decide +kernel, by decide +kernel⟩, fun _ _ _ _ _ _ us hl => match us, hl with | [_], _ => rfl, by kernel_rfl⟩
theorem d59 : ∃ (df : Df) (ps : List Str), ds[59]? = some df ∧ FnScope df.N ps df.scope ∧
    (∀ (kV doc pm : Value) (an : Option Addr) (cdv ct : Value) (us : List Value), us.length = ps.length → bindArgs (PySem.W.fnOf df.name df.qual df.params df.body df.scope .none kV doc pm an cdv ct) ⟨us, []⟩ = pure (ps.zip us)) ∧
    (⟨2, 2, b59⟩ : Fd) = ⟨ps.length, df.N.length, (lev evA gs 40).ss ⟨df.N, df.scope, fun _ => true, df.lam, df.re⟩ df.body⟩ :=
  ⟨_, [Str.ofString "self", Str.ofString "other"], rfl, ⟨rfl, rfl, rfl, by decide +kernel, by decide +kernel, by decide +kernel, by decide +kernel⟩, fun _ _ _ _ _ _ us hl => match us, hl with | [_, _], _ => rfl, by kernel_rfl⟩
theorem d60 : ∃ (df : Df) (ps : List Str), ds[60]? = some df ∧ FnScope df.N ps df.scope ∧
    (∀ (kV doc pm : Value) (an : Option Addr) (cdv ct : Value) (us : List Value), us.length = ps.length → bindArgs (PySem.W.fnOf df.name df.qual df.params df.body df.scope .none kV doc pm an cdv ct) ⟨us, []⟩ = pure (ps.zip us)) ∧
    (⟨3, 5, b60⟩ : Fd) = ⟨ps.length, df.N.length, (lev evA gs 40).ss ⟨df.N, df.scope, fun _ => true, df.lam, df.re⟩ df.body⟩ :=
  ⟨_, [Str.ofString "self", Str.ofString "chart", Str.ofString "late"], rfl, ⟨rfl, rfl, rfl, by decide +kernel, by decide +kernel, by decide +kernel, by decide +kernel⟩, fun _ _ _ _ _ _ us hl => match us, hl with | [_, _, _], _ => rfl, by kernel_rfl⟩
theorem d61 : ∃ (df : Df) (ps : List Str), ds[61]? = some df ∧ FnScope df.N ps df.scope ∧
    (∀ (kV doc pm : Value) (an : Option Addr) (cdv ct : Value) (us : List Value), us.length = ps.length → bindArgs (PySem.W.fnOf df.name df.qual df.params df.body df.scope .none kV doc pm an cdv ct) ⟨us, []⟩ = pure (ps.zip us)) ∧
    (⟨2, 2, b61⟩ : Fd) = ⟨ps.length, df.N.length, (lev evA gs 40).ss ⟨df.N, df.scope, fun _ => true, df.lam, df.re⟩ df.body⟩ :=
  ⟨_, [Str.ofString "self", Str.ofString "doubts"], rfl, ⟨rfl, rfl, rfl, by decide +kernel, by decide +kernel, by decide +kernel, by decide +kernel⟩, fun _ _ _ _ _ _ us hl => match us, hl with | [_, _], _ => rfl, by kernel_rfl⟩
theorem d62 : ∃ (df : Df) (ps : List Str), ds[62]? = some df ∧ FnScope df.N ps df.scope ∧
    (∀ (kV doc pm : Value) (an : Option Addr) (cdv ct : Value) (us : List Value), us.length = ps.length → bindArgs (PySem.W.fnOf df.name df.qual df.params df.body df.scope .none kV doc pm an cdv ct) ⟨us, []⟩ = pure (ps.zip us)) ∧
    (⟨1, 1, b62⟩ : Fd) = ⟨ps.length, df.N.length, (lev evA gs 40).ss ⟨df.N, df.scope, fun _ => true, df.lam, df.re⟩ df.body⟩ :=
  ⟨_, [Str.ofString "self"], rfl, ⟨rfl, rfl, rfl, by decide +kernel, by decide +kernel, by decide +kernel, by decide +kernel⟩, fun _ _ _ _ _ _ us hl => match us, hl with | [_], _ => rfl, by kernel_rfl⟩
theorem d63 : ∃ (df : Df) (ps : List Str), ds[63]? = some df ∧ FnScope df.N ps df.scope ∧
    (∀ (kV doc pm : Value) (an : Option Addr) (cdv ct : Value) (us : List Value), us.length = ps.length → bindArgs (PySem.W.fnOf df.name df.qual df.params df.body df.scope .none kV doc pm an cdv ct) ⟨us, []⟩ = pure (ps.zip us)) ∧
    (⟨2, 2, b63⟩ : Fd) = ⟨ps.length, df.N.length, (lev evA gs 40).ss ⟨df.N, df.scope, fun _ => true, df.lam, df.re⟩ df.body⟩ :=
  ⟨_, [Str.ofString "self", Str.ofString "other"], rfl, ⟨rfl, rfl, rfl, by decide +kernel, by decide +kernel, by decide +kernel, by decide +kernel⟩, fun _ _ _ _ _ _ us hl => match us, hl with | [_, _], _ => rfl, by kernel_rfl⟩
theorem d64 : ∃ (df : Df) (ps : List Str), ds[64]? = some df ∧ FnScope df.N ps df.scope ∧
    (∀ (kV doc pm : Value) (an : Option Addr) (cdv ct : Value) (us : List Value), us.length = ps.length → bindArgs (PySem.W.fnOf df.name df.qual df.params df.body df.scope .none kV doc pm an cdv ct) ⟨us, []⟩ = pure (ps.zip us)) ∧
    (⟨3, 3, b64⟩ : Fd) = ⟨ps.length, df.N.length, (lev evA gs 40).ss ⟨df.N, df.scope, fun _ => true, df.lam, df.re⟩ df.body⟩ :=
  ⟨_, [Str.ofString "self", Str.ofString "chart", Str.ofString "late"], rfl, ⟨rfl, rfl, rfl, by decide +kernel, by decide +kernel, by decide +kernel, by decide +kernel⟩, fun _ _ _ _ _ _ us hl => match us, hl with | [_, _, _], _ => rfl, by kernel_rfl⟩
theorem d65 : ∃ (df : Df) (ps : List Str), ds[65]? = some df ∧ FnScope df.N ps df.scope ∧
    (∀ (kV doc pm : Value) (an : Option Addr) (cdv ct : Value) (us : List Value), us.length = ps.length → bindArgs (PySem.W.fnOf df.name df.qual df.params df.body df.scope .none kV doc pm an cdv ct) ⟨us, []⟩ = pure (ps.zip us)) ∧
    (⟨2, 2, b65⟩ : Fd) = ⟨ps.length, df.N.length, (lev evA gs 40).ss ⟨df.N, df.scope, fun _ => true, df.lam, df.re⟩ df.body⟩ :=
  ⟨_, [Str.ofString "chart", Str.ofString "late"], rfl, ⟨rfl, rfl, rfl, by decide +kernel, by decide +kernel, by decide +kernel, by decide +kernel⟩, fun _ _ _ _ _ _ us hl => match us, hl with | [_, _], _ => rfl, by kernel_rfl⟩
theorem d66 : ∃ (df : Df) (ps : List Str), ds[66]? = some df ∧ FnScope df.N ps df.scope ∧
    (∀ (kV doc pm : Value) (an : Option Addr) (cdv ct : Value) (us : List Value), us.length = ps.length → bindArgs (PySem.W.fnOf df.name df.qual df.params df.body df.scope .none kV doc pm an cdv ct) ⟨us, []⟩ = pure (ps.zip us)) ∧
    (⟨1, 1, b66⟩ : Fd) = ⟨ps.length, df.N.length, (lev evA gs 40).ss ⟨df.N, df.scope, fun _ => true, df.lam, df.re⟩ df.body⟩ :=
  ⟨_, [Str.ofString "chart"], rfl, ⟨rfl, rfl, rfl, by decide +kernel, by decide +kernel, by decide +kernel, by decide +kernel⟩, fun _ _ _ _ _ _ us hl => match us, hl with | [_], _ => rfl, by kernel_rfl⟩
theorem d67 : ∃ (df : Df) (ps : List Str), ds[67]? = some df ∧ FnScope df.N ps df.scope ∧
    (∀ (kV doc pm : Value) (an : Option Addr) (cdv ct : Value) (us : List Value), us.length = ps.length → bindArgs (PySem.W.fnOf df.name df.qual df.params df.body df.scope .none kV doc pm an cdv ct) ⟨us, []⟩ = pure (ps.zip us)) ∧
    (⟨3, 3, b67⟩ : Fd) = ⟨ps.length, df.N.length, (lev evA gs 40).ss ⟨df.N, df.scope, fun _ => true, df.lam, df.re⟩ df.body⟩ :=
  ⟨_, [Str.ofString "chart", Str.ofString "plan", Str.ofString "late"], rfl, ⟨rfl, rfl, rfl, by decide +kernel, by decide +kernel, by decide +kernel, by decide +kernel⟩, fun _ _ _ _ _ _ us hl => match us, hl with | [_, _, _], _ => rfl, by kernel_rfl⟩
theorem d68 : ∃ (df : Df) (ps : List Str), ds[68]? = some df ∧ FnScope df.N ps df.scope ∧
    (∀ (kV doc pm : Value) (an : Option Addr) (cdv ct : Value) (us : List Value), us.length = ps.length → bindArgs (PySem.W.fnOf df.name df.qual df.params df.body df.scope .none kV doc pm an cdv ct) ⟨us, []⟩ = pure (ps.zip us)) ∧
    (⟨2, 8, b68⟩ : Fd) = ⟨ps.length, df.N.length, (lev evA gs 40).ss ⟨df.N, df.scope, fun _ => true, df.lam, df.re⟩ df.body⟩ :=
  ⟨_, [Str.ofString "chart", Str.ofString "late"], rfl, ⟨rfl, rfl, rfl, by decide +kernel, by decide +kernel, by decide +kernel, by decide +kernel⟩, fun _ _ _ _ _ _ us hl => match us, hl with | [_, _], _ => rfl, by kernel_rfl⟩
theorem d69 : ∃ (df : Df) (ps : List Str), ds[69]? = some df ∧ FnScope df.N ps df.scope ∧
    (∀ (kV doc pm : Value) (an : Option Addr) (cdv ct : Value) (us : List Value), us.length = ps.length → bindArgs (PySem.W.fnOf df.name df.qual df.params df.body df.scope .none kV doc pm an cdv ct) ⟨us, []⟩ = pure (ps.zip us)) ∧
    (⟨2, 3, b69⟩ : Fd) = ⟨ps.length, df.N.length, (lev evA gs 40).ss ⟨df.N, df.scope, fun _ => true, df.lam, df.re⟩ df.body⟩ :=
  ⟨_, [Str.ofString "chart", Str.ofString "late"], rfl, ⟨rfl, rfl, rfl, by decide +kernel, by decide +kernel, by decide +kernel, by decide +kernel⟩, fun _ _ _ _ _ _ us hl => match us, hl with | [_, _], _ => rfl, by kernel_rfl⟩
theorem d70 : ∃ (df : Df) (ps : List Str), ds[70]? = some df ∧ FnScope df.N ps df.scope ∧
    (∀ (kV doc pm : Value) (an : Option Addr) (cdv ct : Value) (us : List Value), us.length = ps.length → bindArgs (PySem.W.fnOf df.name df.qual df.params df.body df.scope .none kV doc pm an cdv ct) ⟨us, []⟩ = pure (ps.zip us)) ∧
    (⟨2, 2, b70⟩ : Fd) = ⟨ps.length, df.N.length, (lev evA gs 40).ss ⟨df.N, df.scope, fun _ => true, df.lam, df.re⟩ df.body⟩ :=
  ⟨_, [Str.ofString "chart", Str.ofString "late"], rfl, ⟨rfl, rfl, rfl, by decide +kernel, by decide +kernel, by decide +kernel, by decide +kernel⟩, fun _ _ _ _ _ _ us hl => match us, hl with | [_, _], _ => rfl, by kernel_rfl⟩
theorem d71 : ∃ (df : Df) (ps : List Str), ds[71]? = some df ∧ FnScope df.N ps df.scope ∧
    (∀ (kV doc pm : Value) (an : Option Addr) (cdv ct : Value) (us : List Value), us.length = ps.length → bindArgs (PySem.W.fnOf df.name df.qual df.params df.body df.scope .none kV doc pm an cdv ct) ⟨us, []⟩ = pure (ps.zip us)) ∧
    (⟨1, 2, b71⟩ : Fd) = ⟨ps.length, df.N.length, (lev evA gs 40).ss ⟨df.N, df.scope, fun _ => true, df.lam, df.re⟩ df.body⟩ :=
  ⟨_, [Str.ofString "chart"], rfl, ⟨rfl, rfl, rfl, by decide +kernel, by decide +kernel, by decide +kernel, by decide +kernel⟩, fun _ _ _ _ _ _ us hl => match us, hl with | [_], _ => rfl, by kernel_rfl⟩
theorem d72 : ∃ (df : Df) (ps : List Str), ds[72]? = some df ∧ FnScope df.N ps df.scope ∧
    (∀ (kV doc pm : Value) (an : Option Addr) (cdv ct : Value) (us : List Value), us.length = ps.length → bindArgs (PySem.W.fnOf df.name df.qual df.params df.body df.scope .none kV doc pm an cdv ct) ⟨us, []⟩ = pure (ps.zip us)) ∧
    (⟨1, 6, b72⟩ : Fd) = ⟨ps.length, df.N.length, (lev evA gs 40).ss ⟨df.N, df.scope, fun _ => true, df.lam, df.re⟩ df.body⟩ :=
  ⟨_, [Str.ofString "chart"], rfl, ⟨rfl, rfl, rfl, by decide +kernel, by decide +kernel, by decide +kernel, by decide +kernel⟩, fun _ _ _ _ _ _ us hl => match us, hl with | [_], _ => rfl, by kernel_rfl⟩
theorem d73 : ∃ (df : Df) (ps : List Str), ds[73]? = some df ∧ FnScope df.N ps df.scope ∧
    (∀ (kV doc pm : Value) (an : Option Addr) (cdv ct : Value) (us : List Value), us.length = ps.length → bindArgs (PySem.W.fnOf df.name df.qual df.params df.body df.scope .none kV doc pm an cdv ct) ⟨us, []⟩ = pure (ps.zip us)) ∧
    (⟨2, 5, b73⟩ : Fd) = ⟨ps.length, df.N.length, (lev evA gs 40).ss ⟨df.N, df.scope, fun _ => true, df.lam, df.re⟩ df.body⟩ :=
  ⟨_, [Str.ofString "chart", Str.ofString "late"], rfl, ⟨rfl, rfl, rfl, by decide +kernel, by decide +kernel, by decide +kernel, by decide +kernel⟩, fun _ _ _ _ _ _ us hl => match us, hl with | [_, _], _ => rfl, by kernel_rfl⟩
theorem d74 : ∃ (df : Df) (ps : List Str), ds[74]? = some df ∧ FnScope df.N ps df.scope ∧
    (∀ (kV doc pm : Value) (an : Option Addr) (cdv ct : Value) (us : List Value), us.length = ps.length → bindArgs (PySem.W.fnOf df.name df.qual df.params df.body df.scope .none kV doc pm an cdv ct) ⟨us, []⟩ = pure (ps.zip us)) ∧
    (⟨1, 4, b74⟩ : Fd) = ⟨ps.length, df.N.length, (lev evA gs 40).ss ⟨df.N, df.scope, fun _ => true, df.lam, df.re⟩ df.body⟩ :=
  ⟨_, [Str.ofString "_law_line"], rfl, ⟨rfl, rfl, rfl, by decide +kernel, by decide +kernel, by decide +kernel, by decide +kernel⟩, fun _ _ _ _ _ _ us hl => match us, hl with | [_], _ => rfl, by kernel_rfl⟩
theorem d75 : ∃ (df : Df) (ps : List Str), ds[75]? = some df ∧ FnScope df.N ps df.scope ∧
    (∀ (kV doc pm : Value) (an : Option Addr) (cdv ct : Value) (us : List Value), us.length = ps.length → bindArgs (PySem.W.fnOf df.name df.qual df.params df.body df.scope .none kV doc pm an cdv ct) ⟨us, []⟩ = pure (ps.zip us)) ∧
    (⟨2, 12, b75⟩ : Fd) = ⟨ps.length, df.N.length, (lev evA gs 40).ss ⟨df.N, df.scope, fun _ => true, df.lam, df.re⟩ df.body⟩ :=
  ⟨_, [Str.ofString "_law_line", Str.ofString "_law_tight"], rfl, ⟨rfl, rfl, rfl, by decide +kernel, by decide +kernel, by decide +kernel, by decide +kernel⟩, fun _ _ _ _ _ _ us hl => match us, hl with | [_, _], _ => rfl, by kernel_rfl⟩
theorem d76 : ∃ (df : Df) (ps : List Str), ds[76]? = some df ∧ FnScope df.N ps df.scope ∧
    (∀ (kV doc pm : Value) (an : Option Addr) (cdv ct : Value) (us : List Value), us.length = ps.length → bindArgs (PySem.W.fnOf df.name df.qual df.params df.body df.scope .none kV doc pm an cdv ct) ⟨us, []⟩ = pure (ps.zip us)) ∧
    (⟨4, 7, b76⟩ : Fd) = ⟨ps.length, df.N.length, (lev evA gs 40).ss ⟨df.N, df.scope, fun _ => true, df.lam, df.re⟩ df.body⟩ :=
  ⟨_, [Str.ofString "_law_line", Str.ofString "_law_tight", Str.ofString "_law_start", Str.ofString "_law_late"], rfl, ⟨rfl, rfl, rfl, by decide +kernel, by decide +kernel, by decide +kernel, by decide +kernel⟩, fun _ _ _ _ _ _ us hl => match us, hl with | [_, _, _, _], _ => rfl, by kernel_rfl⟩
theorem d77 : ∃ (df : Df) (ps : List Str), ds[77]? = some df ∧ FnScope df.N ps df.scope ∧
    (∀ (kV doc pm : Value) (an : Option Addr) (cdv ct : Value) (us : List Value), us.length = ps.length → bindArgs (PySem.W.fnOf df.name df.qual df.params df.body df.scope .none kV doc pm an cdv ct) ⟨us, []⟩ = pure (ps.zip us)) ∧
    (⟨2, 6, b77⟩ : Fd) = ⟨ps.length, df.N.length, (lev evA gs 40).ss ⟨df.N, df.scope, fun _ => true, df.lam, df.re⟩ df.body⟩ :=
  ⟨_, [Str.ofString "_law_line", Str.ofString "_law_tight"], rfl, ⟨rfl, rfl, rfl, by decide +kernel, by decide +kernel, by decide +kernel, by decide +kernel⟩, fun _ _ _ _ _ _ us hl => match us, hl with | [_, _], _ => rfl, by kernel_rfl⟩
theorem d78 : ∃ (df : Df) (ps : List Str), ds[78]? = some df ∧ FnScope df.N ps df.scope ∧
    (∀ (kV doc pm : Value) (an : Option Addr) (cdv ct : Value) (us : List Value), us.length = ps.length → bindArgs (PySem.W.fnOf df.name df.qual df.params df.body df.scope .none kV doc pm an cdv ct) ⟨us, []⟩ = pure (ps.zip us)) ∧
    (⟨2, 5, b78⟩ : Fd) = ⟨ps.length, df.N.length, (lev evA gs 40).ss ⟨df.N, df.scope, fun _ => true, df.lam, df.re⟩ df.body⟩ :=
  ⟨_, [Str.ofString "_law_short", Str.ofString "_law_want"], rfl, ⟨rfl, rfl, rfl, by decide +kernel, by decide +kernel, by decide +kernel, by decide +kernel⟩, fun _ _ _ _ _ _ us hl => match us, hl with | [_, _], _ => rfl, by kernel_rfl⟩
theorem d79 : ∃ (df : Df) (ps : List Str), ds[79]? = some df ∧ FnScope df.N ps df.scope ∧
    (∀ (kV doc pm : Value) (an : Option Addr) (cdv ct : Value) (us : List Value), us.length = ps.length → bindArgs (PySem.W.fnOf df.name df.qual df.params df.body df.scope .none kV doc pm an cdv ct) ⟨us, []⟩ = pure (ps.zip us)) ∧
    (⟨1, 1, b79⟩ : Fd) = ⟨ps.length, df.N.length, (lev evA gs 40).ss ⟨df.N, df.scope, fun _ => true, df.lam, df.re⟩ df.body⟩ :=
  ⟨_, [Str.ofString "_law_line"], rfl, ⟨rfl, rfl, rfl, by decide +kernel, by decide +kernel, by decide +kernel, by decide +kernel⟩, fun _ _ _ _ _ _ us hl => match us, hl with | [_], _ => rfl, by kernel_rfl⟩
theorem d80 : ∃ (df : Df) (ps : List Str), ds[80]? = some df ∧ FnScope df.N ps df.scope ∧
    (∀ (kV doc pm : Value) (an : Option Addr) (cdv ct : Value) (us : List Value), us.length = ps.length → bindArgs (PySem.W.fnOf df.name df.qual df.params df.body df.scope .none kV doc pm an cdv ct) ⟨us, []⟩ = pure (ps.zip us)) ∧
    (⟨1, 4, b80⟩ : Fd) = ⟨ps.length, df.N.length, (lev evA gs 40).ss ⟨df.N, df.scope, fun _ => true, df.lam, df.re⟩ df.body⟩ :=
  ⟨_, [Str.ofString "_law_script"], rfl, ⟨rfl, rfl, rfl, by decide +kernel, by decide +kernel, by decide +kernel, by decide +kernel⟩, fun _ _ _ _ _ _ us hl => match us, hl with | [_], _ => rfl, by kernel_rfl⟩
theorem it0 : ItTx gs ds tab (3, 0, 37, Str.ofString "states") where
  df := by
    obtain ⟨df, ps, h1, h2, h3, h4⟩ := d37
    cases (show some _ = some df from h1)
    exact ⟨_, rfl, by kernel_rfl, ⟨rfl, rfl, rfl, by decide +kernel, by decide +kernel, by decide +kernel, by decide +kernel⟩, by kernel_rfl, fun _ _ _ _ _ _ us hl => match us, hl with | [_], _ => rfl⟩
  me := List.mem_flatMap.mpr ⟨(Str.ofString "__iter__", [(3, 37), (4, 58), (5, 62)]), look_mem (x := "__iter__") (by kernel_rfl), List.mem_map.mpr ⟨(3, 37), by decide +kernel, rfl⟩⟩
  sl := List.mem_flatMap.mpr ⟨(Str.ofString "states", [(3, .slot 0)]), look_mem (x := Str.ofString "states") (by kernel_rfl), List.mem_filterMap.mpr ⟨(3, .slot 0), by first | exact List.mem_cons_self | decide +kernel, rfl⟩⟩
  it := bt_mem (b := .iter) (by kernel_rfl)
theorem gsok : GsOk gs tab where
  fn := fun x f h => by
    have q : gs.roles.all (fun r => match r.2 with | .fn f => (nthF tab f).isSome | _ => true) = true := by kernel_rfl
    exact List.all_eq_true.mp q _ h
  bt := fun x b h => by
    have q : gs.roles.all (fun r => match r.2 with | .bt b => decide (r.1 = btName b) | _ => true) = true := by kernel_rfl
    exact of_decide_eq_true (List.all_eq_true.mp q _ h)
end HT
end

section
set_option Elab.async false
set_option linter.all false
set_option maxRecDepth 1000000
set_option maxHeartbeats 0
namespace HT
open PySem Ev
def o0 : Nat × Ob := (1, (.ins 0 [some (.tup [(.int 4), (.int 0)]), some (.tup [(.tup [(.int 0), (.int 1), (.int 2), (.int 1)]), (.tup [(.int 1), (.int 2), (.int 2), (.int 1)])]), some (.int 3), some (.tup [(.int 2), (.int 5), .non])]))
def o1 : Nat × Ob := (2, (.ins 0 [some (.tup [(.int 2), (.int 0)]), some (.tup [(.tup [(.int 0), (.int 1), (.int 2), (.int 1)]), (.tup [(.int 1), (.int 2), (.int 2), (.int 1)])]), some (.int 3), some (.tup [(.int 2), (.int 5), .non])]))
def k0 : List (Nat × Ob) := [o0, o1]
def e0 : Ev.Env := [some (.ref 1), none, none, none]
def e1 : Ev.Env := [some (.ref 1), some (.tup [(.int 0), (.int 0), (.int 0), (.int 1)]), none, none]
def o2 : Nat × Ob := (52, (.ins 0 [some (.tup [(.int 5), (.int 2)]), some (.tup [(.tup [(.int 0), (.int 1), (.int 3), (.int 2)])]), some (.int 2), some (.tup [(.int 1), .non])]))
def k1 : List (Nat × Ob) := [o0, o1, o2]
def e2 : Ev.Env := [some (.ref 1), some (.tup [(.int 0), (.int 0), (.int 0), (.int 1)]), some (.ref 52), none]
def o3 : Nat × Ob := (92, (.ins 0 [some (.tup [(.int 1), (.int 0)]), some (.tup [(.tup [(.int 0), (.int 1), (.int 2), (.int 0)])]), some (.int 2), some (.tup [.non, .non])]))
def k2 : List (Nat × Ob) := [o0, o1, o2, o3]
def e3 : Ev.Env := [some (.ref 1), some (.tup [(.int 0), (.int 0), (.int 0), (.int 1)]), some (.ref 52), some (.ref 92)]
def o4 : Nat × Ob := (209, (.dic [((.tup [(.int 0), (.int 0), (.int 0), (.int 0)]), (.int 8)), ((.tup [(.int 1), (.int 2), (.int 0), (.int 0)]), (.int 0)), ((.tup [(.int 2), (.int 0), (.int 0), (.int 0)]), (.int 0))]))
def o5 : Nat × Ob := (211, (.dic [((.tup [(.int 0), (.int 0), (.int 0), (.int 0)]), (.int 8)), ((.tup [(.int 1), (.int 0), (.int 0), (.int 0)]), (.int 10)), ((.tup [(.int 1), (.int 1), (.int 0), (.int 0)]), (.int 5))]))
def o6 : Nat × Ob := (213, (.dic []))
def o7 : Nat × Ob := (216, (.dic []))
def o8 : Nat × Ob := (220, (.dic [((.tup [(.int 0), (.int 0), (.int 0), (.int 0)]), (.int 8)), ((.tup [(.int 1), (.int 2), (.int 0), (.int 0)]), (.int 0))]))
def o9 : Nat × Ob := (224, (.dic [((.tup [(.int 0), (.int 0), (.int 0), (.int 0)]), (.int 8)), ((.tup [(.int 1), (.int 2), (.int 0), (.int 0)]), (.int 1)), ((.tup [(.int 2), (.int 0), (.int 0), (.int 0)]), (.int 0))]))
def o10 : Nat × Ob := (228, (.dic [((.tup [(.int 0), (.int 0), (.int 0), (.int 0)]), (.int 8)), ((.tup [(.int 1), (.int 2), (.int 0), (.int 0)]), (.int 0)), ((.tup [(.int 2), (.int 0), (.int 0), (.int 0)]), (.int (-1)))]))
def o11 : Nat × Ob := (232, (.dic [((.tup [(.int 0), (.int 0), (.int 0), (.int 0)]), (.int 8)), ((.tup [(.int 1), (.int 0), (.int 0), (.int 0)]), (.int 3)), ((.tup [(.int 1), (.int 1), (.int 0), (.int 0)]), (.int 5))]))
def o12 : Nat × Ob := (236, (.dic [((.tup [(.int 0), (.int 0), (.int 0), (.int 0)]), (.int 8)), ((.tup [(.int 1), (.int 0), (.int 0), (.int 0)]), (.int 4)), ((.tup [(.int 1), (.int 1), (.int 0), (.int 0)]), (.int 2))]))
def o13 : Nat × Ob := (240, (.dic [((.tup [(.int 0), (.int 0), (.int 0), (.int 0)]), (.int 8)), ((.tup [(.int 1), (.int 0), (.int 0), (.int 0)]), (.int 11)), ((.tup [(.int 1), (.int 1), (.int 0), (.int 0)]), (.int 5))]))
def o14 : Nat × Ob := (242, (.lst [(.tup [(.int 8), (.ref 209), (.ref 211), (.bl true)]), (.tup [(.int 7), (.ref 209), (.ref 211), (.bl false)]), (.tup [(.int 9), (.ref 209), (.ref 211), (.bl false)]), (.tup [(.int 8), (.ref 209), (.ref 213), (.bl false)]), (.tup [(.int 8), (.ref 216), (.ref 211), (.bl false)]), (.tup [(.int 8), (.ref 220), (.ref 211), (.bl false)]), (.tup [(.int 8), (.ref 224), (.ref 211), (.bl false)]), (.tup [(.int 8), (.ref 228), (.ref 211), (.bl false)]), (.tup [(.int 8), (.ref 209), (.ref 232), (.bl false)]), (.tup [(.int 8), (.ref 209), (.ref 236), (.bl true)]), (.tup [(.int 8), (.ref 209), (.ref 240), (.bl false)])]))
def o15 : Nat × Ob := (243, (.dic [((.tup [(.int 0), (.int 0), (.int 0), (.int 0)]), (.int 8)), ((.tup [(.int 1), (.int 0), (.int 0), (.int 0)]), (.int 10)), ((.tup [(.int 1), (.int 1), (.int 0), (.int 0)]), (.int 5)), ((.tup [(.int 2), (.int 0), (.int 0), (.int 0)]), (.int 1))]))
def k3 : List (Nat × Ob) := [o0, o1, o4, o5, o6, o7, o8, o9, o10, o11, o12, o13, o14, o15]
def e4 : Ev.Env := [some (.ref 1), some (.ref 2), some (.tup [(.int 0), (.int 0), (.int 0), (.int 0)]), some (.tup [(.int 0), (.int 0), (.int 0), (.int 1)]), none, none, none]
def o16 : Nat × Ob := (1262, (.ins 0 [some (.tup [(.int 2), (.int 0)]), some (.tup [(.tup [(.int 0), (.int 1), (.int 1), (.int 0)])]), some (.int 3), some (.tup [(.int 1), .non, .non])]))
def k4 : List (Nat × Ob) := [o0, o1, o4, o5, o6, o7, o8, o9, o10, o11, o12, o13, o14, o15, o16]
def e5 : Ev.Env := [some (.ref 1), some (.ref 2), some (.tup [(.int 0), (.int 0), (.int 0), (.int 0)]), some (.tup [(.int 0), (.int 0), (.int 0), (.int 1)]), some (.ref 1262), none, none]
def o17 : Nat × Ob := (1305, (.lst [(.tup [(.int 0), (.int 0), (.int 0), (.int 0)]), (.tup [(.int 1), (.int 0), (.int 0), (.int 0)]), (.tup [(.int 1), (.int 1), (.int 0), (.int 0)]), (.tup [(.int 1), (.int 2), (.int 0), (.int 0)])]))
def k5 : List (Nat × Ob) := [o0, o1, o4, o5, o6, o7, o8, o9, o10, o11, o12, o13, o14, o15, o16, o17]
def e6 : Ev.Env := [some (.ref 1), some (.ref 2), some (.tup [(.int 0), (.int 0), (.int 0), (.int 0)]), some (.tup [(.int 0), (.int 0), (.int 0), (.int 1)]), some (.ref 1262), some (.ref 1305), none]
def e7 : Ev.Env := [some (.ref 1), some (.ref 2), none, none, none, none, none, none, none, none, none, none]
def e8 : Ev.Env := [some (.ref 1), some (.ref 2), none, none, none, none, some (.tup [(.int 0), (.int 0), (.int 0), (.int 0)]), some (.tup [(.int 0), (.int 0), (.int 0), (.int 1)]), none, none, none, none]
def k6 : List (Nat × Ob) := [o0, o1, o4]
def e9 : Ev.Env := [some (.ref 1), some (.ref 2), some (.ref 209), none, none, none, some (.tup [(.int 0), (.int 0), (.int 0), (.int 0)]), some (.tup [(.int 0), (.int 0), (.int 0), (.int 1)]), none, none, none, none]
def k7 : List (Nat × Ob) := [o0, o1, o4, o5]
def e10 : Ev.Env := [some (.ref 1), some (.ref 2), some (.ref 209), some (.ref 211), none, none, some (.tup [(.int 0), (.int 0), (.int 0), (.int 0)]), some (.tup [(.int 0), (.int 0), (.int 0), (.int 1)]), none, none, none, none]
def o18 : Nat × Ob := (212, (.lst [(.tup [(.int 8), (.ref 209), (.ref 211), (.bl true)]), (.tup [(.int 7), (.ref 209), (.ref 211), (.bl false)])]))
def k8 : List (Nat × Ob) := [o0, o1, o4, o5, o18]
def e11 : Ev.Env := [some (.ref 1), some (.ref 2), some (.ref 209), some (.ref 211), some (.ref 212), none, some (.tup [(.int 0), (.int 0), (.int 0), (.int 0)]), some (.tup [(.int 0), (.int 0), (.int 0), (.int 1)]), none, none, none, none]
def o19 : Nat × Ob := (215, (.lst [(.tup [(.int 8), (.ref 209), (.ref 211), (.bl true)]), (.tup [(.int 7), (.ref 209), (.ref 211), (.bl false)]), (.tup [(.int 9), (.ref 209), (.ref 211), (.bl false)]), (.tup [(.int 8), (.ref 209), (.ref 213), (.bl false)])]))
def k9 : List (Nat × Ob) := [o0, o1, o4, o5, o6, o19]
def e12 : Ev.Env := [some (.ref 1), some (.ref 2), some (.ref 209), some (.ref 211), some (.ref 215), none, some (.tup [(.int 0), (.int 0), (.int 0), (.int 0)]), some (.tup [(.int 0), (.int 0), (.int 0), (.int 1)]), none, none, none, none]
def o20 : Nat × Ob := (218, (.lst [(.tup [(.int 8), (.ref 209), (.ref 211), (.bl true)]), (.tup [(.int 7), (.ref 209), (.ref 211), (.bl false)]), (.tup [(.int 9), (.ref 209), (.ref 211), (.bl false)]), (.tup [(.int 8), (.ref 209), (.ref 213), (.bl false)]), (.tup [(.int 8), (.ref 216), (.ref 211), (.bl false)])]))
def k10 : List (Nat × Ob) := [o0, o1, o4, o5, o6, o7, o20]
def e13 : Ev.Env := [some (.ref 1), some (.ref 2), some (.ref 209), some (.ref 211), some (.ref 218), none, some (.tup [(.int 0), (.int 0), (.int 0), (.int 0)]), some (.tup [(.int 0), (.int 0), (.int 0), (.int 1)]), none, none, none, none]
def o21 : Nat × Ob := (222, (.lst [(.tup [(.int 8), (.ref 209), (.ref 211), (.bl true)]), (.tup [(.int 7), (.ref 209), (.ref 211), (.bl false)]), (.tup [(.int 9), (.ref 209), (.ref 211), (.bl false)]), (.tup [(.int 8), (.ref 209), (.ref 213), (.bl false)]), (.tup [(.int 8), (.ref 216), (.ref 211), (.bl false)]), (.tup [(.int 8), (.ref 220), (.ref 211), (.bl false)])]))
def k11 : List (Nat × Ob) := [o0, o1, o4, o5, o6, o7, o8, o21]
def e14 : Ev.Env := [some (.ref 1), some (.ref 2), some (.ref 209), some (.ref 211), some (.ref 222), none, some (.tup [(.int 0), (.int 0), (.int 0), (.int 0)]), some (.tup [(.int 0), (.int 0), (.int 0), (.int 1)]), none, none, none, none]
def o22 : Nat × Ob := (226, (.lst [(.tup [(.int 8), (.ref 209), (.ref 211), (.bl true)]), (.tup [(.int 7), (.ref 209), (.ref 211), (.bl false)]), (.tup [(.int 9), (.ref 209), (.ref 211), (.bl false)]), (.tup [(.int 8), (.ref 209), (.ref 213), (.bl false)]), (.tup [(.int 8), (.ref 216), (.ref 211), (.bl false)]), (.tup [(.int 8), (.ref 220), (.ref 211), (.bl false)]), (.tup [(.int 8), (.ref 224), (.ref 211), (.bl false)])]))
def k12 : List (Nat × Ob) := [o0, o1, o4, o5, o6, o7, o8, o9, o22]
def e15 : Ev.Env := [some (.ref 1), some (.ref 2), some (.ref 209), some (.ref 211), some (.ref 226), none, some (.tup [(.int 0), (.int 0), (.int 0), (.int 0)]), some (.tup [(.int 0), (.int 0), (.int 0), (.int 1)]), none, none, none, none]
def o23 : Nat × Ob := (230, (.lst [(.tup [(.int 8), (.ref 209), (.ref 211), (.bl true)]), (.tup [(.int 7), (.ref 209), (.ref 211), (.bl false)]), (.tup [(.int 9), (.ref 209), (.ref 211), (.bl false)]), (.tup [(.int 8), (.ref 209), (.ref 213), (.bl false)]), (.tup [(.int 8), (.ref 216), (.ref 211), (.bl false)]), (.tup [(.int 8), (.ref 220), (.ref 211), (.bl false)]), (.tup [(.int 8), (.ref 224), (.ref 211), (.bl false)]), (.tup [(.int 8), (.ref 228), (.ref 211), (.bl false)])]))
def k13 : List (Nat × Ob) := [o0, o1, o4, o5, o6, o7, o8, o9, o10, o23]
def e16 : Ev.Env := [some (.ref 1), some (.ref 2), some (.ref 209), some (.ref 211), some (.ref 230), none, some (.tup [(.int 0), (.int 0), (.int 0), (.int 0)]), some (.tup [(.int 0), (.int 0), (.int 0), (.int 1)]), none, none, none, none]
def o24 : Nat × Ob := (234, (.lst [(.tup [(.int 8), (.ref 209), (.ref 211), (.bl true)]), (.tup [(.int 7), (.ref 209), (.ref 211), (.bl false)]), (.tup [(.int 9), (.ref 209), (.ref 211), (.bl false)]), (.tup [(.int 8), (.ref 209), (.ref 213), (.bl false)]), (.tup [(.int 8), (.ref 216), (.ref 211), (.bl false)]), (.tup [(.int 8), (.ref 220), (.ref 211), (.bl false)]), (.tup [(.int 8), (.ref 224), (.ref 211), (.bl false)]), (.tup [(.int 8), (.ref 228), (.ref 211), (.bl false)]), (.tup [(.int 8), (.ref 209), (.ref 232), (.bl false)])]))
def k14 : List (Nat × Ob) := [o0, o1, o4, o5, o6, o7, o8, o9, o10, o11, o24]
def e17 : Ev.Env := [some (.ref 1), some (.ref 2), some (.ref 209), some (.ref 211), some (.ref 234), none, some (.tup [(.int 0), (.int 0), (.int 0), (.int 0)]), some (.tup [(.int 0), (.int 0), (.int 0), (.int 1)]), none, none, none, none]
def o25 : Nat × Ob := (238, (.lst [(.tup [(.int 8), (.ref 209), (.ref 211), (.bl true)]), (.tup [(.int 7), (.ref 209), (.ref 211), (.bl false)]), (.tup [(.int 9), (.ref 209), (.ref 211), (.bl false)]), (.tup [(.int 8), (.ref 209), (.ref 213), (.bl false)]), (.tup [(.int 8), (.ref 216), (.ref 211), (.bl false)]), (.tup [(.int 8), (.ref 220), (.ref 211), (.bl false)]), (.tup [(.int 8), (.ref 224), (.ref 211), (.bl false)]), (.tup [(.int 8), (.ref 228), (.ref 211), (.bl false)]), (.tup [(.int 8), (.ref 209), (.ref 232), (.bl false)]), (.tup [(.int 8), (.ref 209), (.ref 236), (.bl true)])]))
def k15 : List (Nat × Ob) := [o0, o1, o4, o5, o6, o7, o8, o9, o10, o11, o12, o25]
def e18 : Ev.Env := [some (.ref 1), some (.ref 2), some (.ref 209), some (.ref 211), some (.ref 238), none, some (.tup [(.int 0), (.int 0), (.int 0), (.int 0)]), some (.tup [(.int 0), (.int 0), (.int 0), (.int 1)]), none, none, none, none]
def k16 : List (Nat × Ob) := [o0, o1, o4, o5, o6, o7, o8, o9, o10, o11, o12, o13, o14]
def e19 : Ev.Env := [some (.ref 1), some (.ref 2), some (.ref 209), some (.ref 211), some (.ref 242), none, some (.tup [(.int 0), (.int 0), (.int 0), (.int 0)]), some (.tup [(.int 0), (.int 0), (.int 0), (.int 1)]), none, none, none, none]
def o26 : Nat × Ob := (243, (.dic [((.tup [(.int 0), (.int 0), (.int 0), (.int 0)]), (.int 8)), ((.tup [(.int 1), (.int 0), (.int 0), (.int 0)]), (.int 10)), ((.tup [(.int 1), (.int 1), (.int 0), (.int 0)]), (.int 5))]))
def k17 : List (Nat × Ob) := [o0, o1, o4, o5, o6, o7, o8, o9, o10, o11, o12, o13, o14, o26]
def e20 : Ev.Env := [some (.ref 1), some (.ref 2), some (.ref 209), some (.ref 211), some (.ref 242), some (.ref 243), some (.tup [(.int 0), (.int 0), (.int 0), (.int 0)]), some (.tup [(.int 0), (.int 0), (.int 0), (.int 1)]), none, none, none, none]
def e21 : Ev.Env := [some (.ref 1), some (.ref 2), some (.ref 209), some (.ref 211), some (.ref 242), some (.ref 243), some (.tup [(.int 0), (.int 0), (.int 0), (.int 0)]), some (.tup [(.int 0), (.int 0), (.int 0), (.int 1)]), some (.int 8), some (.ref 209), some (.ref 243), some (.bl false)]
def o27 : Nat × Ob := (1326, (.ins 0 [some (.tup [(.int 1), (.int 0)]), some (.tup [(.tup [(.int 0), (.int 1), (.int 2), (.int 1)]), (.tup [(.int 1), (.int 2), (.int 2), (.int 1)])]), some (.int 3), some (.tup [(.int 2), (.int 5), .non])]))
def o28 : Nat × Ob := (1327, (.lst [(.tup [(.tup [(.int 0), (.int 0)]), (.tup [(.int 0), (.int 1)])]), (.tup [(.tup [(.int 1), (.int 0)]), (.tup [(.int 0), (.int 1)])]), (.tup [(.tup [(.int 0), (.int 0)]), (.tup [(.int 1), (.int 1)])]), (.tup [(.tup [(.int 1), (.int 0)]), (.tup [(.int 1), (.int 1)])])]))
def k18 : List (Nat × Ob) := [o0, o1, o27, o28]
def e22 : Ev.Env := [some (.ref 1326), some (.ref 1327), none, none, none]
def o29 : Nat × Ob := (2099, (.dic [((.tup [(.tup [(.int 0), (.int 0)]), (.tup [(.int 0), (.int 1)])]), (.tup [(.int 0), (.int 0)])), ((.tup [(.tup [(.int 1), (.int 0)]), (.tup [(.int 0), (.int 1)])]), (.tup [(.int 0), (.int 0)])), ((.tup [(.tup [(.int 0), (.int 0)]), (.tup [(.int 1), (.int 1)])]), (.tup [(.int 0), (.int 0)])), ((.tup [(.tup [(.int 1), (.int 0)]), (.tup [(.int 1), (.int 1)])]), (.tup [(.int 0), (.int 0)]))]))
def k19 : List (Nat × Ob) := [o0, o1, o27, o28, o29]
def e23 : Ev.Env := [some (.ref 1326), some (.ref 1327), some (.ref 2099), none, none]
def o30 : Nat × Ob := (2099, (.dic [((.tup [(.tup [(.int 0), (.int 0)]), (.tup [(.int 0), (.int 1)])]), (.tup [(.int 1), (.int 0)])), ((.tup [(.tup [(.int 1), (.int 0)]), (.tup [(.int 0), (.int 1)])]), (.tup [(.int 0), (.int 0)])), ((.tup [(.tup [(.int 0), (.int 0)]), (.tup [(.int 1), (.int 1)])]), (.tup [(.int 0), (.int 0)])), ((.tup [(.tup [(.int 1), (.int 0)]), (.tup [(.int 1), (.int 1)])]), (.tup [(.int 0), (.int 0)]))]))
def k20 : List (Nat × Ob) := [o0, o1, o27, o28, o30]
def o31 : Nat × Ob := (2246, (.ins 0 [some (.tup [(.int 2), (.int 0)]), some (.tup [(.tup [(.int 0), (.int 1), (.int 1), (.int 1)])]), some (.int 2), some (.tup [(.int 3), .non])]))
def k21 : List (Nat × Ob) := [o0, o1, o27, o28, o30, o31]
def e24 : Ev.Env := [some (.ref 1326), some (.ref 1327), some (.ref 2099), some (.ref 2246), none]
def e25 : Ev.Env := [some (.ref 1)]
def e26 : Ev.Env := [some (.ref 1), some (.ref 2), none, none, none, none]
def k22 : List (Nat × Ob) := [o0, o1, o27]
def e27 : Ev.Env := [some (.ref 1), some (.ref 2), none, some (.ref 1326), some (.tup [(.tup [(.int 4), (.int 0)]), (.tup [(.int 1), (.int 1)])]), none]
def e28 : Ev.Env := [some (.ref 1), some (.ref 2), some (.ref 1327), some (.ref 1326), some (.tup [(.tup [(.int 4), (.int 0)]), (.tup [(.int 1), (.int 1)])]), none]
def k23 : List (Nat × Ob) := []
def e29 : Ev.Env := [some (.ref 0), none, none, none]
def e30 : Ev.Env := [some (.ref 0), some (.ref 1), some (.ref 2), none]
end HT
end

section
set_option Elab.async false
set_option linter.all false
set_option maxRecDepth 1000000
set_option maxHeartbeats 0
namespace HT
open PySem Ev
theorem c1_0 (h : Mem) (a : AtM h 4 k0) : ∃ h', sRe b74_0 (callD tab 23) e0 h = .nx e1 h' ∧ AtM h' 4 k0 := ch_nx (s := e0) (c := callD tab 23) (s' := e1) (N' := 4) (kn' := k0) (fun raw => by kernel_rfl) a
theorem c1_8 (h : Mem) (a : AtM h 53 k1) : ∃ h', sRe b74_8 (callD tab 23) e2 h = .nx e2 h' ∧ AtM h' 63 k1 := ch_nx (s := e2) (c := callD tab 23) (s' := e2) (N' := 63) (kn' := k1) (fun raw => by kernel_rfl) a
theorem c1_16 (h : Mem) (a : AtM h 160 k2) : ∃ h', sRe b74_16 (callD tab 23) e3 h = .rt (.bl true) h' ∧ AtM h' 208 k0 := ch_rt (s := e3) (c := callD tab 23) (N' := 208) (kn' := k0) (v := (.bl true)) (fun raw => by kernel_rfl) a
theorem c3_7 (h : Mem) (a : AtM h 968 k3) : ∃ h', sRe b76_7 (callD tab 22) e4 h = .nx e4 h' ∧ AtM h' 1214 k3 := ch_nx (s := e4) (c := callD tab 22) (s' := e4) (N' := 1214) (kn' := k3) (fun raw => by kernel_rfl) a
theorem c2_1 (h : Mem) (a : AtM h 208 k0) : ∃ h', sRe b75_1 (callD tab 23) e8 h = .nx e9 h' ∧ AtM h' 210 k6 := ch_nx (s := e8) (c := callD tab 23) (s' := e9) (N' := 210) (kn' := k6) (fun raw => by kernel_rfl) a
theorem c2_9 (h : Mem) (a : AtM h 231 k13) : ∃ h', sRe b75_9 (callD tab 23) e16 h = .nx e17 h' ∧ AtM h' 235 k14 := ch_nx (s := e16) (c := callD tab 23) (s' := e17) (N' := 235) (kn' := k14) (fun raw => by kernel_rfl) a
theorem c5_2 (h : Mem) (a : AtM h 2126 k19) : ∃ h', sRe b78_2 (callD tab 22) e23 h = .nx e23 h' ∧ AtM h' 2152 k19 := ch_nx (s := e23) (c := callD tab 22) (s' := e23) (N' := 2152) (kn' := k19) (fun raw => by kernel_rfl) a
theorem c5_10 (h : Mem) (a : AtM h 2268 k21) : ∃ h', sRe b78_10 (callD tab 22) e24 h = .nx e24 h' ∧ AtM h' 2288 k21 := ch_nx (s := e24) (c := callD tab 22) (s' := e24) (N' := 2288) (kn' := k21) (fun raw => by kernel_rfl) a
theorem c6_2 (h : Mem) (a : AtM h 3451 k18) : ∃ h', sRe b79_2 (callD tab 22) e25 h = .nx e25 h' ∧ AtM h' 3832 k18 := ch_nx (s := e25) (c := callD tab 22) (s' := e25) (N' := 3832) (kn' := k18) (fun raw => by kernel_rfl) a
theorem c4_6 (h : Mem) (a : AtM h 1441 k18) : ∃ h', sRe b77_6 (callD tab 23) e28 h = .nx e28 h' ∧ AtM h' 1453 k18 := ch_nx (s := e28) (c := callD tab 23) (s' := e28) (N' := 1453) (kn' := k18) (fun raw => by kernel_rfl) a
end HT
end

section
set_option Elab.async false
set_option linter.all false
set_option maxRecDepth 1000000
set_option maxHeartbeats 0
namespace HT
open PySem Ev
theorem c1_1 (h : Mem) (a : AtM h 4 k0) : ∃ h', sRe b74_1 (callD tab 23) e1 h = .nx e1 h' ∧ AtM h' 12 k0 := ch_nx (s := e1) (c := callD tab 23) (s' := e1) (N' := 12) (kn' := k0) (fun raw => by kernel_rfl) a
theorem c1_9 (h : Mem) (a : AtM h 63 k1) : ∃ h', sRe b74_9 (callD tab 23) e2 h = .nx e2 h' ∧ AtM h' 73 k1 := ch_nx (s := e2) (c := callD tab 23) (s' := e2) (N' := 73) (kn' := k1) (fun raw => by kernel_rfl) a
theorem c3_0 (h : Mem) (a : AtM h 673 k3) : ∃ h', sRe b76_0 (callD tab 22) e4 h = .nx e4 h' ∧ AtM h' 685 k3 := ch_nx (s := e4) (c := callD tab 22) (s' := e4) (N' := 685) (kn' := k3) (fun raw => by kernel_rfl) a
theorem c3_8 (h : Mem) (a : AtM h 1214 k3) : ∃ h', sRe b76_8 (callD tab 22) e4 h = .nx e4 h' ∧ AtM h' 1262 k3 := ch_nx (s := e4) (c := callD tab 22) (s' := e4) (N' := 1262) (kn' := k3) (fun raw => by kernel_rfl) a
theorem c2_2 (h : Mem) (a : AtM h 210 k6) : ∃ h', sRe b75_2 (callD tab 23) e9 h = .nx e10 h' ∧ AtM h' 212 k7 := ch_nx (s := e9) (c := callD tab 23) (s' := e10) (N' := 212) (kn' := k7) (fun raw => by kernel_rfl) a
theorem c2_10 (h : Mem) (a : AtM h 235 k14) : ∃ h', sRe b75_10 (callD tab 23) e17 h = .nx e18 h' ∧ AtM h' 239 k15 := ch_nx (s := e17) (c := callD tab 23) (s' := e18) (N' := 239) (kn' := k15) (fun raw => by kernel_rfl) a
theorem c5_3 (h : Mem) (a : AtM h 2152 k19) : ∃ h', sRe b78_3 (callD tab 22) e23 h = .nx e23 h' ∧ AtM h' 2179 k19 := ch_nx (s := e23) (c := callD tab 22) (s' := e23) (N' := 2179) (kn' := k19) (fun raw => by kernel_rfl) a
theorem c5_11 (h : Mem) (a : AtM h 2288 k21) : ∃ h', sRe b78_11 (callD tab 22) e24 h = .nx e24 h' ∧ AtM h' 2309 k21 := ch_nx (s := e24) (c := callD tab 22) (s' := e24) (N' := 2309) (kn' := k21) (fun raw => by kernel_rfl) a
theorem c6_3 (h : Mem) (a : AtM h 3832 k18) : ∃ h', sRe b79_3 (callD tab 22) e25 h = .rt (.bl true) h' ∧ AtM h' 4623 k18 := ch_rt (s := e25) (c := callD tab 22) (N' := 4623) (kn' := k18) (v := (.bl true)) (fun raw => by kernel_rfl) a
theorem c4_7 (h : Mem) (a : AtM h 1453 k18) : ∃ h', sRe b77_7 (callD tab 23) e28 h = .nx e28 h' ∧ AtM h' 1465 k18 := ch_nx (s := e28) (c := callD tab 23) (s' := e28) (N' := 1465) (kn' := k18) (fun raw => by kernel_rfl) a
end HT
end

section
set_option Elab.async false
set_option linter.all false
set_option maxRecDepth 1000000
set_option maxHeartbeats 0
namespace HT
open PySem Ev
theorem c1_2 (h : Mem) (a : AtM h 12 k0) : ∃ h', sRe b74_2 (callD tab 23) e1 h = .nx e1 h' ∧ AtM h' 17 k0 := ch_nx (s := e1) (c := callD tab 23) (s' := e1) (N' := 17) (kn' := k0) (fun raw => by kernel_rfl) a
theorem c1_10 (h : Mem) (a : AtM h 73 k1) : ∃ h', sRe b74_10 (callD tab 23) e2 h = .nx e2 h' ∧ AtM h' 83 k1 := ch_nx (s := e2) (c := callD tab 23) (s' := e2) (N' := 83) (kn' := k1) (fun raw => by kernel_rfl) a
theorem c3_1 (h : Mem) (a : AtM h 685 k3) : ∃ h', sRe b76_1 (callD tab 22) e4 h = .nx e4 h' ∧ AtM h' 699 k3 := ch_nx (s := e4) (c := callD tab 22) (s' := e4) (N' := 699) (kn' := k3) (fun raw => by kernel_rfl) a
theorem c3_9 (h : Mem) (a : AtM h 1262 k3) : ∃ h', sRe b76_9 (callD tab 22) e4 h = .nx e5 h' ∧ AtM h' 1263 k4 := ch_nx (s := e4) (c := callD tab 22) (s' := e5) (N' := 1263) (kn' := k4) (fun raw => by kernel_rfl) a
theorem c2_3 (h : Mem) (a : AtM h 212 k7) : ∃ h', sRe b75_3 (callD tab 23) e10 h = .nx e11 h' ∧ AtM h' 213 k8 := ch_nx (s := e10) (c := callD tab 23) (s' := e11) (N' := 213) (kn' := k8) (fun raw => by kernel_rfl) a
theorem c2_11 (h : Mem) (a : AtM h 239 k15) : ∃ h', sRe b75_11 (callD tab 23) e18 h = .nx e19 h' ∧ AtM h' 243 k16 := ch_nx (s := e18) (c := callD tab 23) (s' := e19) (N' := 243) (kn' := k16) (fun raw => by kernel_rfl) a
theorem c5_4 (h : Mem) (a : AtM h 2179 k19) : ∃ h', sRe b78_4 (callD tab 22) e23 h = .nx e23 h' ∧ AtM h' 2179 k20 := ch_nx (s := e23) (c := callD tab 22) (s' := e23) (N' := 2179) (kn' := k20) (fun raw => by kernel_rfl) a
theorem c5_12 (h : Mem) (a : AtM h 2309 k21) : ∃ h', sRe b78_12 (callD tab 22) e24 h = .nx e24 h' ∧ AtM h' 2330 k21 := ch_nx (s := e24) (c := callD tab 22) (s' := e24) (N' := 2330) (kn' := k21) (fun raw => by kernel_rfl) a
theorem c4_0 (h : Mem) (a : AtM h 1326 k0) : ∃ h', sRe b77_0 (callD tab 23) e26 h = .nx e27 h' ∧ AtM h' 1327 k22 := ch_nx (s := e26) (c := callD tab 23) (s' := e27) (N' := 1327) (kn' := k22) (fun raw => by kernel_rfl) a
theorem c4_8 (h : Mem) (a : AtM h 1465 k18) : ∃ h', sRe b77_8 (callD tab 23) e28 h = .nx e28 h' ∧ AtM h' 1773 k18 := ch_nx (s := e28) (c := callD tab 23) (s' := e28) (N' := 1773) (kn' := k18) (fun raw => by kernel_rfl) a
end HT
end

section
set_option Elab.async false
set_option linter.all false
set_option maxRecDepth 1000000
set_option maxHeartbeats 0
namespace HT
open PySem Ev
theorem c1_3 (h : Mem) (a : AtM h 17 k0) : ∃ h', sRe b74_3 (callD tab 23) e1 h = .nx e1 h' ∧ AtM h' 25 k0 := ch_nx (s := e1) (c := callD tab 23) (s' := e1) (N' := 25) (kn' := k0) (fun raw => by kernel_rfl) a
theorem c1_11 (h : Mem) (a : AtM h 83 k1) : ∃ h', sRe b74_11 (callD tab 23) e2 h = .nx e2 h' ∧ AtM h' 92 k1 := ch_nx (s := e2) (c := callD tab 23) (s' := e2) (N' := 92) (kn' := k1) (fun raw => by kernel_rfl) a
theorem c3_2 (h : Mem) (a : AtM h 699 k3) : ∃ h', sRe b76_2 (callD tab 22) e4 h = .nx e4 h' ∧ AtM h' 704 k3 := ch_nx (s := e4) (c := callD tab 22) (s' := e4) (N' := 704) (kn' := k3) (fun raw => by kernel_rfl) a
theorem c3_10 (h : Mem) (a : AtM h 1263 k4) : ∃ h', sRe b76_10 (callD tab 22) e5 h = .nx e5 h' ∧ AtM h' 1305 k4 := ch_nx (s := e5) (c := callD tab 22) (s' := e5) (N' := 1305) (kn' := k4) (fun raw => by kernel_rfl) a
theorem c2_4 (h : Mem) (a : AtM h 213 k8) : ∃ h', sRe b75_4 (callD tab 23) e11 h = .nx e12 h' ∧ AtM h' 216 k9 := ch_nx (s := e11) (c := callD tab 23) (s' := e12) (N' := 216) (kn' := k9) (fun raw => by kernel_rfl) a
theorem c2_12 (h : Mem) (a : AtM h 243 k16) : ∃ h', sRe b75_12 (callD tab 23) e19 h = .nx e20 h' ∧ AtM h' 244 k17 := ch_nx (s := e19) (c := callD tab 23) (s' := e20) (N' := 244) (kn' := k17) (fun raw => by kernel_rfl) a
theorem c5_5 (h : Mem) (a : AtM h 2179 k20) : ∃ h', sRe b78_5 (callD tab 22) e23 h = .nx e23 h' ∧ AtM h' 2205 k20 := ch_nx (s := e23) (c := callD tab 22) (s' := e23) (N' := 2205) (kn' := k20) (fun raw => by kernel_rfl) a
theorem c5_13 (h : Mem) (a : AtM h 2330 k21) : ∃ h', sRe b78_13 (callD tab 22) e24 h = .nx e24 h' ∧ AtM h' 2341 k21 := ch_nx (s := e24) (c := callD tab 22) (s' := e24) (N' := 2341) (kn' := k21) (fun raw => by kernel_rfl) a
theorem c4_1 (h : Mem) (a : AtM h 1327 k22) : ∃ h', sRe b77_1 (callD tab 23) e27 h = .nx e28 h' ∧ AtM h' 1328 k18 := ch_nx (s := e27) (c := callD tab 23) (s' := e28) (N' := 1328) (kn' := k18) (fun raw => by kernel_rfl) a
theorem c4_9 (h : Mem) (a : AtM h 1773 k18) : ∃ h', sRe b77_9 (callD tab 23) e28 h = .nx e28 h' ∧ AtM h' 1853 k18 := ch_nx (s := e28) (c := callD tab 23) (s' := e28) (N' := 1853) (kn' := k18) (fun raw => by kernel_rfl) a
end HT
end

section
set_option Elab.async false
set_option linter.all false
set_option maxRecDepth 1000000
set_option maxHeartbeats 0
namespace HT
open PySem Ev
theorem c1_4 (h : Mem) (a : AtM h 25 k0) : ∃ h', sRe b74_4 (callD tab 23) e1 h = .nx e1 h' ∧ AtM h' 34 k0 := ch_nx (s := e1) (c := callD tab 23) (s' := e1) (N' := 34) (kn' := k0) (fun raw => by kernel_rfl) a
theorem c1_12 (h : Mem) (a : AtM h 92 k1) : ∃ h', sRe b74_12 (callD tab 23) e2 h = .nx e3 h' ∧ AtM h' 93 k2 := ch_nx (s := e2) (c := callD tab 23) (s' := e3) (N' := 93) (kn' := k2) (fun raw => by kernel_rfl) a
theorem c3_3 (h : Mem) (a : AtM h 704 k3) : ∃ h', sRe b76_3 (callD tab 22) e4 h = .nx e4 h' ∧ AtM h' 714 k3 := ch_nx (s := e4) (c := callD tab 22) (s' := e4) (N' := 714) (kn' := k3) (fun raw => by kernel_rfl) a
theorem c3_11 (h : Mem) (a : AtM h 1305 k4) : ∃ h', sRe b76_11 (callD tab 22) e5 h = .nx e6 h' ∧ AtM h' 1306 k5 := ch_nx (s := e5) (c := callD tab 22) (s' := e6) (N' := 1306) (kn' := k5) (fun raw => by kernel_rfl) a
theorem c2_5 (h : Mem) (a : AtM h 216 k9) : ∃ h', sRe b75_5 (callD tab 23) e12 h = .nx e13 h' ∧ AtM h' 219 k10 := ch_nx (s := e12) (c := callD tab 23) (s' := e13) (N' := 219) (kn' := k10) (fun raw => by kernel_rfl) a
theorem c2_13 (h : Mem) (a : AtM h 244 k17) : ∃ h', sRe b75_13 (callD tab 23) e20 h = .nx e20 h' ∧ AtM h' 244 k3 := ch_nx (s := e20) (c := callD tab 23) (s' := e20) (N' := 244) (kn' := k3) (fun raw => by kernel_rfl) a
theorem c5_6 (h : Mem) (a : AtM h 2205 k20) : ∃ h', sRe b78_6 (callD tab 22) e23 h = .nx e23 h' ∧ AtM h' 2231 k20 := ch_nx (s := e23) (c := callD tab 22) (s' := e23) (N' := 2231) (kn' := k20) (fun raw => by kernel_rfl) a
theorem c5_14 (h : Mem) (a : AtM h 2341 k21) : ∃ h', sRe b78_14 (callD tab 22) e24 h = .nx e24 h' ∧ AtM h' 2362 k21 := ch_nx (s := e24) (c := callD tab 22) (s' := e24) (N' := 2362) (kn' := k21) (fun raw => by kernel_rfl) a
theorem c4_2 (h : Mem) (a : AtM h 1328 k18) : ∃ h', sRe b77_2 (callD tab 23) e28 h = .nx e28 h' ∧ AtM h' 1379 k18 := ch_nx (s := e28) (c := callD tab 23) (s' := e28) (N' := 1379) (kn' := k18) (fun raw => by kernel_rfl) a
theorem c4_10 (h : Mem) (a : AtM h 1853 k18) : ∃ h', sRe b77_10 (callD tab 23) e28 h = .nx e28 h' ∧ AtM h' 1951 k18 := ch_nx (s := e28) (c := callD tab 23) (s' := e28) (N' := 1951) (kn' := k18) (fun raw => by kernel_rfl) a
end HT
end

section
set_option Elab.async false
set_option linter.all false
set_option maxRecDepth 1000000
set_option maxHeartbeats 0
namespace HT
open PySem Ev
theorem c1_5 (h : Mem) (a : AtM h 34 k0) : ∃ h', sRe b74_5 (callD tab 23) e1 h = .nx e1 h' ∧ AtM h' 43 k0 := ch_nx (s := e1) (c := callD tab 23) (s' := e1) (N' := 43) (kn' := k0) (fun raw => by kernel_rfl) a
theorem c1_13 (h : Mem) (a : AtM h 93 k2) : ∃ h', sRe b74_13 (callD tab 23) e3 h = .nx e3 h' ∧ AtM h' 97 k2 := ch_nx (s := e3) (c := callD tab 23) (s' := e3) (N' := 97) (kn' := k2) (fun raw => by kernel_rfl) a
theorem c3_4 (h : Mem) (a : AtM h 714 k3) : ∃ h', sRe b76_4 (callD tab 22) e4 h = .nx e4 h' ∧ AtM h' 731 k3 := ch_nx (s := e4) (c := callD tab 22) (s' := e4) (N' := 731) (kn' := k3) (fun raw => by kernel_rfl) a
theorem c3_12 (h : Mem) (a : AtM h 1306 k5) : ∃ h', sRe b76_12 (callD tab 22) e6 h = .nx e6 h' ∧ AtM h' 1323 k5 := ch_nx (s := e6) (c := callD tab 22) (s' := e6) (N' := 1323) (kn' := k5) (fun raw => by kernel_rfl) a
theorem c2_6 (h : Mem) (a : AtM h 219 k10) : ∃ h', sRe b75_6 (callD tab 23) e13 h = .nx e14 h' ∧ AtM h' 223 k11 := ch_nx (s := e13) (c := callD tab 23) (s' := e14) (N' := 223) (kn' := k11) (fun raw => by kernel_rfl) a
theorem c2_14 (h : Mem) (a : AtM h 244 k3) : ∃ h', sRe b75_14 (callD tab 23) e20 h = .nx e21 h' ∧ AtM h' 673 k3 := ch_nx (s := e20) (c := callD tab 23) (s' := e21) (N' := 673) (kn' := k3) (fun raw => by kernel_rfl) a
theorem c5_7 (h : Mem) (a : AtM h 2231 k20) : ∃ h', sRe b78_7 (callD tab 22) e23 h = .nx e23 h' ∧ AtM h' 2246 k20 := ch_nx (s := e23) (c := callD tab 22) (s' := e23) (N' := 2246) (kn' := k20) (fun raw => by kernel_rfl) a
theorem c5_15 (h : Mem) (a : AtM h 2362 k21) : ∃ h', sRe b78_15 (callD tab 22) e24 h = .rt (.bl true) h' ∧ AtM h' 2362 k18 := ch_rt (s := e24) (c := callD tab 22) (N' := 2362) (kn' := k18) (v := (.bl true)) (fun raw => by kernel_rfl) a
theorem c4_3 (h : Mem) (a : AtM h 1379 k18) : ∃ h', sRe b77_3 (callD tab 23) e28 h = .nx e28 h' ∧ AtM h' 1417 k18 := ch_nx (s := e28) (c := callD tab 23) (s' := e28) (N' := 1417) (kn' := k18) (fun raw => by kernel_rfl) a
theorem c4_11 (h : Mem) (a : AtM h 1951 k18) : ∃ h', sRe b77_11 (callD tab 23) e28 h = .nx e28 h' ∧ AtM h' 2031 k18 := ch_nx (s := e28) (c := callD tab 23) (s' := e28) (N' := 2031) (kn' := k18) (fun raw => by kernel_rfl) a
end HT
end

section
set_option Elab.async false
set_option linter.all false
set_option maxRecDepth 1000000
set_option maxHeartbeats 0
namespace HT
open PySem Ev
theorem c1_6 (h : Mem) (a : AtM h 43 k0) : ∃ h', sRe b74_6 (callD tab 23) e1 h = .nx e1 h' ∧ AtM h' 52 k0 := ch_nx (s := e1) (c := callD tab 23) (s' := e1) (N' := 52) (kn' := k0) (fun raw => by kernel_rfl) a
theorem c1_14 (h : Mem) (a : AtM h 97 k2) : ∃ h', sRe b74_14 (callD tab 23) e3 h = .nx e3 h' ∧ AtM h' 102 k2 := ch_nx (s := e3) (c := callD tab 23) (s' := e3) (N' := 102) (kn' := k2) (fun raw => by kernel_rfl) a
theorem c3_5 (h : Mem) (a : AtM h 731 k3) : ∃ h', sRe b76_5 (callD tab 22) e4 h = .nx e4 h' ∧ AtM h' 908 k3 := ch_nx (s := e4) (c := callD tab 22) (s' := e4) (N' := 908) (kn' := k3) (fun raw => by kernel_rfl) a
theorem c3_13 (h : Mem) (a : AtM h 1323 k5) : ∃ h', sRe b76_13 (callD tab 22) e6 h = .rt (.bl true) h' ∧ AtM h' 1326 k3 := ch_rt (s := e6) (c := callD tab 22) (N' := 1326) (kn' := k3) (v := (.bl true)) (fun raw => by kernel_rfl) a
theorem c2_7 (h : Mem) (a : AtM h 223 k11) : ∃ h', sRe b75_7 (callD tab 23) e14 h = .nx e15 h' ∧ AtM h' 227 k12 := ch_nx (s := e14) (c := callD tab 23) (s' := e15) (N' := 227) (kn' := k12) (fun raw => by kernel_rfl) a
theorem c5_0 (h : Mem) (a : AtM h 2098 k18) : ∃ h', sRe b78_0 (callD tab 22) e22 h = .nx e23 h' ∧ AtM h' 2100 k19 := ch_nx (s := e22) (c := callD tab 22) (s' := e23) (N' := 2100) (kn' := k19) (fun raw => by kernel_rfl) a
theorem c5_8 (h : Mem) (a : AtM h 2246 k20) : ∃ h', sRe b78_8 (callD tab 22) e23 h = .nx e24 h' ∧ AtM h' 2247 k21 := ch_nx (s := e23) (c := callD tab 22) (s' := e24) (N' := 2247) (kn' := k21) (fun raw => by kernel_rfl) a
theorem c6_0 (h : Mem) (a : AtM h 2362 k18) : ∃ h', sRe b79_0 (callD tab 22) e25 h = .nx e25 h' ∧ AtM h' 2906 k18 := ch_nx (s := e25) (c := callD tab 22) (s' := e25) (N' := 2906) (kn' := k18) (fun raw => by kernel_rfl) a
theorem c4_4 (h : Mem) (a : AtM h 1417 k18) : ∃ h', sRe b77_4 (callD tab 23) e28 h = .nx e28 h' ∧ AtM h' 1429 k18 := ch_nx (s := e28) (c := callD tab 23) (s' := e28) (N' := 1429) (kn' := k18) (fun raw => by kernel_rfl) a
theorem c4_12 (h : Mem) (a : AtM h 2031 k18) : ∃ h', sRe b77_12 (callD tab 23) e28 h = .nx e28 h' ∧ AtM h' 2098 k18 := ch_nx (s := e28) (c := callD tab 23) (s' := e28) (N' := 2098) (kn' := k18) (fun raw => by kernel_rfl) a
end HT
end

section
set_option Elab.async false
set_option linter.all false
set_option maxRecDepth 1000000
set_option maxHeartbeats 0
namespace HT
open PySem Ev
theorem c1_7 (h : Mem) (a : AtM h 52 k0) : ∃ h', sRe b74_7 (callD tab 23) e1 h = .nx e2 h' ∧ AtM h' 53 k1 := ch_nx (s := e1) (c := callD tab 23) (s' := e2) (N' := 53) (kn' := k1) (fun raw => by kernel_rfl) a
theorem c1_15 (h : Mem) (a : AtM h 102 k2) : ∃ h', sRe b74_15 (callD tab 23) e3 h = .nx e3 h' ∧ AtM h' 160 k2 := ch_nx (s := e3) (c := callD tab 23) (s' := e3) (N' := 160) (kn' := k2) (fun raw => by kernel_rfl) a
theorem c3_6 (h : Mem) (a : AtM h 908 k3) : ∃ h', sRe b76_6 (callD tab 22) e4 h = .nx e4 h' ∧ AtM h' 968 k3 := ch_nx (s := e4) (c := callD tab 22) (s' := e4) (N' := 968) (kn' := k3) (fun raw => by kernel_rfl) a
theorem c2_0 (h : Mem) (a : AtM h 208 k0) : ∃ h', sRe b75_0 (callD tab 23) e7 h = .nx e8 h' ∧ AtM h' 208 k0 := ch_nx (s := e7) (c := callD tab 23) (s' := e8) (N' := 208) (kn' := k0) (fun raw => by kernel_rfl) a
theorem c2_8 (h : Mem) (a : AtM h 227 k12) : ∃ h', sRe b75_8 (callD tab 23) e15 h = .nx e16 h' ∧ AtM h' 231 k13 := ch_nx (s := e15) (c := callD tab 23) (s' := e16) (N' := 231) (kn' := k13) (fun raw => by kernel_rfl) a
theorem c5_1 (h : Mem) (a : AtM h 2100 k19) : ∃ h', sRe b78_1 (callD tab 22) e23 h = .nx e23 h' ∧ AtM h' 2126 k19 := ch_nx (s := e23) (c := callD tab 22) (s' := e23) (N' := 2126) (kn' := k19) (fun raw => by kernel_rfl) a
theorem c5_9 (h : Mem) (a : AtM h 2247 k21) : ∃ h', sRe b78_9 (callD tab 22) e24 h = .nx e24 h' ∧ AtM h' 2268 k21 := ch_nx (s := e24) (c := callD tab 22) (s' := e24) (N' := 2268) (kn' := k21) (fun raw => by kernel_rfl) a
theorem c6_1 (h : Mem) (a : AtM h 2906 k18) : ∃ h', sRe b79_1 (callD tab 22) e25 h = .nx e25 h' ∧ AtM h' 3451 k18 := ch_nx (s := e25) (c := callD tab 22) (s' := e25) (N' := 3451) (kn' := k18) (fun raw => by kernel_rfl) a
theorem c4_5 (h : Mem) (a : AtM h 1429 k18) : ∃ h', sRe b77_5 (callD tab 23) e28 h = .nx e28 h' ∧ AtM h' 1441 k18 := ch_nx (s := e28) (c := callD tab 23) (s' := e28) (N' := 1441) (kn' := k18) (fun raw => by kernel_rfl) a
theorem c0_0 (h : Mem) (a : AtM h 1 k23) : ∃ h', sRe b80_0 (callD tab 24) e29 h = .nx e30 h' ∧ AtM h' 4 k0 := ch_nx (s := e29) (c := callD tab 24) (s' := e30) (N' := 4) (kn' := k0) (fun raw => by kernel_rfl) a
end HT
end

section
set_option Elab.async false
set_option linter.all false
set_option maxRecDepth 1000000
set_option maxHeartbeats 0
namespace HT
open PySem Ev
theorem f1 (h : Mem) (a : AtM h 4 k0) : ∃ h', callD tab 24 74 [(.ref 1)] h = .ok (.bl true) h' ∧ AtM h' 208 k0 := by
  obtain ⟨h1, q0, a1⟩ := c1_0 h a
  obtain ⟨h2, q1, a2⟩ := c1_1 h1 a1
  obtain ⟨h3, q2, a3⟩ := c1_2 h2 a2
  obtain ⟨h4, q3, a4⟩ := c1_3 h3 a3
  obtain ⟨h5, q4, a5⟩ := c1_4 h4 a4
  obtain ⟨h6, q5, a6⟩ := c1_5 h5 a5
  obtain ⟨h7, q6, a7⟩ := c1_6 h6 a6
  obtain ⟨h8, q7, a8⟩ := c1_7 h7 a7
  obtain ⟨h9, q8, a9⟩ := c1_8 h8 a8
  obtain ⟨h10, q9, a10⟩ := c1_9 h9 a9
  obtain ⟨h11, q10, a11⟩ := c1_10 h10 a10
  obtain ⟨h12, q11, a12⟩ := c1_11 h11 a11
  obtain ⟨h13, q12, a13⟩ := c1_12 h12 a12
  obtain ⟨h14, q13, a14⟩ := c1_13 h13 a13
  obtain ⟨h15, q14, a15⟩ := c1_14 h14 a14
  obtain ⟨h16, q15, a16⟩ := c1_15 h15 a15
  obtain ⟨h17, q16, a17⟩ := c1_16 h16 a16
  refine ⟨h17, ?_, a17⟩
  refine call_rt (d := ⟨1, 4, b74⟩) (by rfl) (by rfl) ?_
  have z0 : b74 (callD tab 23) e0 h = r74_1 (callD tab 23) e1 h1 := seq_nx q0
  have z1 : r74_1 (callD tab 23) e1 h1 = r74_2 (callD tab 23) e1 h2 := seq_nx q1
  have z2 : r74_2 (callD tab 23) e1 h2 = r74_3 (callD tab 23) e1 h3 := seq_nx q2
  have z3 : r74_3 (callD tab 23) e1 h3 = r74_4 (callD tab 23) e1 h4 := seq_nx q3
  have z4 : r74_4 (callD tab 23) e1 h4 = r74_5 (callD tab 23) e1 h5 := seq_nx q4
  have z5 : r74_5 (callD tab 23) e1 h5 = r74_6 (callD tab 23) e1 h6 := seq_nx q5
  have z6 : r74_6 (callD tab 23) e1 h6 = r74_7 (callD tab 23) e1 h7 := seq_nx q6
  have z7 : r74_7 (callD tab 23) e1 h7 = r74_8 (callD tab 23) e2 h8 := seq_nx q7
  have z8 : r74_8 (callD tab 23) e2 h8 = r74_9 (callD tab 23) e2 h9 := seq_nx q8
  have z9 : r74_9 (callD tab 23) e2 h9 = r74_10 (callD tab 23) e2 h10 := seq_nx q9
  have z10 : r74_10 (callD tab 23) e2 h10 = r74_11 (callD tab 23) e2 h11 := seq_nx q10
  have z11 : r74_11 (callD tab 23) e2 h11 = r74_12 (callD tab 23) e2 h12 := seq_nx q11
  have z12 : r74_12 (callD tab 23) e2 h12 = r74_13 (callD tab 23) e3 h13 := seq_nx q12
  have z13 : r74_13 (callD tab 23) e3 h13 = r74_14 (callD tab 23) e3 h14 := seq_nx q13
  have z14 : r74_14 (callD tab 23) e3 h14 = r74_15 (callD tab 23) e3 h15 := seq_nx q14
  have z15 : r74_15 (callD tab 23) e3 h15 = r74_16 (callD tab 23) e3 h16 := seq_nx q15
  have z16 : r74_16 (callD tab 23) e3 h16 = .rt (.bl true) h17 := q16
  exact (z0).trans ((z1).trans ((z2).trans ((z3).trans ((z4).trans ((z5).trans ((z6).trans ((z7).trans ((z8).trans ((z9).trans ((z10).trans ((z11).trans ((z12).trans ((z13).trans ((z14).trans ((z15).trans (z16))))))))))))))))
theorem f3 (h : Mem) (a : AtM h 673 k3) : ∃ h', callD tab 23 76 [(.ref 1), (.ref 2), (.tup [(.int 0), (.int 0), (.int 0), (.int 0)]), (.tup [(.int 0), (.int 0), (.int 0), (.int 1)])] h = .ok (.bl true) h' ∧ AtM h' 1326 k3 := by
  obtain ⟨h1, q0, a1⟩ := c3_0 h a
  obtain ⟨h2, q1, a2⟩ := c3_1 h1 a1
  obtain ⟨h3, q2, a3⟩ := c3_2 h2 a2
  obtain ⟨h4, q3, a4⟩ := c3_3 h3 a3
  obtain ⟨h5, q4, a5⟩ := c3_4 h4 a4
  obtain ⟨h6, q5, a6⟩ := c3_5 h5 a5
  obtain ⟨h7, q6, a7⟩ := c3_6 h6 a6
  obtain ⟨h8, q7, a8⟩ := c3_7 h7 a7
  obtain ⟨h9, q8, a9⟩ := c3_8 h8 a8
  obtain ⟨h10, q9, a10⟩ := c3_9 h9 a9
  obtain ⟨h11, q10, a11⟩ := c3_10 h10 a10
  obtain ⟨h12, q11, a12⟩ := c3_11 h11 a11
  obtain ⟨h13, q12, a13⟩ := c3_12 h12 a12
  obtain ⟨h14, q13, a14⟩ := c3_13 h13 a13
  refine ⟨h14, ?_, a14⟩
  refine call_rt (d := ⟨4, 7, b76⟩) (by rfl) (by rfl) ?_
  have z0 : b76 (callD tab 22) e4 h = r76_1 (callD tab 22) e4 h1 := seq_nx q0
  have z1 : r76_1 (callD tab 22) e4 h1 = r76_2 (callD tab 22) e4 h2 := seq_nx q1
  have z2 : r76_2 (callD tab 22) e4 h2 = r76_3 (callD tab 22) e4 h3 := seq_nx q2
  have z3 : r76_3 (callD tab 22) e4 h3 = r76_4 (callD tab 22) e4 h4 := seq_nx q3
  have z4 : r76_4 (callD tab 22) e4 h4 = r76_5 (callD tab 22) e4 h5 := seq_nx q4
  have z5 : r76_5 (callD tab 22) e4 h5 = r76_6 (callD tab 22) e4 h6 := seq_nx q5
  have z6 : r76_6 (callD tab 22) e4 h6 = r76_7 (callD tab 22) e4 h7 := seq_nx q6
  have z7 : r76_7 (callD tab 22) e4 h7 = r76_8 (callD tab 22) e4 h8 := seq_nx q7
  have z8 : r76_8 (callD tab 22) e4 h8 = r76_9 (callD tab 22) e4 h9 := seq_nx q8
  have z9 : r76_9 (callD tab 22) e4 h9 = r76_10 (callD tab 22) e5 h10 := seq_nx q9
  have z10 : r76_10 (callD tab 22) e5 h10 = r76_11 (callD tab 22) e5 h11 := seq_nx q10
  have z11 : r76_11 (callD tab 22) e5 h11 = r76_12 (callD tab 22) e6 h12 := seq_nx q11
  have z12 : r76_12 (callD tab 22) e6 h12 = r76_13 (callD tab 22) e6 h13 := seq_nx q12
  have z13 : r76_13 (callD tab 22) e6 h13 = .rt (.bl true) h14 := q13
  exact (z0).trans ((z1).trans ((z2).trans ((z3).trans ((z4).trans ((z5).trans ((z6).trans ((z7).trans ((z8).trans ((z9).trans ((z10).trans ((z11).trans ((z12).trans (z13)))))))))))))
theorem c2_15 (h : Mem) (a : AtM h 673 k3) : ∃ h', sRe b75_15 (callD tab 23) e21 h = .rt (.bl true) h' ∧ AtM h' 1326 k0 := by
  unfold sRe
  have a0 := a.re
  generalize h.re = g0 at a0
  obtain ⟨g1, q0, a1⟩ := f3 g0 a0
  have a1 := a1.sub (kn' := k0) (by simp [k0, k3])
  refine ⟨g1, ?_, a1⟩
  simp [b75_15, e21, runFd, sSeq, sIf, sRet, sExpr, sAsg, sOf, endS, tE, tAnd, tOr, tNot, tYes, eCmp, eVar, eC, eBin, eLen, lenV, cmpop, ltV, icmp, eSub, subV, itemsOf, binop, addV, mulV, mapInt2, eB, gInt, gMax2, gMin2, aCons, aNil, eCall, tgG, gName, gUnp, setAll, eTup, eIf, eAnd, eOr, eNot, Res.bind, ofO, Option.map, sNil, cnd, q0]
theorem f2 (h : Mem) (a : AtM h 208 k0) : ∃ h', callD tab 24 75 [(.ref 1), (.ref 2)] h = .ok (.bl true) h' ∧ AtM h' 1326 k0 := by
  obtain ⟨h1, q0, a1⟩ := c2_0 h a
  obtain ⟨h2, q1, a2⟩ := c2_1 h1 a1
  obtain ⟨h3, q2, a3⟩ := c2_2 h2 a2
  obtain ⟨h4, q3, a4⟩ := c2_3 h3 a3
  obtain ⟨h5, q4, a5⟩ := c2_4 h4 a4
  obtain ⟨h6, q5, a6⟩ := c2_5 h5 a5
  obtain ⟨h7, q6, a7⟩ := c2_6 h6 a6
  obtain ⟨h8, q7, a8⟩ := c2_7 h7 a7
  obtain ⟨h9, q8, a9⟩ := c2_8 h8 a8
  obtain ⟨h10, q9, a10⟩ := c2_9 h9 a9
  obtain ⟨h11, q10, a11⟩ := c2_10 h10 a10
  obtain ⟨h12, q11, a12⟩ := c2_11 h11 a11
  obtain ⟨h13, q12, a13⟩ := c2_12 h12 a12
  obtain ⟨h14, q13, a14⟩ := c2_13 h13 a13
  obtain ⟨h15, q14, a15⟩ := c2_14 h14 a14
  obtain ⟨h16, q15, a16⟩ := c2_15 h15 a15
  refine ⟨h16, ?_, a16⟩
  refine call_rt (d := ⟨2, 12, b75⟩) (by rfl) (by rfl) ?_
  have z0 : b75 (callD tab 23) e7 h = r75_1 (callD tab 23) e8 h1 := seq_nx q0
  have z1 : r75_1 (callD tab 23) e8 h1 = r75_2 (callD tab 23) e9 h2 := seq_nx q1
  have z2 : r75_2 (callD tab 23) e9 h2 = r75_3 (callD tab 23) e10 h3 := seq_nx q2
  have z3 : r75_3 (callD tab 23) e10 h3 = r75_4 (callD tab 23) e11 h4 := seq_nx q3
  have z4 : r75_4 (callD tab 23) e11 h4 = r75_5 (callD tab 23) e12 h5 := seq_nx q4
  have z5 : r75_5 (callD tab 23) e12 h5 = r75_6 (callD tab 23) e13 h6 := seq_nx q5
  have z6 : r75_6 (callD tab 23) e13 h6 = r75_7 (callD tab 23) e14 h7 := seq_nx q6
  have z7 : r75_7 (callD tab 23) e14 h7 = r75_8 (callD tab 23) e15 h8 := seq_nx q7
  have z8 : r75_8 (callD tab 23) e15 h8 = r75_9 (callD tab 23) e16 h9 := seq_nx q8
  have z9 : r75_9 (callD tab 23) e16 h9 = r75_10 (callD tab 23) e17 h10 := seq_nx q9
  have z10 : r75_10 (callD tab 23) e17 h10 = r75_11 (callD tab 23) e18 h11 := seq_nx q10
  have z11 : r75_11 (callD tab 23) e18 h11 = r75_12 (callD tab 23) e19 h12 := seq_nx q11
  have z12 : r75_12 (callD tab 23) e19 h12 = r75_13 (callD tab 23) e20 h13 := seq_nx q12
  have z13 : r75_13 (callD tab 23) e20 h13 = r75_14 (callD tab 23) e20 h14 := seq_nx q13
  have z14 : r75_14 (callD tab 23) e20 h14 = r75_15 (callD tab 23) e21 h15 := seq_nx q14
  have z15 : r75_15 (callD tab 23) e21 h15 = .rt (.bl true) h16 := q15
  exact (z0).trans ((z1).trans ((z2).trans ((z3).trans ((z4).trans ((z5).trans ((z6).trans ((z7).trans ((z8).trans ((z9).trans ((z10).trans ((z11).trans ((z12).trans ((z13).trans ((z14).trans (z15)))))))))))))))
theorem f5 (h : Mem) (a : AtM h 2098 k18) : ∃ h', callD tab 23 78 [(.ref 1326), (.ref 1327)] h = .ok (.bl true) h' ∧ AtM h' 2362 k18 := by
  obtain ⟨h1, q0, a1⟩ := c5_0 h a
  obtain ⟨h2, q1, a2⟩ := c5_1 h1 a1
  obtain ⟨h3, q2, a3⟩ := c5_2 h2 a2
  obtain ⟨h4, q3, a4⟩ := c5_3 h3 a3
  obtain ⟨h5, q4, a5⟩ := c5_4 h4 a4
  obtain ⟨h6, q5, a6⟩ := c5_5 h5 a5
  obtain ⟨h7, q6, a7⟩ := c5_6 h6 a6
  obtain ⟨h8, q7, a8⟩ := c5_7 h7 a7
  obtain ⟨h9, q8, a9⟩ := c5_8 h8 a8
  obtain ⟨h10, q9, a10⟩ := c5_9 h9 a9
  obtain ⟨h11, q10, a11⟩ := c5_10 h10 a10
  obtain ⟨h12, q11, a12⟩ := c5_11 h11 a11
  obtain ⟨h13, q12, a13⟩ := c5_12 h12 a12
  obtain ⟨h14, q13, a14⟩ := c5_13 h13 a13
  obtain ⟨h15, q14, a15⟩ := c5_14 h14 a14
  obtain ⟨h16, q15, a16⟩ := c5_15 h15 a15
  refine ⟨h16, ?_, a16⟩
  refine call_rt (d := ⟨2, 5, b78⟩) (by rfl) (by rfl) ?_
  have z0 : b78 (callD tab 22) e22 h = r78_1 (callD tab 22) e23 h1 := seq_nx q0
  have z1 : r78_1 (callD tab 22) e23 h1 = r78_2 (callD tab 22) e23 h2 := seq_nx q1
  have z2 : r78_2 (callD tab 22) e23 h2 = r78_3 (callD tab 22) e23 h3 := seq_nx q2
  have z3 : r78_3 (callD tab 22) e23 h3 = r78_4 (callD tab 22) e23 h4 := seq_nx q3
  have z4 : r78_4 (callD tab 22) e23 h4 = r78_5 (callD tab 22) e23 h5 := seq_nx q4
  have z5 : r78_5 (callD tab 22) e23 h5 = r78_6 (callD tab 22) e23 h6 := seq_nx q5
  have z6 : r78_6 (callD tab 22) e23 h6 = r78_7 (callD tab 22) e23 h7 := seq_nx q6
  have z7 : r78_7 (callD tab 22) e23 h7 = r78_8 (callD tab 22) e23 h8 := seq_nx q7
  have z8 : r78_8 (callD tab 22) e23 h8 = r78_9 (callD tab 22) e24 h9 := seq_nx q8
  have z9 : r78_9 (callD tab 22) e24 h9 = r78_10 (callD tab 22) e24 h10 := seq_nx q9
  have z10 : r78_10 (callD tab 22) e24 h10 = r78_11 (callD tab 22) e24 h11 := seq_nx q10
  have z11 : r78_11 (callD tab 22) e24 h11 = r78_12 (callD tab 22) e24 h12 := seq_nx q11
  have z12 : r78_12 (callD tab 22) e24 h12 = r78_13 (callD tab 22) e24 h13 := seq_nx q12
  have z13 : r78_13 (callD tab 22) e24 h13 = r78_14 (callD tab 22) e24 h14 := seq_nx q13
  have z14 : r78_14 (callD tab 22) e24 h14 = r78_15 (callD tab 22) e24 h15 := seq_nx q14
  have z15 : r78_15 (callD tab 22) e24 h15 = .rt (.bl true) h16 := q15
  exact (z0).trans ((z1).trans ((z2).trans ((z3).trans ((z4).trans ((z5).trans ((z6).trans ((z7).trans ((z8).trans ((z9).trans ((z10).trans ((z11).trans ((z12).trans ((z13).trans ((z14).trans (z15)))))))))))))))
theorem f6 (h : Mem) (a : AtM h 2362 k18) : ∃ h', callD tab 23 79 [(.ref 1)] h = .ok (.bl true) h' ∧ AtM h' 4623 k18 := by
  obtain ⟨h1, q0, a1⟩ := c6_0 h a
  obtain ⟨h2, q1, a2⟩ := c6_1 h1 a1
  obtain ⟨h3, q2, a3⟩ := c6_2 h2 a2
  obtain ⟨h4, q3, a4⟩ := c6_3 h3 a3
  refine ⟨h4, ?_, a4⟩
  refine call_rt (d := ⟨1, 1, b79⟩) (by rfl) (by rfl) ?_
  have z0 : b79 (callD tab 22) e25 h = r79_1 (callD tab 22) e25 h1 := seq_nx q0
  have z1 : r79_1 (callD tab 22) e25 h1 = r79_2 (callD tab 22) e25 h2 := seq_nx q1
  have z2 : r79_2 (callD tab 22) e25 h2 = r79_3 (callD tab 22) e25 h3 := seq_nx q2
  have z3 : r79_3 (callD tab 22) e25 h3 = .rt (.bl true) h4 := q3
  exact (z0).trans ((z1).trans ((z2).trans (z3)))
theorem c4_13 (h : Mem) (a : AtM h 2098 k18) : ∃ h', sRe b77_13 (callD tab 23) e28 h = .rt (.bl true) h' ∧ AtM h' 4623 k0 := by
  unfold sRe
  have a0 := a.re
  generalize h.re = g0 at a0
  obtain ⟨g1, q0, a1⟩ := f5 g0 a0
  obtain ⟨g2, q1, a2⟩ := f6 g1 a1
  have a2 := a2.sub (kn' := k0) (by simp [k0, k18])
  refine ⟨g2, ?_, a2⟩
  simp [b77_13, e28, runFd, sSeq, sIf, sRet, sExpr, sAsg, sOf, endS, tE, tAnd, tOr, tNot, tYes, eCmp, eVar, eC, eBin, eLen, lenV, cmpop, ltV, icmp, eSub, subV, itemsOf, binop, addV, mulV, mapInt2, eB, gInt, gMax2, gMin2, aCons, aNil, eCall, tgG, gName, gUnp, setAll, eTup, eIf, eAnd, eOr, eNot, Res.bind, ofO, Option.map, sNil, cnd, q0, q1]
theorem f4 (h : Mem) (a : AtM h 1326 k0) : ∃ h', callD tab 24 77 [(.ref 1), (.ref 2)] h = .ok (.bl true) h' ∧ AtM h' 4623 k0 := by
  obtain ⟨h1, q0, a1⟩ := c4_0 h a
  obtain ⟨h2, q1, a2⟩ := c4_1 h1 a1
  obtain ⟨h3, q2, a3⟩ := c4_2 h2 a2
  obtain ⟨h4, q3, a4⟩ := c4_3 h3 a3
  obtain ⟨h5, q4, a5⟩ := c4_4 h4 a4
  obtain ⟨h6, q5, a6⟩ := c4_5 h5 a5
  obtain ⟨h7, q6, a7⟩ := c4_6 h6 a6
  obtain ⟨h8, q7, a8⟩ := c4_7 h7 a7
  obtain ⟨h9, q8, a9⟩ := c4_8 h8 a8
  obtain ⟨h10, q9, a10⟩ := c4_9 h9 a9
  obtain ⟨h11, q10, a11⟩ := c4_10 h10 a10
  obtain ⟨h12, q11, a12⟩ := c4_11 h11 a11
  obtain ⟨h13, q12, a13⟩ := c4_12 h12 a12
  obtain ⟨h14, q13, a14⟩ := c4_13 h13 a13
  refine ⟨h14, ?_, a14⟩
  refine call_rt (d := ⟨2, 6, b77⟩) (by rfl) (by rfl) ?_
  have z0 : b77 (callD tab 23) e26 h = r77_1 (callD tab 23) e27 h1 := seq_nx q0
  have z1 : r77_1 (callD tab 23) e27 h1 = r77_2 (callD tab 23) e28 h2 := seq_nx q1
  have z2 : r77_2 (callD tab 23) e28 h2 = r77_3 (callD tab 23) e28 h3 := seq_nx q2
  have z3 : r77_3 (callD tab 23) e28 h3 = r77_4 (callD tab 23) e28 h4 := seq_nx q3
  have z4 : r77_4 (callD tab 23) e28 h4 = r77_5 (callD tab 23) e28 h5 := seq_nx q4
  have z5 : r77_5 (callD tab 23) e28 h5 = r77_6 (callD tab 23) e28 h6 := seq_nx q5
  have z6 : r77_6 (callD tab 23) e28 h6 = r77_7 (callD tab 23) e28 h7 := seq_nx q6
  have z7 : r77_7 (callD tab 23) e28 h7 = r77_8 (callD tab 23) e28 h8 := seq_nx q7
  have z8 : r77_8 (callD tab 23) e28 h8 = r77_9 (callD tab 23) e28 h9 := seq_nx q8
  have z9 : r77_9 (callD tab 23) e28 h9 = r77_10 (callD tab 23) e28 h10 := seq_nx q9
  have z10 : r77_10 (callD tab 23) e28 h10 = r77_11 (callD tab 23) e28 h11 := seq_nx q10
  have z11 : r77_11 (callD tab 23) e28 h11 = r77_12 (callD tab 23) e28 h12 := seq_nx q11
  have z12 : r77_12 (callD tab 23) e28 h12 = r77_13 (callD tab 23) e28 h13 := seq_nx q12
  have z13 : r77_13 (callD tab 23) e28 h13 = .rt (.bl true) h14 := q13
  exact (z0).trans ((z1).trans ((z2).trans ((z3).trans ((z4).trans ((z5).trans ((z6).trans ((z7).trans ((z8).trans ((z9).trans ((z10).trans ((z11).trans ((z12).trans (z13)))))))))))))
theorem c0_1 (h : Mem) (a : AtM h 4 k0) : ∃ h', sRe b80_1 (callD tab 24) e30 h = .nx e30 h' ∧ AtM h' 1326 k0 := by
  unfold sRe
  have a0 := a.re
  generalize h.re = g0 at a0
  obtain ⟨g1, q0, a1⟩ := f1 g0 a0
  obtain ⟨g2, q1, a2⟩ := f2 g1 a1
  refine ⟨g2, ?_, a2⟩
  simp [b80_1, e30, runFd, sSeq, sIf, sRet, sExpr, sAsg, sOf, endS, tE, tAnd, tOr, tNot, tYes, eCmp, eVar, eC, eBin, eLen, lenV, cmpop, ltV, icmp, eSub, subV, itemsOf, binop, addV, mulV, mapInt2, eB, gInt, gMax2, gMin2, aCons, aNil, eCall, tgG, gName, gUnp, setAll, eTup, eIf, eAnd, eOr, eNot, Res.bind, ofO, Option.map, sNil, cnd, q0, q1]
theorem c0_2 (h : Mem) (a : AtM h 1326 k0) : ∃ h', sRe b80_2 (callD tab 24) e30 h = .rt (.bl true) h' ∧ AtM h' 4623 k23 := by
  unfold sRe
  have a0 := a.re
  generalize h.re = g0 at a0
  obtain ⟨g1, q0, a1⟩ := f4 g0 a0
  have a1 := a1.sub (kn' := k23) (by simp [k23, k0])
  refine ⟨g1, ?_, a1⟩
  simp [b80_2, e30, runFd, sSeq, sIf, sRet, sExpr, sAsg, sOf, endS, tE, tAnd, tOr, tNot, tYes, eCmp, eVar, eC, eBin, eLen, lenV, cmpop, ltV, icmp, eSub, subV, itemsOf, binop, addV, mulV, mapInt2, eB, gInt, gMax2, gMin2, aCons, aNil, eCall, tgG, gName, gUnp, setAll, eTup, eIf, eAnd, eOr, eNot, Res.bind, ofO, Option.map, sNil, cnd, q0]
theorem f0 (h : Mem) (a : AtM h 1 k23) : ∃ h', callD tab 25 80 [(.ref 0)] h = .ok (.bl true) h' ∧ AtM h' 4623 k23 := by
  obtain ⟨h1, q0, a1⟩ := c0_0 h a
  obtain ⟨h2, q1, a2⟩ := c0_1 h1 a1
  obtain ⟨h3, q2, a3⟩ := c0_2 h2 a2
  refine ⟨h3, ?_, a3⟩
  refine call_rt (d := ⟨1, 4, b80⟩) (by rfl) (by rfl) ?_
  have z0 : b80 (callD tab 24) e29 h = r80_1 (callD tab 24) e30 h1 := seq_nx q0
  have z1 : r80_1 (callD tab 24) e30 h1 = r80_2 (callD tab 24) e30 h2 := seq_nx q1
  have z2 : r80_2 (callD tab 24) e30 h2 = .rt (.bl true) h3 := q2
  exact (z0).trans ((z1).trans (z2))
theorem ev : ∀ ns : List Int, ns.length ≤ 63 → ∃ h', callD tab (24 + 1) 80 [.ref 0] (mem0 ns) = .ok (.bl true) h' := fun ns _ => by
  obtain ⟨h', e, _⟩ := f0 (mem0 ns) (at_of (by rfl))
  exact ⟨h', e⟩
end HT
end

section
set_option Elab.async false
set_option linter.all false
set_option maxRecDepth 100000
set_option maxHeartbeats 0
namespace HT
open PySem PySem.Spec PyProof.Rows L2 Ev
theorem tabok : TabOk' gs ds tab 40 where
  tabs := gsok
  fd := fun f d e => match f, e with
    | 0, e => by cases (show some (⟨3, 3, b0⟩ : Fd) = some d from e); exact d0
    | 1, e => by cases (show some (⟨2, 6, b1⟩ : Fd) = some d from e); exact d1
    | 2, e => by cases (show some (⟨2, 5, b2⟩ : Fd) = some d from e); exact d2
    | 3, e => by cases (show some (⟨2, 3, b3⟩ : Fd) = some d from e); exact d3
    | 4, e => by cases (show some (⟨1, 1, b4⟩ : Fd) = some d from e); exact d4
    | 5, e => by cases (show some (⟨5, 5, b5⟩ : Fd) = some d from e); exact d5
    | 6, e => by cases (show some (⟨1, 1, b6⟩ : Fd) = some d from e); exact d6
    | 7, e => by cases (show some (⟨2, 2, b7⟩ : Fd) = some d from e); exact d7
    | 8, e => by cases (show some (⟨1, 1, b8⟩ : Fd) = some d from e); exact d8
    | 9, e => by cases (show some (⟨1, 1, b9⟩ : Fd) = some d from e); exact d9
    | 10, e => by cases (show some (⟨1, 1, b10⟩ : Fd) = some d from e); exact d10
    | 11, e => by cases (show some (⟨1, 1, b11⟩ : Fd) = some d from e); exact d11
    | 12, e => by cases (show some (⟨1, 1, b12⟩ : Fd) = some d from e); exact d12
    | 13, e => by cases (show some (⟨1, 1, b13⟩ : Fd) = some d from e); exact d13
    | 14, e => by cases (show some (⟨2, 7, b14⟩ : Fd) = some d from e); exact d14
    | 15, e => by cases (show some (⟨2, 2, b15⟩ : Fd) = some d from e); exact d15
    | 16, e => by cases (show some (⟨1, 1, b16⟩ : Fd) = some d from e); exact d16
    | 17, e => by cases (show some (⟨2, 4, b17⟩ : Fd) = some d from e); exact d17
    | 18, e => by cases (show some (⟨2, 2, b18⟩ : Fd) = some d from e); exact d18
    | 19, e => by cases (show some (⟨2, 5, b19⟩ : Fd) = some d from e); exact d19
    | 20, e => by cases (show some (⟨3, 3, b20⟩ : Fd) = some d from e); exact d20
    | 21, e => by cases (show some (⟨4, 7, b21⟩ : Fd) = some d from e); exact d21
    | 22, e => by cases (show some (⟨4, 13, b22⟩ : Fd) = some d from e); exact d22
    | 23, e => by cases (show some (⟨3, 4, b23⟩ : Fd) = some d from e); exact d23
    | 24, e => by cases (show some (⟨2, 2, b24⟩ : Fd) = some d from e); exact d24
    | 25, e => by cases (show some (⟨3, 4, b25⟩ : Fd) = some d from e); exact d25
    | 26, e => by cases (show some (⟨2, 2, b26⟩ : Fd) = some d from e); exact d26
    | 27, e => by cases (show some (⟨2, 2, b27⟩ : Fd) = some d from e); exact d27
    | 28, e => by cases (show some (⟨2, 6, b28⟩ : Fd) = some d from e); exact d28
    | 29, e => by cases (show some (⟨3, 5, b29⟩ : Fd) = some d from e); exact d29
    | 30, e => by cases (show some (⟨4, 4, b30⟩ : Fd) = some d from e); exact d30
    | 31, e => by cases (show some (⟨2, 2, b31⟩ : Fd) = some d from e); exact d31
    | 32, e => by cases (show some (⟨1, 1, b32⟩ : Fd) = some d from e); exact d32
    | 33, e => by cases (show some (⟨3, 4, b33⟩ : Fd) = some d from e); exact d33
    | 34, e => by cases (show some (⟨3, 7, b34⟩ : Fd) = some d from e); exact d34
    | 35, e => by cases (show some (⟨3, 8, b35⟩ : Fd) = some d from e); exact d35
    | 36, e => by cases (show some (⟨2, 2, b36⟩ : Fd) = some d from e); exact d36
    | 37, e => by cases (show some (⟨1, 1, b37⟩ : Fd) = some d from e); exact d37
    | 38, e => by cases (show some (⟨2, 2, b38⟩ : Fd) = some d from e); exact d38
    | 39, e => by cases (show some (⟨3, 7, b39⟩ : Fd) = some d from e); exact d39
    | 40, e => by cases (show some (⟨2, 8, b40⟩ : Fd) = some d from e); exact d40
    | 41, e => by cases (show some (⟨2, 2, b41⟩ : Fd) = some d from e); exact d41
    | 42, e => by cases (show some (⟨2, 2, b42⟩ : Fd) = some d from e); exact d42
    | 43, e => by cases (show some (⟨2, 2, b43⟩ : Fd) = some d from e); exact d43
    | 44, e => by cases (show some (⟨2, 5, b44⟩ : Fd) = some d from e); exact d44
    | 45, e => by cases (show some (⟨2, 2, b45⟩ : Fd) = some d from e); exact d45
    | 46, e => by cases (show some (⟨2, 6, b46⟩ : Fd) = some d from e); exact d46
    | 47, e => by cases (show some (⟨2, 3, b47⟩ : Fd) = some d from e); exact d47
    | 48, e => by cases (show some (⟨1, 5, b48⟩ : Fd) = some d from e); exact d48
    | 49, e => by cases (show some (⟨1, 4, b49⟩ : Fd) = some d from e); exact d49
    | 50, e => by cases (show some (⟨2, 2, b50⟩ : Fd) = some d from e); exact d50
    | 51, e => by cases (show some (⟨2, 5, b51⟩ : Fd) = some d from e); exact d51
    | 52, e => by cases (show some (⟨3, 11, b52⟩ : Fd) = some d from e); exact d52
    | 53, e => by cases (show some (⟨2, 6, b53⟩ : Fd) = some d from e); exact d53
    | 54, e => by cases (show some (⟨3, 4, b54⟩ : Fd) = some d from e); exact d54
    | 55, e => by cases (show some (⟨3, 4, b55⟩ : Fd) = some d from e); exact d55
    | 56, e => by cases (show some (⟨4, 5, b56⟩ : Fd) = some d from e); exact d56
    | 57, e => by cases (show some (⟨3, 3, b57⟩ : Fd) = some d from e); exact d57
    | 58, e => by cases (show some (⟨1, 1, b58⟩ : Fd) = some d from e); exact d58
    | 59, e => by cases (show some (⟨2, 2, b59⟩ : Fd) = some d from e); exact d59
    | 60, e => by cases (show some (⟨3, 5, b60⟩ : Fd) = some d from e); exact d60
    | 61, e => by cases (show some (⟨2, 2, b61⟩ : Fd) = some d from e); exact d61
    | 62, e => by cases (show some (⟨1, 1, b62⟩ : Fd) = some d from e); exact d62
    | 63, e => by cases (show some (⟨2, 2, b63⟩ : Fd) = some d from e); exact d63
    | 64, e => by cases (show some (⟨3, 3, b64⟩ : Fd) = some d from e); exact d64
    | 65, e => by cases (show some (⟨2, 2, b65⟩ : Fd) = some d from e); exact d65
    | 66, e => by cases (show some (⟨1, 1, b66⟩ : Fd) = some d from e); exact d66
    | 67, e => by cases (show some (⟨3, 3, b67⟩ : Fd) = some d from e); exact d67
    | 68, e => by cases (show some (⟨2, 8, b68⟩ : Fd) = some d from e); exact d68
    | 69, e => by cases (show some (⟨2, 3, b69⟩ : Fd) = some d from e); exact d69
    | 70, e => by cases (show some (⟨2, 2, b70⟩ : Fd) = some d from e); exact d70
    | 71, e => by cases (show some (⟨1, 2, b71⟩ : Fd) = some d from e); exact d71
    | 72, e => by cases (show some (⟨1, 6, b72⟩ : Fd) = some d from e); exact d72
    | 73, e => by cases (show some (⟨2, 5, b73⟩ : Fd) = some d from e); exact d73
    | 74, e => by cases (show some (⟨1, 4, b74⟩ : Fd) = some d from e); exact d74
    | 75, e => by cases (show some (⟨2, 12, b75⟩ : Fd) = some d from e); exact d75
    | 76, e => by cases (show some (⟨4, 7, b76⟩ : Fd) = some d from e); exact d76
    | 77, e => by cases (show some (⟨2, 6, b77⟩ : Fd) = some d from e); exact d77
    | 78, e => by cases (show some (⟨2, 5, b78⟩ : Fd) = some d from e); exact d78
    | 79, e => by cases (show some (⟨1, 1, b79⟩ : Fd) = some d from e); exact d79
    | 80, e => by cases (show some (⟨1, 4, b80⟩ : Fd) = some d from e); exact d80
    | f + 81, e => by cases (show (none : Option Fd) = some d from e)
theorem itok : ∀ q ∈ gs.its, ItTx gs ds tab q := fun q hq => by
    simp only [show gs.its = [(3, 0, 37, Str.ofString "states")] from rfl, List.mem_cons, List.not_mem_nil, or_false] at hq
    subst hq
    exact it0
theorem hx : ∃ (df : Df), ds[80]? = some df ∧ FnScope df.N [Str.ofString "_law_script"] df.scope ∧ (∀ (kV doc pm : Value) (an : Option Addr) (cdv ct : Value) (us : List Value), us.length = [Str.ofString "_law_script"].length → bindArgs (PySem.W.fnOf df.name df.qual df.params df.body df.scope .none kV doc pm an cdv ct) ⟨us, []⟩ = pure ([Str.ofString "_law_script"].zip us)) ∧
      nthF tab 80 = some ⟨1, df.N.length, (lev evA gs 40).ss ⟨df.N, df.scope, fun _ => true, df.lam, df.re⟩ df.body⟩ :=
  ⟨_, rfl, ⟨rfl, rfl, rfl, by decide +kernel, by decide +kernel, by decide +kernel, by decide +kernel⟩, fun _ _ _ _ _ _ us hl => match us, hl with | [_], _ => rfl, by kernel_rfl⟩
theorem hrole : ((Str.ofString "law"), Rl.fn 80) ∈ gs.roles := look_mem (by kernel_rfl)
end HT
open PySem PySem.W PySem.Calls PyProof.Rows
theorem PySem.Challenge.cw_coolway_k06_known_holds : PySem.Challenge.rw_coolway_k06_known.Holds := by
  w_on; o_law
  refine HandSHeadRun.head_any (r := OpenLaw.row PySem.Challenge.rw_coolway_k06_known) (q := view (OpenLaw.row PySem.Challenge.rw_coolway_k06_known).prog [79]) (H := HT.hk) (ob := HT.ob) (M := 20000) (loose := HT.loose) (d := HandSHeadRun.topDef (OpenLaw.row PySem.Challenge.rw_coolway_k06_known).prog 79) (kwd := []) HT.ob_eq
    (by kernel_rfl) (fun s => by kernel_rfl) HT.run (by kernel_rfl) (by kernel_rfl) (by kernel_rfl) (by rfl) (by first | assumption | decide +kernel) (by decide +kernel) ⟨rfl, rfl, rfl, rfl, rfl, by decide +kernel⟩ ?hw ?hc
  case hw => w_witness2
  case hc =>
    refine LamX.walk_ofTsE (l := PySem.Challenge.rw_coolway_k06_known) (n := 63) (k := 6 * 24 + 5 + 1) (x := Str.ofString "_law_script") (CX := fun _ _ _ _ _ _ _ => False) rfl (by decide) (by kernel_rfl) ⟨rfl, by decide, by decide⟩ ?F (fun _ _ _ _ _ z => z)
    intro w mg fa h Y G hmg0
    have hmg : mg (Str.ofString "law") = some (.ref fa) := by
      have e : (HandSHeadRun.topDef (OpenLaw.row PySem.Challenge.rw_coolway_k06_known).prog 79).name = (Str.ofString "law") := by kernel_rfl
      rw [← e]
      exact hmg0
    exact Ev.ev_law (k := 24) HT.tabok HT.itok Y G hmg HT.hrole HT.hx HT.ev
#print axioms PySem.Challenge.cw_coolway_k06_known_holds
end
