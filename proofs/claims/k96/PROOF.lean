import PyProof.Rows.All
import Wide.All
import OpenK.AllK
import Wide.FinOn
import KE.KNest
import KE.KNestM
import KE.KWithOwn
import HandS.ForMost
import HandS.Exc
import HandS.Defaults
import HandS.ClsMeth
import HandS.Property
import HandS.HeadHook4
import HandS.Head2
import HandS.HeadWalk
import HandS.Style
import HandS.Star
import HandS.IsInst
import HandS.Conv
import HandS.Walk
import HandS.DictComp
import HandS.MakeKwOnly
import HandS.Set
import HandS.SetKeys
import HandS.SetBool
import HandS.SortInts
import PyProof.CollectStr
import PyProof.ListStr
import KE.KDictCopyH
import HandS.ListItems
import PyProof.Rows.SortShellAny
import KE.KRevSl
import PyProof.StrLawsIn
import HandS.Lambda
import HandS.NestedK
import KE.KStateDown
import HandS.HeadEnd
import PySem.Challenge.RW_cabmeters_k96_whole_one_fact_more
/-! text CabH -/
set_option Elab.async false
set_option linter.all false
set_option maxRecDepth 100000
set_option maxHeartbeats 2000000
/-! the head's facts by paths: defs of the module, methods, getters, classmethods -/
namespace Cab
open PySem PySem.Spec PyProof.Rows L2 He

def pG (x : Str) : PySem.W.Frag → Addr := fun K => ga K x
def pM (C m : Str) : PySem.W.Frag → Addr := fun K => ma K (ga K C) m
/-- the descriptor that a class holds under a name -/
def dsAt (K : PySem.W.Frag) (C f : Str) : Addr := ma K (ga K C) f
/-- the def that a descriptor's record holds first -/
def recFst (K : PySem.W.Frag) (p : Addr) (T : String) : Addr := match PySem.W.recIn K p T with
  | some (.ref g :: _) => g
  | _ => 0
def recB (K : PySem.W.Frag) (p : Addr) (T : String) : Bool := match PySem.W.recIn K p T with
  | some (.ref _ :: _) => true
  | _ => false
theorem recB_ok {K : PySem.W.Frag} {p : Addr} {T : String} (h : recB K p T = true) : ∃ rest, PySem.W.recIn K p T = some (.ref (recFst K p T) :: rest) := by
  unfold recB at h
  unfold recFst
  split at h
  · rename_i g rest e
    exact ⟨rest, by rw [e]⟩
  · cases h
def pP (C f : Str) : PySem.W.Frag → Addr := fun K => recFst K (dsAt K C f) "property"
def pC (C f : Str) : PySem.W.Frag → Addr := fun K => recFst K (dsAt K C f) "classmethod"
def propB (K : PySem.W.Frag) (C f : Str) : Bool := eqO (PySem.W.findIn K (.ref (ga K C)) f) (some (some (.ref (dsAt K C f)))) && (eqO (PySem.W.specialIn K (.ref (dsAt K C f)) "__get__") (some (some (.builtin "property.__get__"))) &&
  (decide (PySem.W.takesIn K (.ref (dsAt K C f)) = some true) && recB K (dsAt K C f) "property"))
theorem propB_ok {K : PySem.W.Frag} {C f : Str} (h : propB K C f = true) : PropOf K (ga K C) f (dsAt K C f) (pP C f K) := by
  obtain ⟨h1, h⟩ := ba h
  obtain ⟨h2, h⟩ := ba h
  obtain ⟨h3, h4⟩ := ba h
  exact ⟨eqO_ok h1, eqO_ok h2, of_decide_eq_true h3, recB_ok h4⟩
def isGet (r : Option PySem.W.CFound) (p C : Addr) : Bool := match r with
  | some (.get (.builtin b) (.ref q) .none (.ref D)) => decide (b = "classmethod.__get__") && (decide (q = p) && decide (D = C))
  | _ => false
theorem isGet_ok {r : Option PySem.W.CFound} {p C : Addr} (h : isGet r p C = true) : r = some (.get (.builtin "classmethod.__get__") (.ref p) .none (.ref C)) := by
  unfold isGet at h
  split at h
  · rename_i b q D
    obtain ⟨h1, h2⟩ := ba h
    obtain ⟨h3, h4⟩ := ba h2
    rw [of_decide_eq_true h1, of_decide_eq_true h3, of_decide_eq_true h4]
  · cases h
def cmetB (K : PySem.W.Frag) (C m : Str) : Bool := isGet (PySem.W.findCls K (.ref (ga K C)) (.type "type") m) (dsAt K C m) (ga K C) && (recB K (dsAt K C m) "classmethod" && PySem.W.fnIn K (pC C m K))
theorem cmetB_ok {K : PySem.W.Frag} {C m : Str} (h : cmetB K C m = true) : ClX.CMet K (ga K C) (.type "type") m (dsAt K C m) (pC C m K) := by
  obtain ⟨h1, h⟩ := ba h
  obtain ⟨h2, h3⟩ := ba h
  exact ⟨isGet_ok h1, recB_ok h2, h3⟩
def creadB (K : PySem.W.Frag) (C : Str) : Bool := PySem.W.readsIn K (ga K C) (.type "type") && eqO (PySem.W.specialIn K (.ref (ga K C)) "__getattribute__") (some (some (.builtin "type.__getattribute__")))
theorem creadB_ok {K : PySem.W.Frag} {C : Str} (h : creadB K C = true) : ClX.CRead K (ga K C) (.type "type") := by
  obtain ⟨h1, h2⟩ := ba h
  exact ⟨h1, eqO_ok h2⟩

/-- one def, found by a path -/
structure DefP where
  path : PySem.W.Frag → Addr
  name : Str
  qual : Str
  params : Arguments
  body : List Stmt
  scope : Scope
  dfl : List Dv
  kwd : List (Str × Dv)
def fnP (K : PySem.W.Frag) (a : Addr) : FnW := match K.lookup a with
  | some ⟨_, _, .func fd, _⟩ => some (fd.name, fd.qualname, fd.params, fd.body, fd.scope, fd.globals, fd.closure, fd.builtins)
  | _ => none
def DefP.val (d : DefP) : FnW := some (d.name, d.qual, d.params, .stmts d.body, d.scope, mainGlobals, [], builtinsNs)
def DefP.dvs (K : PySem.W.Frag) (d : DefP) : List V := d.dfl.map (Dv.v K)
def DefP.kws (K : PySem.W.Frag) (d : DefP) : List (Str × V) := d.kwd.map fun q => (q.1, q.2.v K)
def DefP.ok (K : PySem.W.Frag) (d : DefP) : Bool := PySem.W.keepIn K (.ref (d.path K)) && (match K.lookup (d.path K) with
  | some ⟨_, _, .func fd, _⟩ => PySem.W.codeIn K fd.code d.qual && (dflB K fd.defaults (d.dvs K) && kwdB K fd.kwdefaults (d.kws K))
  | _ => false)
theorem DefP.funD {K : PySem.W.Frag} {d : DefP} (e : fnP K (d.path K) = d.val) (c : d.ok K = true) : ∃ fd, FunD K d.name d.qual d.params d.body d.scope (d.dvs K) (d.kws K) (d.path K) fd := by
  obtain ⟨kp, c2⟩ := ba c
  unfold fnP at e
  cases q : K.lookup (d.path K) with
  | none =>
    rw [q] at c2
    cases c2
  | some o =>
    obtain ⟨oc, od, dt, osl⟩ := o
    rw [q] at c2 e
    cases dt with
    | func fd =>
      obtain ⟨n1, n2, n3, n4, n5, n6, n7, n8, n9, n10, n11, n12, n13, n14, n15⟩ := fd
      have e2 : (some (n1, n2, n3, n4, n5, n6, n7, n15) : FnW) = some (d.name, d.qual, d.params, .stmts d.body, d.scope, mainGlobals, [], builtinsNs) := e
      simp only [Option.some.injEq, Prod.mk.injEq] at e2
      obtain ⟨h1, h2, h3, h4, h5, h6, h7, h8⟩ := e2
      subst h1 h2 h3 h4 h5 h6 h7 h8
      obtain ⟨k1, k2⟩ := ba (show (PySem.W.codeIn K n13 d.qual && (dflB K n8 (d.dvs K) && kwdB K n9 (d.kws K))) = true from c2)
      obtain ⟨k3, k4⟩ := ba k2
      exact ⟨_, ⟨oc, od, n8, n9, n10, n11, n12, n13, n14, osl, rfl, q, k1, dflB_ok k3, kwdB_ok k4⟩, kp⟩
    | _ => cases c2
/-- the code object of the def at a, its table -/
def codeAt (K : PySem.W.Frag) (a : Addr) : Addr := match K.lookup a with
  | some ⟨_, _, .func fd, _⟩ => (match fd.code with
    | .ref c => c
    | _ => 0)
  | _ => 0
/-- the first positional default of a def: the empty tuple -/
def emptyTup (K : PySem.W.Frag) : Addr := dflAt ("Meter", some "__init__") 0 K
abbrev AlP : Type := (Bool × List FnW) × (Bool × Bool)
def obsP (fa : List Fa) (fp : List DefP) (exl : List (PySem.W.Frag → Bool)) (tb : Bool) (K : PySem.W.Frag) : AlP :=
  (((fa.all fun f => f.ok K) && fp.all fun d => d.ok K, fp.map fun d => fnP K (d.path K)), (exl.all fun f => f K, tb))
def valP (fp : List DefP) : AlP := ((true, fp.map DefP.val), (true, true))
def tabsP (g : Addr → Option Obj) (tf : List (PySem.W.Frag → Addr)) (K : PySem.W.Frag) : Bool := tf.all fun p => PySem.W.codeHdIn K (codeAt K (p K)) (tabOf K (codeAt K (p K))) && (match g (tabOf K (codeAt K (p K))) with
  | some o => emptyTab o
  | none => false)
structure SaysP (fa : List Fa) (fp : List DefP) (tf : List (PySem.W.Frag → Addr)) (exl : List (PySem.W.Frag → Bool)) (w : World) (h : Heap) (K : PySem.W.Frag) : Prop where
  t : ∃ tb, obsP fa fp exl tb K = valP fp
  hd : ∀ p ∈ tf, PySem.W.codeHdIn K (codeAt K (p K)) (tabOf K (codeAt K (p K))) = true
  out : ∀ p ∈ tf, K.lookup (tabOf K (codeAt K (p K))) = none
  empty : ∀ p ∈ tf, h.get? (tabOf K (codeAt K (p K))) = some { cls := .none, data := .fields #[] }
/-- the addresses that are looked at: the module's names; of functions the code objects and defaults; of some classes what they hold, and what a record there holds -/
def vRefs : Option Obj → List Addr
  | some ⟨_, _, .dict es _, _⟩ => es.toList.flatMap fun e => refV e.val
  | _ => []
def fRefs : Option Obj → List Addr
  | some ⟨_, _, .func fd, _⟩ => refV fd.code ++ (refV fd.defaults ++ refV fd.kwdefaults)
  | _ => []
def cNs : Option Obj → List Addr
  | some ⟨_, _, .cls cd, _⟩ => [cd.ns]
  | _ => []
def rRefs : Option Obj → List Addr
  | some ⟨_, _, .fields vs, _⟩ => vs.toList.flatMap refV
  | _ => []
def asC (xs : List Str) (g : Addr → Option Obj) : List Addr :=
  let l1 := vRefs (g mainGlobals)
  let ns := xs.flatMap fun x => cNs (g (ga (frG g [mainGlobals]) x))
  let ms := ns.flatMap fun n => vRefs (g n)
  let rs := ms.flatMap fun m => rRefs (g m)
  mainGlobals :: (ns ++ (l1 ++ ((l1.flatMap fun a => fRefs (g a)) ++ (ms ++ ((ms.flatMap fun a => fRefs (g a)) ++ (rs ++ ((rs.flatMap fun a => fRefs (g a)) ++ [cStatics])))))))
/-- a part of the heap, worked out to its places -/
def forceK {α : Type} : PySem.W.Frag → (PySem.W.Frag → α) → α
  | [], k => k []
  | (a, o) :: r, k => HandSHeadRun.frNat a fun a => match o with
    | ⟨c, d, dt, sl⟩ => forceK r fun r => k ((a, ⟨c, d, dt, sl⟩) :: r)
theorem forceK_eq {α : Type} : ∀ (K : PySem.W.Frag) (k : PySem.W.Frag → α), forceK K k = k K
  | [], k => rfl
  | (a, o) :: r, k => by
    unfold forceK
    rw [HandSHeadRun.frNat_eq]
    obtain ⟨c, d, dt, sl⟩ := o
    exact forceK_eq r _
def obsF (xs : List Str) (fa : List Fa) (fp : List DefP) (tf : List (PySem.W.Frag → Addr)) (exl : List (PySem.W.Frag → Bool)) (g : Addr → Option Obj) : AlP := forceK (frT g (asC xs g)) fun K => obsP fa fp exl (tabsP g tf K) K
def obsPG (xs : List Str) (fa : List Fa) (fp : List DefP) (tf : List (PySem.W.Frag → Addr)) (exl : List (PySem.W.Frag → Bool)) (g : Addr → Option Obj) : AlP := obsP fa fp exl (tabsP g tf (frT g (asC xs g))) (frT g (asC xs g))
theorem saysP_of {n : List Str} {fa : List Fa} {fp : List DefP} {tf : List (PySem.W.Frag → Addr)} {exl : List (PySem.W.Frag → Bool)} {w : World} {h : Heap} (e : obsPG n fa fp tf exl h.get? = valP fp) : SaysP fa fp tf exl w h (frT h.get? (asC n h.get?)) := by
  have e2 : tabsP h.get? tf (frT h.get? (asC n h.get?)) = true := congrArg (fun z : AlP => z.2.2) e
  have key : ∀ p ∈ tf, PySem.W.codeHdIn (frT h.get? (asC n h.get?)) (codeAt (frT h.get? (asC n h.get?)) (p (frT h.get? (asC n h.get?)))) (tabOf (frT h.get? (asC n h.get?)) (codeAt (frT h.get? (asC n h.get?)) (p (frT h.get? (asC n h.get?))))) = true ∧
      ∃ o, h.get? (tabOf (frT h.get? (asC n h.get?)) (codeAt (frT h.get? (asC n h.get?)) (p (frT h.get? (asC n h.get?))))) = some o ∧ emptyTab o = true := fun p hp => by
    obtain ⟨h3, h4⟩ := ba (List.all_eq_true.mp e2 p hp)
    refine ⟨h3, ?_⟩
    cases q : h.get? (tabOf (frT h.get? (asC n h.get?)) (codeAt (frT h.get? (asC n h.get?)) (p (frT h.get? (asC n h.get?))))) with
    | none =>
      rw [q] at h4
      cases h4
    | some o =>
      rw [q] at h4
      exact ⟨o, rfl, h4⟩
  exact ⟨⟨_, e⟩, fun p hp => (key p hp).1, fun p hp => by
    obtain ⟨_, o, q, z⟩ := key p hp
    exact frT_none q z, fun p hp => by
    obtain ⟨_, o, q, z⟩ := key p hp
    rw [q, emptyTab_eq z]⟩
def hookP (n : List Str) (fa : List Fa) (fp : List DefP) (tf : List (PySem.W.Frag → Addr)) (exl : List (PySem.W.Frag → Bool)) : PySem.W.Hook where
  α := AlP
  obs := fun s => obsPG n fa fp tf exl s.heap.get?
  val := fun _ => valP fp
  says := fun w h => ∃ K : PySem.W.Frag, K.In h ∧ SaysP fa fp tf exl w h K
  of := fun _ _ e => ⟨_, frT_in, saysP_of e⟩
  keeps := fun _ _ _ ⟨K, hK, c⟩ k => ⟨K, PySem.W.Frag.In.keeps hK k, ⟨c.t, c.hd, c.out, fun p hp => k _ _ (c.empty p hp)⟩⟩
theorem obsPG_eq {n : List Str} {fa : List Fa} {fp : List DefP} {tf : List (PySem.W.Frag → Addr)} {exl : List (PySem.W.Frag → Bool)} {g : Addr → Option Obj} {s : Shared} (h : ∀ a, g a = s.heap.get? a) : obsPG n fa fp tf exl g = (hookP n fa fp tf exl).obs s := by
  have e : g = s.heap.get? := funext h
  rw [e] <;> rfl
theorem obsF_eq {n : List Str} {fa : List Fa} {fp : List DefP} {tf : List (PySem.W.Frag → Addr)} {exl : List (PySem.W.Frag → Bool)} {g : Addr → Option Obj} : obsF n fa fp tf exl g = obsPG n fa fp tf exl g := forceK_eq _ _
section
variable {fa : List Fa} {fp : List DefP} {tf : List (PySem.W.Frag → Addr)} {exl : List (PySem.W.Frag → Bool)} {w : World} {h : Heap} {K : PySem.W.Frag}
theorem SaysP.fact (c : SaysP fa fp tf exl w h K) (i : Nat) {f : Fa} (hi : fa[i]? = some f) : f.ok K = true := by
  obtain ⟨tb, e⟩ := c.t
  have c1 := (ba (show ((fa.all fun f => f.ok K) && fp.all fun d => d.ok K) = true from congrArg (fun z : AlP => z.1.1) e)).1
  exact List.all_eq_true.mp c1 f (List.mem_of_getElem? hi)
theorem SaysP.more (c : SaysP fa fp tf exl w h K) (i : Nat) {f : PySem.W.Frag → Bool} (hi : exl[i]? = some f) : f K = true := by
  obtain ⟨tb, e⟩ := c.t
  have c1 : (exl.all fun f => f K) = true := congrArg (fun z : AlP => z.2.1) e
  exact List.all_eq_true.mp c1 f (List.mem_of_getElem? hi)
theorem SaysP.def_ (c : SaysP fa fp tf exl w h K) (i : Nat) {d : DefP} (hi : fp[i]? = some d) : ∃ fd, FunD K d.name d.qual d.params d.body d.scope (d.dvs K) (d.kws K) (d.path K) fd := by
  obtain ⟨tb, e⟩ := c.t
  have c2 := (ba (show ((fa.all fun f => f.ok K) && fp.all fun d => d.ok K) = true from congrArg (fun z : AlP => z.1.1) e)).2
  have e1 : fp.map (fun d => fnP K (d.path K)) = fp.map DefP.val := congrArg (fun z : AlP => z.1.2) e
  have e2 : (fp.map fun d => fnP K (d.path K))[i]? = (fp.map DefP.val)[i]? := by rw [e1]
  rw [List.getElem?_map, List.getElem?_map, hi] at e2
  exact DefP.funD (Option.some.inj e2) (List.all_eq_true.mp c2 d (List.mem_of_getElem? hi))
end
end Cab
/-! text CabT -/
set_option Elab.async false
set_option linter.all false
set_option maxRecDepth 100000
set_option maxHeartbeats 0
/-! the text by places; what the walk asks of the top (printed by gen_head.py) -/
namespace Cab
open PySem PySem.Spec PyProof.Rows L2 He
def top (i : Nat) : Stmt := PySem.Challenge.pw_cabmeters_k96_whole_one_fact_more.main.body.getD i (.Pass ⟨0, 0, 0, 0⟩)
abbrev s_is_whole : Stmt := top 22
def d_is_whole : DefP := ⟨pG "is_whole", "is_whole", "is_whole", defArgs s_is_whole, defBody s_is_whole, defScope s_is_whole, [], []⟩
abbrev s_is_between : Stmt := top 23
def d_is_between : DefP := ⟨pG "is_between", "is_between", "is_between", defArgs s_is_between, defBody s_is_between, defScope s_is_between, [], []⟩
abbrev s_is_speed : Stmt := top 24
def d_is_speed : DefP := ⟨pG "is_speed", "is_speed", "is_speed", defArgs s_is_speed, defBody s_is_speed, defScope s_is_speed, [], []⟩
abbrev s_is_trip : Stmt := top 25
def d_is_trip : DefP := ⟨pG "is_trip", "is_trip", "is_trip", defArgs s_is_trip, defBody s_is_trip, defScope s_is_trip, [], []⟩
abbrev s_check_trip : Stmt := top 26
def d_check_trip : DefP := ⟨pG "check_trip", "check_trip", "check_trip", defArgs s_check_trip, defBody s_check_trip, defScope s_check_trip, [], []⟩
abbrev s_are_worths : Stmt := top 31
def d_are_worths : DefP := ⟨pG "are_worths", "are_worths", "are_worths", defArgs s_are_worths, defBody s_are_worths, defScope s_are_worths, [], []⟩
abbrev s_check_numbers : Stmt := top 32
def d_check_numbers : DefP := ⟨pG "check_numbers", "check_numbers", "check_numbers", defArgs s_check_numbers, defBody s_check_numbers, defScope s_check_numbers, [], []⟩
abbrev s_check_number : Stmt := top 42
def d_check_number : DefP := ⟨pG "check_number", "check_number", "check_number", defArgs s_check_number, defBody s_check_number, defScope s_check_number, [], []⟩
abbrev s_check_top : Stmt := top 43
def d_check_top : DefP := ⟨pG "check_top", "check_top", "check_top", defArgs s_check_top, defBody s_check_top, defScope s_check_top, [], []⟩
abbrev s_are_turns : Stmt := top 44
def d_are_turns : DefP := ⟨pG "are_turns", "are_turns", "are_turns", defArgs s_are_turns, defBody s_are_turns, defScope s_are_turns, [], []⟩
abbrev s_is_speeds : Stmt := top 53
def d_is_speeds : DefP := ⟨pG "is_speeds", "is_speeds", "is_speeds", defArgs s_is_speeds, defBody s_is_speeds, defScope s_is_speeds, [], []⟩
abbrev s_is_claim : Stmt := top 57
def d_is_claim : DefP := ⟨pG "is_claim", "is_claim", "is_claim", defArgs s_is_claim, defBody s_is_claim, defScope s_is_claim, [], []⟩
abbrev s_need_claim : Stmt := top 58
def d_need_claim : DefP := ⟨pG "need_claim", "need_claim", "need_claim", defArgs s_need_claim, defBody s_need_claim, defScope s_need_claim, [], []⟩
abbrev s_holds_at : Stmt := top 59
def d_holds_at : DefP := ⟨pG "holds_at", "holds_at", "holds_at", defArgs s_holds_at, defBody s_holds_at, defScope s_holds_at, [], []⟩
abbrev s_layers_of : Stmt := top 61
def d_layers_of : DefP := ⟨pG "layers_of", "layers_of", "layers_of", defArgs s_layers_of, defBody s_layers_of, defScope s_layers_of, [], []⟩
abbrev s_is_wanted : Stmt := top 62
def d_is_wanted : DefP := ⟨pG "is_wanted", "is_wanted", "is_wanted", defArgs s_is_wanted, defBody s_is_wanted, defScope s_is_wanted, [], []⟩
abbrev s_some_trip : Stmt := top 63
def d_some_trip : DefP := ⟨pG "some_trip", "some_trip", "some_trip", defArgs s_some_trip, defBody s_some_trip, defScope s_some_trip, [], []⟩
abbrev s_verdict_on : Stmt := top 64
def d_verdict_on : DefP := ⟨pG "verdict_on", "verdict_on", "verdict_on", defArgs s_verdict_on, defBody s_verdict_on, defScope s_verdict_on, [], []⟩
abbrev s_way_range : Stmt := top 65
def d_way_range : DefP := ⟨pG "way_range", "way_range", "way_range", defArgs s_way_range, defBody s_way_range, defScope s_way_range, [], []⟩
abbrev s_law_bag : Stmt := top 67
def d_law_bag : DefP := ⟨pG "_law_bag", "_law_bag", "_law_bag", defArgs s_law_bag, defBody s_law_bag, defScope s_law_bag, [], []⟩
abbrev s_law_draw : Stmt := top 68
def d_law_draw : DefP := ⟨pG "_law_draw", "_law_draw", "_law_draw", defArgs s_law_draw, defBody s_law_draw, defScope s_law_draw, [], []⟩
abbrev s_law_mixed : Stmt := top 69
def d_law_mixed : DefP := ⟨pG "_law_mixed", "_law_mixed", "_law_mixed", defArgs s_law_mixed, defBody s_law_mixed, defScope s_law_mixed, [], []⟩
abbrev s_law_jumps_at : Stmt := top 70
def d_law_jumps_at : DefP := ⟨pG "_law_jumps_at", "_law_jumps_at", "_law_jumps_at", defArgs s_law_jumps_at, defBody s_law_jumps_at, defScope s_law_jumps_at, [], []⟩
abbrev s_law_worth : Stmt := top 71
def d_law_worth : DefP := ⟨pG "_law_worth", "_law_worth", "_law_worth", defArgs s_law_worth, defBody s_law_worth, defScope s_law_worth, [], []⟩
abbrev s_law_counts : Stmt := top 72
def d_law_counts : DefP := ⟨pG "_law_counts", "_law_counts", "_law_counts", defArgs s_law_counts, defBody s_law_counts, defScope s_law_counts, [], []⟩
abbrev s_law_small_worths : Stmt := top 73
def d_law_small_worths : DefP := ⟨pG "_law_small_worths", "_law_small_worths", "_law_small_worths", defArgs s_law_small_worths, defBody s_law_small_worths, defScope s_law_small_worths, [], []⟩
abbrev s_law_meter : Stmt := top 74
def d_law_meter : DefP := ⟨pG "_law_meter", "_law_meter", "_law_meter", defArgs s_law_meter, defBody s_law_meter, defScope s_law_meter, [], []⟩
abbrev s_law_made_table : Stmt := top 75
def d_law_made_table : DefP := ⟨pG "_law_made_table", "_law_made_table", "_law_made_table", defArgs s_law_made_table, defBody s_law_made_table, defScope s_law_made_table, [], []⟩
abbrev s_law_made : Stmt := top 76
def d_law_made : DefP := ⟨pG "_law_made", "_law_made", "_law_made", defArgs s_law_made, defBody s_law_made, defScope s_law_made, [], []⟩
abbrev s_law_digits : Stmt := top 77
def d_law_digits : DefP := ⟨pG "_law_digits", "_law_digits", "_law_digits", defArgs s_law_digits, defBody s_law_digits, defScope s_law_digits, [], []⟩
abbrev s_law_base_trip : Stmt := top 78
def d_law_base_trip : DefP := ⟨pG "_law_base_trip", "_law_base_trip", "_law_base_trip", defArgs s_law_base_trip, defBody s_law_base_trip, defScope s_law_base_trip, [], []⟩
abbrev s_law_true_fact : Stmt := top 79
def d_law_true_fact : DefP := ⟨pG "_law_true_fact", "_law_true_fact", "_law_true_fact", defArgs s_law_true_fact, defBody s_law_true_fact, defScope s_law_true_fact, [], []⟩
abbrev s_law_tell : Stmt := top 80
def d_law_tell : DefP := ⟨pG "_law_tell", "_law_tell", "_law_tell", defArgs s_law_tell, defBody s_law_tell, defScope s_law_tell, [], []⟩
abbrev s_law_left : Stmt := top 81
def d_law_left : DefP := ⟨pG "_law_left", "_law_left", "_law_left", defArgs s_law_left, defBody s_law_left, defScope s_law_left, [], []⟩
abbrev s_law_left_by : Stmt := top 82
def d_law_left_by : DefP := ⟨pG "_law_left_by", "_law_left_by", "_law_left_by", defArgs s_law_left_by, defBody s_law_left_by, defScope s_law_left_by, [], []⟩
abbrev s_law_parts_right : Stmt := top 83
def d_law_parts_right : DefP := ⟨pG "_law_parts_right", "_law_parts_right", "_law_parts_right", defArgs s_law_parts_right, defBody s_law_parts_right, defScope s_law_parts_right, [], []⟩
abbrev s_law_claims_right : Stmt := top 84
def d_law_claims_right : DefP := ⟨pG "_law_claims_right", "_law_claims_right", "_law_claims_right", defArgs s_law_claims_right, defBody s_law_claims_right, defScope s_law_claims_right, [], []⟩
abbrev s_law : Stmt := top 85
def d_law : DefP := ⟨pG "law", "law", "law", defArgs s_law, defBody s_law, defScope s_law, [], []⟩
abbrev s_number_in : Stmt := top 27
def d_number_in : DefP := ⟨pG "number_in_trips", "number_in", "number_in", defArgs s_number_in, defBody s_number_in, defScope s_number_in, [], []⟩
abbrev s_Table_init : Stmt := inClass (top 33) 0
def d_Table_init : DefP := ⟨pM "Table" "__init__", "__init__", "Table.__init__", defArgs s_Table_init, defBody s_Table_init, defScope s_Table_init, [], []⟩
abbrev s_Table_getitem : Stmt := inClass (top 33) 6
def d_Table_getitem : DefP := ⟨pM "Table" "__getitem__", "__getitem__", "Table.__getitem__", defArgs s_Table_getitem, defBody s_Table_getitem, defScope s_Table_getitem, [], []⟩
abbrev s_Meter_init : Stmt := inClass (top 45) 0
def d_Meter_init : DefP := ⟨pM "Meter" "__init__", "__init__", "Meter.__init__", defArgs s_Meter_init, defBody s_Meter_init, defScope s_Meter_init, [.adr emptyTup], [("flag", .int 0), ("each", .int 1)]⟩
abbrev s_Meter_table_at : Stmt := inClass (top 45) 8
def d_Meter_table_at : DefP := ⟨pM "Meter" "table_at", "table_at", "Meter.table_at", defArgs s_Meter_table_at, defBody s_Meter_table_at, defScope s_Meter_table_at, [], []⟩
abbrev s_Meter_jumps_at : Stmt := inClass (top 45) 9
def d_Meter_jumps_at : DefP := ⟨pM "Meter" "jumps_at", "jumps_at", "Meter.jumps_at", defArgs s_Meter_jumps_at, defBody s_Meter_jumps_at, defScope s_Meter_jumps_at, [], []⟩
abbrev s_Meter_count_on : Stmt := inClass (top 45) 10
def d_Meter_count_on : DefP := ⟨pM "Meter" "count_on", "count_on", "Meter.count_on", defArgs s_Meter_count_on, defBody s_Meter_count_on, defScope s_Meter_count_on, [], []⟩
abbrev s_Meter_price_at : Stmt := inClass (top 45) 13
def d_Meter_price_at : DefP := ⟨pM "Meter" "price_at", "price_at", "Meter.price_at", defArgs s_Meter_price_at, defBody s_Meter_price_at, defScope s_Meter_price_at, [], []⟩
abbrev s_Meter_last_turn : Stmt := inClass (top 45) 17
def d_Meter_last_turn : DefP := ⟨pM "Meter" "last_turn", "last_turn", "Meter.last_turn", defArgs s_Meter_last_turn, defBody s_Meter_last_turn, defScope s_Meter_last_turn, [], []⟩
abbrev s_Meter_step_from : Stmt := inClass (top 45) 18
def d_Meter_step_from : DefP := ⟨pM "Meter" "step_from", "step_from", "Meter.step_from", defArgs s_Meter_step_from, defBody s_Meter_step_from, defScope s_Meter_step_from, [], []⟩
abbrev s_RecordTrial_init : Stmt := inClass (top 54) 0
def d_RecordTrial_init : DefP := ⟨pM "RecordTrial" "__init__", "__init__", "RecordTrial.__init__", defArgs s_RecordTrial_init, defBody s_RecordTrial_init, defScope s_RecordTrial_init, [], []⟩
abbrev s_RecordTrial_enter : Stmt := inClass (top 54) 1
def d_RecordTrial_enter : DefP := ⟨pM "RecordTrial" "__enter__", "__enter__", "RecordTrial.__enter__", defArgs s_RecordTrial_enter, defBody s_RecordTrial_enter, defScope s_RecordTrial_enter, [], []⟩
abbrev s_RecordTrial_exit : Stmt := inClass (top 54) 2
def d_RecordTrial_exit : DefP := ⟨pM "RecordTrial" "__exit__", "__exit__", "RecordTrial.__exit__", defArgs s_RecordTrial_exit, defBody s_RecordTrial_exit, defScope s_RecordTrial_exit, [], []⟩
abbrev s_Record_init : Stmt := inClass (top 55) 0
def d_Record_init : DefP := ⟨pM "Record" "__init__", "__init__", "Record.__init__", defArgs s_Record_init, defBody s_Record_init, defScope s_Record_init, [.int 9], []⟩
abbrev s_Record_len : Stmt := inClass (top 55) 1
def d_Record_len : DefP := ⟨pM "Record" "__len__", "__len__", "Record.__len__", defArgs s_Record_len, defBody s_Record_len, defScope s_Record_len, [], []⟩
abbrev s_Record_check_tick : Stmt := inClass (top 55) 5
def d_Record_check_tick : DefP := ⟨pM "Record" "check_tick", "check_tick", "Record.check_tick", defArgs s_Record_check_tick, defBody s_Record_check_tick, defScope s_Record_check_tick, [], []⟩
abbrev s_Record_take_in : Stmt := inClass (top 55) 6
def d_Record_take_in : DefP := ⟨pM "Record" "take_in", "take_in", "Record.take_in", defArgs s_Record_take_in, defBody s_Record_take_in, defScope s_Record_take_in, [], []⟩
abbrev s_Record_getitem : Stmt := inClass (top 55) 7
def d_Record_getitem : DefP := ⟨pM "Record" "__getitem__", "__getitem__", "Record.__getitem__", defArgs s_Record_getitem, defBody s_Record_getitem, defScope s_Record_getitem, [], []⟩
abbrev s_Record_only : Stmt := inClass (top 55) 9
def d_Record_only : DefP := ⟨pM "Record" "only", "only", "Record.only", defArgs s_Record_only, defBody s_Record_only, defScope s_Record_only, [], []⟩
abbrev s_Record_passed : Stmt := inClass (top 55) 10
def d_Record_passed : DefP := ⟨pM "Record" "passed", "passed", "Record.passed", defArgs s_Record_passed, defBody s_Record_passed, defScope s_Record_passed, [], []⟩
abbrev s_Record_showed : Stmt := inClass (top 55) 11
def d_Record_showed : DefP := ⟨pM "Record" "showed", "showed", "Record.showed", defArgs s_Record_showed, defBody s_Record_showed, defScope s_Record_showed, [], []⟩
abbrev s_Record_jumped : Stmt := inClass (top 55) 12
def d_Record_jumped : DefP := ⟨pM "Record" "jumped", "jumped", "Record.jumped", defArgs s_Record_jumped, defBody s_Record_jumped, defScope s_Record_jumped, [], []⟩
abbrev s_Record_agrees_at : Stmt := inClass (top 55) 14
def d_Record_agrees_at : DefP := ⟨pM "Record" "agrees_at", "agrees_at", "Record.agrees_at", defArgs s_Record_agrees_at, defBody s_Record_agrees_at, defScope s_Record_agrees_at, [], []⟩
abbrev s_Record_agrees_in : Stmt := inClass (top 55) 15
def d_Record_agrees_in : DefP := ⟨pM "Record" "agrees_in", "agrees_in", "Record.agrees_in", defArgs s_Record_agrees_in, defBody s_Record_agrees_in, defScope s_Record_agrees_in, [], []⟩
abbrev s_Record_steps_from : Stmt := inClass (top 55) 16
def d_Record_steps_from : DefP := ⟨pM "Record" "steps_from", "steps_from", "Record.steps_from", defArgs s_Record_steps_from, defBody s_Record_steps_from, defScope s_Record_steps_from, [], []⟩
abbrev s_Record_begins : Stmt := inClass (top 55) 17
def d_Record_begins : DefP := ⟨pM "Record" "begins", "begins", "Record.begins", defArgs s_Record_begins, defBody s_Record_begins, defScope s_Record_begins, [], []⟩
abbrev s_Record_numbers_ahead : Stmt := inClass (top 55) 18
def d_Record_numbers_ahead : DefP := ⟨pM "Record" "numbers_ahead", "numbers_ahead", "Record.numbers_ahead", defArgs s_Record_numbers_ahead, defBody s_Record_numbers_ahead, defScope s_Record_numbers_ahead, [], []⟩
abbrev s_Record_numbers_behind : Stmt := inClass (top 55) 19
def d_Record_numbers_behind : DefP := ⟨pM "Record" "numbers_behind", "numbers_behind", "Record.numbers_behind", defArgs s_Record_numbers_behind, defBody s_Record_numbers_behind, defScope s_Record_numbers_behind, [], []⟩
abbrev s_Record_fits : Stmt := inClass (top 55) 20
def d_Record_fits : DefP := ⟨pM "Record" "fits", "fits", "Record.fits", defArgs s_Record_fits, defBody s_Record_fits, defScope s_Record_fits, [], []⟩
abbrev s_Record_how_many : Stmt := inClass (top 55) 21
def d_Record_how_many : DefP := ⟨pM "Record" "how_many", "how_many", "Record.how_many", defArgs s_Record_how_many, defBody s_Record_how_many, defScope s_Record_how_many, [], []⟩
abbrev s_Record_open_steps : Stmt := inClass (top 55) 22
def d_Record_open_steps : DefP := ⟨pM "Record" "open_steps", "open_steps", "Record.open_steps", defArgs s_Record_open_steps, defBody s_Record_open_steps, defScope s_Record_open_steps, [], []⟩
abbrev s_Record_ways : Stmt := inClass (top 55) 24
def d_Record_ways : DefP := ⟨pM "Record" "ways", "ways", "Record.ways", defArgs s_Record_ways, defBody s_Record_ways, defScope s_Record_ways, [], []⟩
abbrev s_Record_prices : Stmt := inClass (top 55) 25
def d_Record_prices : DefP := ⟨pM "Record" "prices", "prices", "Record.prices", defArgs s_Record_prices, defBody s_Record_prices, defScope s_Record_prices, [], []⟩
abbrev s_Record_speeds : Stmt := inClass (top 55) 26
def d_Record_speeds : DefP := ⟨pM "Record" "speeds", "speeds", "Record.speeds", defArgs s_Record_speeds, defBody s_Record_speeds, defScope s_Record_speeds, [], []⟩
abbrev s_Record_trial : Stmt := inClass (top 55) 27
def d_Record_trial : DefP := ⟨pM "Record" "trial", "trial", "Record.trial", defArgs s_Record_trial, defBody s_Record_trial, defScope s_Record_trial, [], []⟩
abbrev s_Record_tried : Stmt := inClass (top 55) 28
def d_Record_tried : DefP := ⟨pM "Record" "tried", "tried", "Record.tried", defArgs s_Record_tried, defBody s_Record_tried, defScope s_Record_tried, [], []⟩
abbrev s_Meter_drop : Stmt := inClass (top 45) 2
def d_Meter_drop : DefP := ⟨pP "Meter" "drop", "drop", "Meter.drop", defArgs s_Meter_drop, defBody s_Meter_drop, defScope s_Meter_drop, [], []⟩
abbrev s_Meter_flag : Stmt := inClass (top 45) 3
def d_Meter_flag : DefP := ⟨pP "Meter" "flag", "flag", "Meter.flag", defArgs s_Meter_flag, defBody s_Meter_flag, defScope s_Meter_flag, [], []⟩
abbrev s_Meter_each : Stmt := inClass (top 45) 4
def d_Meter_each : DefP := ⟨pP "Meter" "each", "each", "Meter.each", defArgs s_Meter_each, defBody s_Meter_each, defScope s_Meter_each, [], []⟩
abbrev s_Meter_start : Stmt := inClass (top 45) 7
def d_Meter_start : DefP := ⟨pP "Meter" "start", "start", "Meter.start", defArgs s_Meter_start, defBody s_Meter_start, defScope s_Meter_start, [], []⟩
abbrev s_Record_meter : Stmt := inClass (top 55) 3
def d_Record_meter : DefP := ⟨pP "Record" "meter", "meter", "Record.meter", defArgs s_Record_meter, defBody s_Record_meter, defScope s_Record_meter, [], []⟩
abbrev s_Table_either : Stmt := inClass (top 33) 1
def d_Table_either : DefP := ⟨pC "Table" "either", "either", "Table.either", defArgs s_Table_either, defBody s_Table_either, defScope s_Table_either, [], []⟩
abbrev s_Table_both : Stmt := inClass (top 33) 2
def d_Table_both : DefP := ⟨pC "Table" "both", "both", "Table.both", defArgs s_Table_both, defBody s_Table_both, defScope s_Table_both, [], []⟩
abbrev s_Table_changing : Stmt := inClass (top 33) 3
def d_Table_changing : DefP := ⟨pC "Table" "changing", "changing", "Table.changing", defArgs s_Table_changing, defBody s_Table_changing, defScope s_Table_changing, [], []⟩
abbrev s_Table_read : Stmt := inClass (top 33) 4
def d_Table_read : DefP := ⟨pC "Table" "read", "read", "Table.read", defArgs s_Table_read, defBody s_Table_read, defScope s_Table_read, [], []⟩
def fp0 : List DefP := [d_is_whole, d_is_between, d_is_speed, d_is_trip, d_check_trip, d_are_worths, d_check_numbers, d_check_number, d_check_top, d_are_turns, d_is_speeds, d_is_claim, d_need_claim, d_holds_at, d_layers_of, d_is_wanted, d_some_trip, d_verdict_on, d_way_range, d_law_bag]
def fp1 : List DefP := [d_law_draw, d_law_mixed, d_law_jumps_at, d_law_worth, d_law_counts, d_law_small_worths, d_law_meter, d_law_made_table, d_law_made, d_law_digits, d_law_base_trip, d_law_true_fact, d_law_tell, d_law_left, d_law_left_by, d_law_parts_right, d_law_claims_right, d_law, d_number_in, d_Table_init]
def fp2 : List DefP := [d_Table_getitem, d_Meter_init, d_Meter_table_at, d_Meter_jumps_at, d_Meter_count_on, d_Meter_price_at, d_Meter_last_turn, d_Meter_step_from, d_RecordTrial_init, d_RecordTrial_enter, d_RecordTrial_exit, d_Record_init, d_Record_len, d_Record_check_tick, d_Record_take_in, d_Record_getitem, d_Record_only, d_Record_passed, d_Record_showed, d_Record_jumped]
def fp3 : List DefP := [d_Record_agrees_at, d_Record_agrees_in, d_Record_steps_from, d_Record_begins, d_Record_numbers_ahead, d_Record_numbers_behind, d_Record_fits, d_Record_how_many, d_Record_open_steps, d_Record_ways, d_Record_prices, d_Record_speeds, d_Record_trial, d_Record_tried, d_Meter_drop, d_Meter_flag, d_Meter_each, d_Meter_start, d_Record_meter, d_Table_either]
def fp4 : List DefP := [d_Table_both, d_Table_changing, d_Table_read]
def fp : List DefP := fp0 ++ fp1 ++ fp2 ++ fp3 ++ fp4
def fa0 : List Fa := [.glo "is_whole", .glo "is_between", .glo "is_speed", .glo "is_trip", .glo "check_trip", .glo "are_worths", .glo "check_numbers", .glo "check_number", .glo "check_top", .glo "are_turns", .glo "is_speeds", .glo "is_claim", .glo "need_claim", .glo "holds_at", .glo "layers_of", .glo "is_wanted", .glo "some_trip", .glo "verdict_on", .glo "way_range", .glo "_law_bag"]
def fa1 : List Fa := [.glo "_law_draw", .glo "_law_mixed", .glo "_law_jumps_at", .glo "_law_worth", .glo "_law_counts", .glo "_law_small_worths", .glo "_law_meter", .glo "_law_made_table", .glo "_law_made", .glo "_law_digits", .glo "_law_base_trip", .glo "_law_true_fact", .glo "_law_tell", .glo "_law_left", .glo "_law_left_by", .glo "_law_parts_right", .glo "_law_claims_right", .glo "law", .glo "number_in_trips", .glo "Table"]
def fa2 : List Fa := [.glo "Meter", .glo "RecordTrial", .glo "Record", .free "isinstance", .free "int", .free "bool", .free "str", .free "len", .free "all", .free "list", .free "tuple", .free "range", .free "max", .free "min", .free "sum", .free "abs", .free "sorted", .int "MOST_TICKS" 2000, .int "GREATEST_SPEED" 9, .int "GREATEST_WORTH" 60]
def fa3 : List Fa := [.int "GREATEST_DROP" 60, .int "GREATEST_FLAG" 1000, .int "GREATEST_EACH" 100, .int "GREATEST_TURN" 9, .int "MOST_TABLES" 3, .int "SPEEDS" 10, .int "LONGEST_RECORD" 40, .str "DIGITS" "0123456789", .cls "Table", .mkr "Table", .cls "Meter", .mkr "Meter", .cls "RecordTrial", .mkr "RecordTrial", .cls "Record", .mkr "Record", .noat "Table" "row", .noat "Meter" "own_numbers", .noat "Meter" "own_tables", .noat "Meter" "own_turns"]
def fa4 : List Fa := [.noat "Meter" "own_steps", .noat "RecordTrial" "owner", .noat "RecordTrial" "kept_facts", .noat "Record" "own_meter", .noat "Record" "own_ticks", .noat "Record" "own_top", .noat "Record" "own_facts", .meth "Table" "__init__", .meth "Table" "__getitem__", .meth "Meter" "__init__", .meth "Meter" "table_at", .meth "Meter" "jumps_at", .meth "Meter" "count_on", .meth "Meter" "price_at", .meth "Meter" "last_turn", .meth "Meter" "step_from", .meth "RecordTrial" "__init__", .meth "RecordTrial" "__enter__", .meth "RecordTrial" "__exit__", .meth "Record" "__init__"]
def fa5 : List Fa := [.meth "Record" "__len__", .meth "Record" "check_tick", .meth "Record" "take_in", .meth "Record" "__getitem__", .meth "Record" "only", .meth "Record" "passed", .meth "Record" "showed", .meth "Record" "jumped", .meth "Record" "agrees_at", .meth "Record" "agrees_in", .meth "Record" "steps_from", .meth "Record" "begins", .meth "Record" "numbers_ahead", .meth "Record" "numbers_behind", .meth "Record" "fits", .meth "Record" "how_many", .meth "Record" "open_steps", .meth "Record" "ways", .meth "Record" "prices", .meth "Record" "speeds"]
def fa6 : List Fa := [.meth "Record" "trial", .meth "Record" "tried"]
def fa : List Fa := fa0 ++ fa1 ++ fa2 ++ fa3 ++ fa4 ++ fa5 ++ fa6
def exl0 : List (PySem.W.Frag → Bool) := [fun K => propB K "Meter" "drop", fun K => propB K "Meter" "flag", fun K => propB K "Meter" "each", fun K => propB K "Meter" "start", fun K => propB K "Record" "meter", fun K => creadB K "Table", fun K => cmetB K "Table" "either", fun K => cmetB K "Table" "both", fun K => cmetB K "Table" "changing", fun K => cmetB K "Table" "read", fun K => PySem.W.fnIn K (ma K (ga K "Table") "__getitem__"), fun K => PySem.W.fnIn K (ma K (ga K "Record") "__getitem__"), fun K => PySem.W.keepIn K (.ref (ga K "Table")), fun K => PySem.W.keepIn K (.ref (ga K "Meter")), fun K => PySem.W.keepIn K (.ref (ga K "RecordTrial")), fun K => PySem.W.keepIn K (.ref (ga K "Record")), fun K => eqO (PySem.W.findIn K (.ref (ga K "Table")) "__class__") (some (some (.builtin "object.__class__"))), fun K => eqO (PySem.W.specialIn K (.builtin "object.__class__") "__get__") (some (some (.builtin "getset_descriptor.__get__"))), fun K => decide (PySem.W.takesIn K (.builtin "object.__class__") = some true), fun K => decide (PySem.W.mroIn K (ga K "Table") (.type "object") = some true)]
def exl1 : List (PySem.W.Frag → Bool) := [fun K => decide (PySem.W.kitOne K (.ref (ga K "Table")) (.ref (ga K "Table")) = some true), fun K => PySem.W.isClsIn K (ga K "Table"), fun K => PySem.W.isClsIn K (ga K "Meter"), fun K => PySem.W.isClsIn K (ga K "RecordTrial"), fun K => PySem.W.isClsIn K (ga K "Record")]
def exl : List (PySem.W.Frag → Bool) := exl0 ++ exl1
def tf : List (PySem.W.Frag → Addr) := [pG "_law_left_by"]
def loose0 : List Str := ["_wall", "MeterError", "BadTrip", "BadText", "BadSpeed", "BadWorths", "BadNumber", "BadTop", "BadTicks", "BadTick", "BadTables", "BadTurns", "BadWay", "BadPrice", "BadSpeeds", "BadTold", "BadClaim", "DIGITS", "MOST_TICKS", "GREATEST_SPEED"]
def loose1 : List Str := ["is_whole", "is_between", "is_speed", "is_trip", "check_trip", "number_in", "number_in_trips", "GREATEST_WORTH", "are_worths", "check_numbers", "Table", "GREATEST_DROP", "GREATEST_FLAG", "GREATEST_EACH", "GREATEST_TURN", "MOST_TABLES", "SPEEDS", "FIGURES", "check_number", "check_top"]
def loose2 : List Str := ["are_turns", "Meter", "number_in_meters", "numbers_behind", "table_in", "read_lines", "LONGEST_RECORD", "is_speeds", "RecordTrial", "Record", "is_claim", "need_claim", "holds_at", "holds_in", "layers_of", "is_wanted", "some_trip", "verdict_on", "way_range", "_law_bag"]
def loose3 : List Str := ["_law_draw", "_law_mixed", "_law_jumps_at", "_law_worth", "_law_counts", "_law_small_worths", "_law_meter", "_law_made_table", "_law_made", "_law_digits", "_law_base_trip", "_law_true_fact", "_law_tell", "_law_left", "_law_left_by", "_law_parts_right", "_law_claims_right"]
def loose : List Str := loose0 ++ loose1 ++ loose2 ++ loose3
def cls4 : List Str := ["Table", "Meter", "RecordTrial", "Record"]
abbrev hk : PySem.W.Hook := hookP cls4 fa fp tf exl
theorem D_is_whole {w : World} {h : Heap} {K : PySem.W.Frag} (c : SaysP fa fp tf exl w h K) : ∃ fd, FunD K d_is_whole.name d_is_whole.qual d_is_whole.params d_is_whole.body d_is_whole.scope (d_is_whole.dvs K) (d_is_whole.kws K) (d_is_whole.path K) fd := c.def_ 0 (d := d_is_whole) (by rfl)
theorem D_is_between {w : World} {h : Heap} {K : PySem.W.Frag} (c : SaysP fa fp tf exl w h K) : ∃ fd, FunD K d_is_between.name d_is_between.qual d_is_between.params d_is_between.body d_is_between.scope (d_is_between.dvs K) (d_is_between.kws K) (d_is_between.path K) fd := c.def_ 1 (d := d_is_between) (by rfl)
theorem D_is_speed {w : World} {h : Heap} {K : PySem.W.Frag} (c : SaysP fa fp tf exl w h K) : ∃ fd, FunD K d_is_speed.name d_is_speed.qual d_is_speed.params d_is_speed.body d_is_speed.scope (d_is_speed.dvs K) (d_is_speed.kws K) (d_is_speed.path K) fd := c.def_ 2 (d := d_is_speed) (by rfl)
theorem D_is_trip {w : World} {h : Heap} {K : PySem.W.Frag} (c : SaysP fa fp tf exl w h K) : ∃ fd, FunD K d_is_trip.name d_is_trip.qual d_is_trip.params d_is_trip.body d_is_trip.scope (d_is_trip.dvs K) (d_is_trip.kws K) (d_is_trip.path K) fd := c.def_ 3 (d := d_is_trip) (by rfl)
theorem D_check_trip {w : World} {h : Heap} {K : PySem.W.Frag} (c : SaysP fa fp tf exl w h K) : ∃ fd, FunD K d_check_trip.name d_check_trip.qual d_check_trip.params d_check_trip.body d_check_trip.scope (d_check_trip.dvs K) (d_check_trip.kws K) (d_check_trip.path K) fd := c.def_ 4 (d := d_check_trip) (by rfl)
theorem D_are_worths {w : World} {h : Heap} {K : PySem.W.Frag} (c : SaysP fa fp tf exl w h K) : ∃ fd, FunD K d_are_worths.name d_are_worths.qual d_are_worths.params d_are_worths.body d_are_worths.scope (d_are_worths.dvs K) (d_are_worths.kws K) (d_are_worths.path K) fd := c.def_ 5 (d := d_are_worths) (by rfl)
theorem D_check_numbers {w : World} {h : Heap} {K : PySem.W.Frag} (c : SaysP fa fp tf exl w h K) : ∃ fd, FunD K d_check_numbers.name d_check_numbers.qual d_check_numbers.params d_check_numbers.body d_check_numbers.scope (d_check_numbers.dvs K) (d_check_numbers.kws K) (d_check_numbers.path K) fd := c.def_ 6 (d := d_check_numbers) (by rfl)
theorem D_check_number {w : World} {h : Heap} {K : PySem.W.Frag} (c : SaysP fa fp tf exl w h K) : ∃ fd, FunD K d_check_number.name d_check_number.qual d_check_number.params d_check_number.body d_check_number.scope (d_check_number.dvs K) (d_check_number.kws K) (d_check_number.path K) fd := c.def_ 7 (d := d_check_number) (by rfl)
theorem D_check_top {w : World} {h : Heap} {K : PySem.W.Frag} (c : SaysP fa fp tf exl w h K) : ∃ fd, FunD K d_check_top.name d_check_top.qual d_check_top.params d_check_top.body d_check_top.scope (d_check_top.dvs K) (d_check_top.kws K) (d_check_top.path K) fd := c.def_ 8 (d := d_check_top) (by rfl)
theorem D_are_turns {w : World} {h : Heap} {K : PySem.W.Frag} (c : SaysP fa fp tf exl w h K) : ∃ fd, FunD K d_are_turns.name d_are_turns.qual d_are_turns.params d_are_turns.body d_are_turns.scope (d_are_turns.dvs K) (d_are_turns.kws K) (d_are_turns.path K) fd := c.def_ 9 (d := d_are_turns) (by rfl)
theorem D_is_speeds {w : World} {h : Heap} {K : PySem.W.Frag} (c : SaysP fa fp tf exl w h K) : ∃ fd, FunD K d_is_speeds.name d_is_speeds.qual d_is_speeds.params d_is_speeds.body d_is_speeds.scope (d_is_speeds.dvs K) (d_is_speeds.kws K) (d_is_speeds.path K) fd := c.def_ 10 (d := d_is_speeds) (by rfl)
theorem D_is_claim {w : World} {h : Heap} {K : PySem.W.Frag} (c : SaysP fa fp tf exl w h K) : ∃ fd, FunD K d_is_claim.name d_is_claim.qual d_is_claim.params d_is_claim.body d_is_claim.scope (d_is_claim.dvs K) (d_is_claim.kws K) (d_is_claim.path K) fd := c.def_ 11 (d := d_is_claim) (by rfl)
theorem D_need_claim {w : World} {h : Heap} {K : PySem.W.Frag} (c : SaysP fa fp tf exl w h K) : ∃ fd, FunD K d_need_claim.name d_need_claim.qual d_need_claim.params d_need_claim.body d_need_claim.scope (d_need_claim.dvs K) (d_need_claim.kws K) (d_need_claim.path K) fd := c.def_ 12 (d := d_need_claim) (by rfl)
theorem D_holds_at {w : World} {h : Heap} {K : PySem.W.Frag} (c : SaysP fa fp tf exl w h K) : ∃ fd, FunD K d_holds_at.name d_holds_at.qual d_holds_at.params d_holds_at.body d_holds_at.scope (d_holds_at.dvs K) (d_holds_at.kws K) (d_holds_at.path K) fd := c.def_ 13 (d := d_holds_at) (by rfl)
theorem D_layers_of {w : World} {h : Heap} {K : PySem.W.Frag} (c : SaysP fa fp tf exl w h K) : ∃ fd, FunD K d_layers_of.name d_layers_of.qual d_layers_of.params d_layers_of.body d_layers_of.scope (d_layers_of.dvs K) (d_layers_of.kws K) (d_layers_of.path K) fd := c.def_ 14 (d := d_layers_of) (by rfl)
theorem D_is_wanted {w : World} {h : Heap} {K : PySem.W.Frag} (c : SaysP fa fp tf exl w h K) : ∃ fd, FunD K d_is_wanted.name d_is_wanted.qual d_is_wanted.params d_is_wanted.body d_is_wanted.scope (d_is_wanted.dvs K) (d_is_wanted.kws K) (d_is_wanted.path K) fd := c.def_ 15 (d := d_is_wanted) (by rfl)
theorem D_some_trip {w : World} {h : Heap} {K : PySem.W.Frag} (c : SaysP fa fp tf exl w h K) : ∃ fd, FunD K d_some_trip.name d_some_trip.qual d_some_trip.params d_some_trip.body d_some_trip.scope (d_some_trip.dvs K) (d_some_trip.kws K) (d_some_trip.path K) fd := c.def_ 16 (d := d_some_trip) (by rfl)
theorem D_verdict_on {w : World} {h : Heap} {K : PySem.W.Frag} (c : SaysP fa fp tf exl w h K) : ∃ fd, FunD K d_verdict_on.name d_verdict_on.qual d_verdict_on.params d_verdict_on.body d_verdict_on.scope (d_verdict_on.dvs K) (d_verdict_on.kws K) (d_verdict_on.path K) fd := c.def_ 17 (d := d_verdict_on) (by rfl)
theorem D_way_range {w : World} {h : Heap} {K : PySem.W.Frag} (c : SaysP fa fp tf exl w h K) : ∃ fd, FunD K d_way_range.name d_way_range.qual d_way_range.params d_way_range.body d_way_range.scope (d_way_range.dvs K) (d_way_range.kws K) (d_way_range.path K) fd := c.def_ 18 (d := d_way_range) (by rfl)
theorem D_law_bag {w : World} {h : Heap} {K : PySem.W.Frag} (c : SaysP fa fp tf exl w h K) : ∃ fd, FunD K d_law_bag.name d_law_bag.qual d_law_bag.params d_law_bag.body d_law_bag.scope (d_law_bag.dvs K) (d_law_bag.kws K) (d_law_bag.path K) fd := c.def_ 19 (d := d_law_bag) (by rfl)
theorem D_law_draw {w : World} {h : Heap} {K : PySem.W.Frag} (c : SaysP fa fp tf exl w h K) : ∃ fd, FunD K d_law_draw.name d_law_draw.qual d_law_draw.params d_law_draw.body d_law_draw.scope (d_law_draw.dvs K) (d_law_draw.kws K) (d_law_draw.path K) fd := c.def_ 20 (d := d_law_draw) (by rfl)
theorem D_law_mixed {w : World} {h : Heap} {K : PySem.W.Frag} (c : SaysP fa fp tf exl w h K) : ∃ fd, FunD K d_law_mixed.name d_law_mixed.qual d_law_mixed.params d_law_mixed.body d_law_mixed.scope (d_law_mixed.dvs K) (d_law_mixed.kws K) (d_law_mixed.path K) fd := c.def_ 21 (d := d_law_mixed) (by rfl)
theorem D_law_jumps_at {w : World} {h : Heap} {K : PySem.W.Frag} (c : SaysP fa fp tf exl w h K) : ∃ fd, FunD K d_law_jumps_at.name d_law_jumps_at.qual d_law_jumps_at.params d_law_jumps_at.body d_law_jumps_at.scope (d_law_jumps_at.dvs K) (d_law_jumps_at.kws K) (d_law_jumps_at.path K) fd := c.def_ 22 (d := d_law_jumps_at) (by rfl)
theorem D_law_worth {w : World} {h : Heap} {K : PySem.W.Frag} (c : SaysP fa fp tf exl w h K) : ∃ fd, FunD K d_law_worth.name d_law_worth.qual d_law_worth.params d_law_worth.body d_law_worth.scope (d_law_worth.dvs K) (d_law_worth.kws K) (d_law_worth.path K) fd := c.def_ 23 (d := d_law_worth) (by rfl)
theorem D_law_counts {w : World} {h : Heap} {K : PySem.W.Frag} (c : SaysP fa fp tf exl w h K) : ∃ fd, FunD K d_law_counts.name d_law_counts.qual d_law_counts.params d_law_counts.body d_law_counts.scope (d_law_counts.dvs K) (d_law_counts.kws K) (d_law_counts.path K) fd := c.def_ 24 (d := d_law_counts) (by rfl)
theorem D_law_small_worths {w : World} {h : Heap} {K : PySem.W.Frag} (c : SaysP fa fp tf exl w h K) : ∃ fd, FunD K d_law_small_worths.name d_law_small_worths.qual d_law_small_worths.params d_law_small_worths.body d_law_small_worths.scope (d_law_small_worths.dvs K) (d_law_small_worths.kws K) (d_law_small_worths.path K) fd := c.def_ 25 (d := d_law_small_worths) (by rfl)
theorem D_law_meter {w : World} {h : Heap} {K : PySem.W.Frag} (c : SaysP fa fp tf exl w h K) : ∃ fd, FunD K d_law_meter.name d_law_meter.qual d_law_meter.params d_law_meter.body d_law_meter.scope (d_law_meter.dvs K) (d_law_meter.kws K) (d_law_meter.path K) fd := c.def_ 26 (d := d_law_meter) (by rfl)
theorem D_law_made_table {w : World} {h : Heap} {K : PySem.W.Frag} (c : SaysP fa fp tf exl w h K) : ∃ fd, FunD K d_law_made_table.name d_law_made_table.qual d_law_made_table.params d_law_made_table.body d_law_made_table.scope (d_law_made_table.dvs K) (d_law_made_table.kws K) (d_law_made_table.path K) fd := c.def_ 27 (d := d_law_made_table) (by rfl)
theorem D_law_made {w : World} {h : Heap} {K : PySem.W.Frag} (c : SaysP fa fp tf exl w h K) : ∃ fd, FunD K d_law_made.name d_law_made.qual d_law_made.params d_law_made.body d_law_made.scope (d_law_made.dvs K) (d_law_made.kws K) (d_law_made.path K) fd := c.def_ 28 (d := d_law_made) (by rfl)
theorem D_law_digits {w : World} {h : Heap} {K : PySem.W.Frag} (c : SaysP fa fp tf exl w h K) : ∃ fd, FunD K d_law_digits.name d_law_digits.qual d_law_digits.params d_law_digits.body d_law_digits.scope (d_law_digits.dvs K) (d_law_digits.kws K) (d_law_digits.path K) fd := c.def_ 29 (d := d_law_digits) (by rfl)
theorem D_law_base_trip {w : World} {h : Heap} {K : PySem.W.Frag} (c : SaysP fa fp tf exl w h K) : ∃ fd, FunD K d_law_base_trip.name d_law_base_trip.qual d_law_base_trip.params d_law_base_trip.body d_law_base_trip.scope (d_law_base_trip.dvs K) (d_law_base_trip.kws K) (d_law_base_trip.path K) fd := c.def_ 30 (d := d_law_base_trip) (by rfl)
theorem D_law_true_fact {w : World} {h : Heap} {K : PySem.W.Frag} (c : SaysP fa fp tf exl w h K) : ∃ fd, FunD K d_law_true_fact.name d_law_true_fact.qual d_law_true_fact.params d_law_true_fact.body d_law_true_fact.scope (d_law_true_fact.dvs K) (d_law_true_fact.kws K) (d_law_true_fact.path K) fd := c.def_ 31 (d := d_law_true_fact) (by rfl)
theorem D_law_tell {w : World} {h : Heap} {K : PySem.W.Frag} (c : SaysP fa fp tf exl w h K) : ∃ fd, FunD K d_law_tell.name d_law_tell.qual d_law_tell.params d_law_tell.body d_law_tell.scope (d_law_tell.dvs K) (d_law_tell.kws K) (d_law_tell.path K) fd := c.def_ 32 (d := d_law_tell) (by rfl)
theorem D_law_left {w : World} {h : Heap} {K : PySem.W.Frag} (c : SaysP fa fp tf exl w h K) : ∃ fd, FunD K d_law_left.name d_law_left.qual d_law_left.params d_law_left.body d_law_left.scope (d_law_left.dvs K) (d_law_left.kws K) (d_law_left.path K) fd := c.def_ 33 (d := d_law_left) (by rfl)
theorem D_law_left_by {w : World} {h : Heap} {K : PySem.W.Frag} (c : SaysP fa fp tf exl w h K) : ∃ fd, FunD K d_law_left_by.name d_law_left_by.qual d_law_left_by.params d_law_left_by.body d_law_left_by.scope (d_law_left_by.dvs K) (d_law_left_by.kws K) (d_law_left_by.path K) fd := c.def_ 34 (d := d_law_left_by) (by rfl)
theorem D_law_parts_right {w : World} {h : Heap} {K : PySem.W.Frag} (c : SaysP fa fp tf exl w h K) : ∃ fd, FunD K d_law_parts_right.name d_law_parts_right.qual d_law_parts_right.params d_law_parts_right.body d_law_parts_right.scope (d_law_parts_right.dvs K) (d_law_parts_right.kws K) (d_law_parts_right.path K) fd := c.def_ 35 (d := d_law_parts_right) (by rfl)
theorem D_law_claims_right {w : World} {h : Heap} {K : PySem.W.Frag} (c : SaysP fa fp tf exl w h K) : ∃ fd, FunD K d_law_claims_right.name d_law_claims_right.qual d_law_claims_right.params d_law_claims_right.body d_law_claims_right.scope (d_law_claims_right.dvs K) (d_law_claims_right.kws K) (d_law_claims_right.path K) fd := c.def_ 36 (d := d_law_claims_right) (by rfl)
theorem D_law {w : World} {h : Heap} {K : PySem.W.Frag} (c : SaysP fa fp tf exl w h K) : ∃ fd, FunD K d_law.name d_law.qual d_law.params d_law.body d_law.scope (d_law.dvs K) (d_law.kws K) (d_law.path K) fd := c.def_ 37 (d := d_law) (by rfl)
theorem D_number_in {w : World} {h : Heap} {K : PySem.W.Frag} (c : SaysP fa fp tf exl w h K) : ∃ fd, FunD K d_number_in.name d_number_in.qual d_number_in.params d_number_in.body d_number_in.scope (d_number_in.dvs K) (d_number_in.kws K) (d_number_in.path K) fd := c.def_ 38 (d := d_number_in) (by rfl)
theorem D_Table_init {w : World} {h : Heap} {K : PySem.W.Frag} (c : SaysP fa fp tf exl w h K) : ∃ fd, FunD K d_Table_init.name d_Table_init.qual d_Table_init.params d_Table_init.body d_Table_init.scope (d_Table_init.dvs K) (d_Table_init.kws K) (d_Table_init.path K) fd := c.def_ 39 (d := d_Table_init) (by rfl)
theorem D_Table_getitem {w : World} {h : Heap} {K : PySem.W.Frag} (c : SaysP fa fp tf exl w h K) : ∃ fd, FunD K d_Table_getitem.name d_Table_getitem.qual d_Table_getitem.params d_Table_getitem.body d_Table_getitem.scope (d_Table_getitem.dvs K) (d_Table_getitem.kws K) (d_Table_getitem.path K) fd := c.def_ 40 (d := d_Table_getitem) (by rfl)
theorem D_Meter_init {w : World} {h : Heap} {K : PySem.W.Frag} (c : SaysP fa fp tf exl w h K) : ∃ fd, FunD K d_Meter_init.name d_Meter_init.qual d_Meter_init.params d_Meter_init.body d_Meter_init.scope (d_Meter_init.dvs K) (d_Meter_init.kws K) (d_Meter_init.path K) fd := c.def_ 41 (d := d_Meter_init) (by rfl)
theorem D_Meter_table_at {w : World} {h : Heap} {K : PySem.W.Frag} (c : SaysP fa fp tf exl w h K) : ∃ fd, FunD K d_Meter_table_at.name d_Meter_table_at.qual d_Meter_table_at.params d_Meter_table_at.body d_Meter_table_at.scope (d_Meter_table_at.dvs K) (d_Meter_table_at.kws K) (d_Meter_table_at.path K) fd := c.def_ 42 (d := d_Meter_table_at) (by rfl)
theorem D_Meter_jumps_at {w : World} {h : Heap} {K : PySem.W.Frag} (c : SaysP fa fp tf exl w h K) : ∃ fd, FunD K d_Meter_jumps_at.name d_Meter_jumps_at.qual d_Meter_jumps_at.params d_Meter_jumps_at.body d_Meter_jumps_at.scope (d_Meter_jumps_at.dvs K) (d_Meter_jumps_at.kws K) (d_Meter_jumps_at.path K) fd := c.def_ 43 (d := d_Meter_jumps_at) (by rfl)
theorem D_Meter_count_on {w : World} {h : Heap} {K : PySem.W.Frag} (c : SaysP fa fp tf exl w h K) : ∃ fd, FunD K d_Meter_count_on.name d_Meter_count_on.qual d_Meter_count_on.params d_Meter_count_on.body d_Meter_count_on.scope (d_Meter_count_on.dvs K) (d_Meter_count_on.kws K) (d_Meter_count_on.path K) fd := c.def_ 44 (d := d_Meter_count_on) (by rfl)
theorem D_Meter_price_at {w : World} {h : Heap} {K : PySem.W.Frag} (c : SaysP fa fp tf exl w h K) : ∃ fd, FunD K d_Meter_price_at.name d_Meter_price_at.qual d_Meter_price_at.params d_Meter_price_at.body d_Meter_price_at.scope (d_Meter_price_at.dvs K) (d_Meter_price_at.kws K) (d_Meter_price_at.path K) fd := c.def_ 45 (d := d_Meter_price_at) (by rfl)
theorem D_Meter_last_turn {w : World} {h : Heap} {K : PySem.W.Frag} (c : SaysP fa fp tf exl w h K) : ∃ fd, FunD K d_Meter_last_turn.name d_Meter_last_turn.qual d_Meter_last_turn.params d_Meter_last_turn.body d_Meter_last_turn.scope (d_Meter_last_turn.dvs K) (d_Meter_last_turn.kws K) (d_Meter_last_turn.path K) fd := c.def_ 46 (d := d_Meter_last_turn) (by rfl)
theorem D_Meter_step_from {w : World} {h : Heap} {K : PySem.W.Frag} (c : SaysP fa fp tf exl w h K) : ∃ fd, FunD K d_Meter_step_from.name d_Meter_step_from.qual d_Meter_step_from.params d_Meter_step_from.body d_Meter_step_from.scope (d_Meter_step_from.dvs K) (d_Meter_step_from.kws K) (d_Meter_step_from.path K) fd := c.def_ 47 (d := d_Meter_step_from) (by rfl)
theorem D_RecordTrial_init {w : World} {h : Heap} {K : PySem.W.Frag} (c : SaysP fa fp tf exl w h K) : ∃ fd, FunD K d_RecordTrial_init.name d_RecordTrial_init.qual d_RecordTrial_init.params d_RecordTrial_init.body d_RecordTrial_init.scope (d_RecordTrial_init.dvs K) (d_RecordTrial_init.kws K) (d_RecordTrial_init.path K) fd := c.def_ 48 (d := d_RecordTrial_init) (by rfl)
theorem D_RecordTrial_enter {w : World} {h : Heap} {K : PySem.W.Frag} (c : SaysP fa fp tf exl w h K) : ∃ fd, FunD K d_RecordTrial_enter.name d_RecordTrial_enter.qual d_RecordTrial_enter.params d_RecordTrial_enter.body d_RecordTrial_enter.scope (d_RecordTrial_enter.dvs K) (d_RecordTrial_enter.kws K) (d_RecordTrial_enter.path K) fd := c.def_ 49 (d := d_RecordTrial_enter) (by rfl)
theorem D_RecordTrial_exit {w : World} {h : Heap} {K : PySem.W.Frag} (c : SaysP fa fp tf exl w h K) : ∃ fd, FunD K d_RecordTrial_exit.name d_RecordTrial_exit.qual d_RecordTrial_exit.params d_RecordTrial_exit.body d_RecordTrial_exit.scope (d_RecordTrial_exit.dvs K) (d_RecordTrial_exit.kws K) (d_RecordTrial_exit.path K) fd := c.def_ 50 (d := d_RecordTrial_exit) (by rfl)
theorem D_Record_init {w : World} {h : Heap} {K : PySem.W.Frag} (c : SaysP fa fp tf exl w h K) : ∃ fd, FunD K d_Record_init.name d_Record_init.qual d_Record_init.params d_Record_init.body d_Record_init.scope (d_Record_init.dvs K) (d_Record_init.kws K) (d_Record_init.path K) fd := c.def_ 51 (d := d_Record_init) (by rfl)
theorem D_Record_len {w : World} {h : Heap} {K : PySem.W.Frag} (c : SaysP fa fp tf exl w h K) : ∃ fd, FunD K d_Record_len.name d_Record_len.qual d_Record_len.params d_Record_len.body d_Record_len.scope (d_Record_len.dvs K) (d_Record_len.kws K) (d_Record_len.path K) fd := c.def_ 52 (d := d_Record_len) (by rfl)
theorem D_Record_check_tick {w : World} {h : Heap} {K : PySem.W.Frag} (c : SaysP fa fp tf exl w h K) : ∃ fd, FunD K d_Record_check_tick.name d_Record_check_tick.qual d_Record_check_tick.params d_Record_check_tick.body d_Record_check_tick.scope (d_Record_check_tick.dvs K) (d_Record_check_tick.kws K) (d_Record_check_tick.path K) fd := c.def_ 53 (d := d_Record_check_tick) (by rfl)
theorem D_Record_take_in {w : World} {h : Heap} {K : PySem.W.Frag} (c : SaysP fa fp tf exl w h K) : ∃ fd, FunD K d_Record_take_in.name d_Record_take_in.qual d_Record_take_in.params d_Record_take_in.body d_Record_take_in.scope (d_Record_take_in.dvs K) (d_Record_take_in.kws K) (d_Record_take_in.path K) fd := c.def_ 54 (d := d_Record_take_in) (by rfl)
theorem D_Record_getitem {w : World} {h : Heap} {K : PySem.W.Frag} (c : SaysP fa fp tf exl w h K) : ∃ fd, FunD K d_Record_getitem.name d_Record_getitem.qual d_Record_getitem.params d_Record_getitem.body d_Record_getitem.scope (d_Record_getitem.dvs K) (d_Record_getitem.kws K) (d_Record_getitem.path K) fd := c.def_ 55 (d := d_Record_getitem) (by rfl)
theorem D_Record_only {w : World} {h : Heap} {K : PySem.W.Frag} (c : SaysP fa fp tf exl w h K) : ∃ fd, FunD K d_Record_only.name d_Record_only.qual d_Record_only.params d_Record_only.body d_Record_only.scope (d_Record_only.dvs K) (d_Record_only.kws K) (d_Record_only.path K) fd := c.def_ 56 (d := d_Record_only) (by rfl)
theorem D_Record_passed {w : World} {h : Heap} {K : PySem.W.Frag} (c : SaysP fa fp tf exl w h K) : ∃ fd, FunD K d_Record_passed.name d_Record_passed.qual d_Record_passed.params d_Record_passed.body d_Record_passed.scope (d_Record_passed.dvs K) (d_Record_passed.kws K) (d_Record_passed.path K) fd := c.def_ 57 (d := d_Record_passed) (by rfl)
theorem D_Record_showed {w : World} {h : Heap} {K : PySem.W.Frag} (c : SaysP fa fp tf exl w h K) : ∃ fd, FunD K d_Record_showed.name d_Record_showed.qual d_Record_showed.params d_Record_showed.body d_Record_showed.scope (d_Record_showed.dvs K) (d_Record_showed.kws K) (d_Record_showed.path K) fd := c.def_ 58 (d := d_Record_showed) (by rfl)
theorem D_Record_jumped {w : World} {h : Heap} {K : PySem.W.Frag} (c : SaysP fa fp tf exl w h K) : ∃ fd, FunD K d_Record_jumped.name d_Record_jumped.qual d_Record_jumped.params d_Record_jumped.body d_Record_jumped.scope (d_Record_jumped.dvs K) (d_Record_jumped.kws K) (d_Record_jumped.path K) fd := c.def_ 59 (d := d_Record_jumped) (by rfl)
theorem D_Record_agrees_at {w : World} {h : Heap} {K : PySem.W.Frag} (c : SaysP fa fp tf exl w h K) : ∃ fd, FunD K d_Record_agrees_at.name d_Record_agrees_at.qual d_Record_agrees_at.params d_Record_agrees_at.body d_Record_agrees_at.scope (d_Record_agrees_at.dvs K) (d_Record_agrees_at.kws K) (d_Record_agrees_at.path K) fd := c.def_ 60 (d := d_Record_agrees_at) (by rfl)
theorem D_Record_agrees_in {w : World} {h : Heap} {K : PySem.W.Frag} (c : SaysP fa fp tf exl w h K) : ∃ fd, FunD K d_Record_agrees_in.name d_Record_agrees_in.qual d_Record_agrees_in.params d_Record_agrees_in.body d_Record_agrees_in.scope (d_Record_agrees_in.dvs K) (d_Record_agrees_in.kws K) (d_Record_agrees_in.path K) fd := c.def_ 61 (d := d_Record_agrees_in) (by rfl)
theorem D_Record_steps_from {w : World} {h : Heap} {K : PySem.W.Frag} (c : SaysP fa fp tf exl w h K) : ∃ fd, FunD K d_Record_steps_from.name d_Record_steps_from.qual d_Record_steps_from.params d_Record_steps_from.body d_Record_steps_from.scope (d_Record_steps_from.dvs K) (d_Record_steps_from.kws K) (d_Record_steps_from.path K) fd := c.def_ 62 (d := d_Record_steps_from) (by rfl)
theorem D_Record_begins {w : World} {h : Heap} {K : PySem.W.Frag} (c : SaysP fa fp tf exl w h K) : ∃ fd, FunD K d_Record_begins.name d_Record_begins.qual d_Record_begins.params d_Record_begins.body d_Record_begins.scope (d_Record_begins.dvs K) (d_Record_begins.kws K) (d_Record_begins.path K) fd := c.def_ 63 (d := d_Record_begins) (by rfl)
theorem D_Record_numbers_ahead {w : World} {h : Heap} {K : PySem.W.Frag} (c : SaysP fa fp tf exl w h K) : ∃ fd, FunD K d_Record_numbers_ahead.name d_Record_numbers_ahead.qual d_Record_numbers_ahead.params d_Record_numbers_ahead.body d_Record_numbers_ahead.scope (d_Record_numbers_ahead.dvs K) (d_Record_numbers_ahead.kws K) (d_Record_numbers_ahead.path K) fd := c.def_ 64 (d := d_Record_numbers_ahead) (by rfl)
theorem D_Record_numbers_behind {w : World} {h : Heap} {K : PySem.W.Frag} (c : SaysP fa fp tf exl w h K) : ∃ fd, FunD K d_Record_numbers_behind.name d_Record_numbers_behind.qual d_Record_numbers_behind.params d_Record_numbers_behind.body d_Record_numbers_behind.scope (d_Record_numbers_behind.dvs K) (d_Record_numbers_behind.kws K) (d_Record_numbers_behind.path K) fd := c.def_ 65 (d := d_Record_numbers_behind) (by rfl)
theorem D_Record_fits {w : World} {h : Heap} {K : PySem.W.Frag} (c : SaysP fa fp tf exl w h K) : ∃ fd, FunD K d_Record_fits.name d_Record_fits.qual d_Record_fits.params d_Record_fits.body d_Record_fits.scope (d_Record_fits.dvs K) (d_Record_fits.kws K) (d_Record_fits.path K) fd := c.def_ 66 (d := d_Record_fits) (by rfl)
theorem D_Record_how_many {w : World} {h : Heap} {K : PySem.W.Frag} (c : SaysP fa fp tf exl w h K) : ∃ fd, FunD K d_Record_how_many.name d_Record_how_many.qual d_Record_how_many.params d_Record_how_many.body d_Record_how_many.scope (d_Record_how_many.dvs K) (d_Record_how_many.kws K) (d_Record_how_many.path K) fd := c.def_ 67 (d := d_Record_how_many) (by rfl)
theorem D_Record_open_steps {w : World} {h : Heap} {K : PySem.W.Frag} (c : SaysP fa fp tf exl w h K) : ∃ fd, FunD K d_Record_open_steps.name d_Record_open_steps.qual d_Record_open_steps.params d_Record_open_steps.body d_Record_open_steps.scope (d_Record_open_steps.dvs K) (d_Record_open_steps.kws K) (d_Record_open_steps.path K) fd := c.def_ 68 (d := d_Record_open_steps) (by rfl)
theorem D_Record_ways {w : World} {h : Heap} {K : PySem.W.Frag} (c : SaysP fa fp tf exl w h K) : ∃ fd, FunD K d_Record_ways.name d_Record_ways.qual d_Record_ways.params d_Record_ways.body d_Record_ways.scope (d_Record_ways.dvs K) (d_Record_ways.kws K) (d_Record_ways.path K) fd := c.def_ 69 (d := d_Record_ways) (by rfl)
theorem D_Record_prices {w : World} {h : Heap} {K : PySem.W.Frag} (c : SaysP fa fp tf exl w h K) : ∃ fd, FunD K d_Record_prices.name d_Record_prices.qual d_Record_prices.params d_Record_prices.body d_Record_prices.scope (d_Record_prices.dvs K) (d_Record_prices.kws K) (d_Record_prices.path K) fd := c.def_ 70 (d := d_Record_prices) (by rfl)
theorem D_Record_speeds {w : World} {h : Heap} {K : PySem.W.Frag} (c : SaysP fa fp tf exl w h K) : ∃ fd, FunD K d_Record_speeds.name d_Record_speeds.qual d_Record_speeds.params d_Record_speeds.body d_Record_speeds.scope (d_Record_speeds.dvs K) (d_Record_speeds.kws K) (d_Record_speeds.path K) fd := c.def_ 71 (d := d_Record_speeds) (by rfl)
theorem D_Record_trial {w : World} {h : Heap} {K : PySem.W.Frag} (c : SaysP fa fp tf exl w h K) : ∃ fd, FunD K d_Record_trial.name d_Record_trial.qual d_Record_trial.params d_Record_trial.body d_Record_trial.scope (d_Record_trial.dvs K) (d_Record_trial.kws K) (d_Record_trial.path K) fd := c.def_ 72 (d := d_Record_trial) (by rfl)
theorem D_Record_tried {w : World} {h : Heap} {K : PySem.W.Frag} (c : SaysP fa fp tf exl w h K) : ∃ fd, FunD K d_Record_tried.name d_Record_tried.qual d_Record_tried.params d_Record_tried.body d_Record_tried.scope (d_Record_tried.dvs K) (d_Record_tried.kws K) (d_Record_tried.path K) fd := c.def_ 73 (d := d_Record_tried) (by rfl)
theorem D_Meter_drop {w : World} {h : Heap} {K : PySem.W.Frag} (c : SaysP fa fp tf exl w h K) : ∃ fd, FunD K d_Meter_drop.name d_Meter_drop.qual d_Meter_drop.params d_Meter_drop.body d_Meter_drop.scope (d_Meter_drop.dvs K) (d_Meter_drop.kws K) (d_Meter_drop.path K) fd := c.def_ 74 (d := d_Meter_drop) (by rfl)
theorem D_Meter_flag {w : World} {h : Heap} {K : PySem.W.Frag} (c : SaysP fa fp tf exl w h K) : ∃ fd, FunD K d_Meter_flag.name d_Meter_flag.qual d_Meter_flag.params d_Meter_flag.body d_Meter_flag.scope (d_Meter_flag.dvs K) (d_Meter_flag.kws K) (d_Meter_flag.path K) fd := c.def_ 75 (d := d_Meter_flag) (by rfl)
theorem D_Meter_each {w : World} {h : Heap} {K : PySem.W.Frag} (c : SaysP fa fp tf exl w h K) : ∃ fd, FunD K d_Meter_each.name d_Meter_each.qual d_Meter_each.params d_Meter_each.body d_Meter_each.scope (d_Meter_each.dvs K) (d_Meter_each.kws K) (d_Meter_each.path K) fd := c.def_ 76 (d := d_Meter_each) (by rfl)
theorem D_Meter_start {w : World} {h : Heap} {K : PySem.W.Frag} (c : SaysP fa fp tf exl w h K) : ∃ fd, FunD K d_Meter_start.name d_Meter_start.qual d_Meter_start.params d_Meter_start.body d_Meter_start.scope (d_Meter_start.dvs K) (d_Meter_start.kws K) (d_Meter_start.path K) fd := c.def_ 77 (d := d_Meter_start) (by rfl)
theorem D_Record_meter {w : World} {h : Heap} {K : PySem.W.Frag} (c : SaysP fa fp tf exl w h K) : ∃ fd, FunD K d_Record_meter.name d_Record_meter.qual d_Record_meter.params d_Record_meter.body d_Record_meter.scope (d_Record_meter.dvs K) (d_Record_meter.kws K) (d_Record_meter.path K) fd := c.def_ 78 (d := d_Record_meter) (by rfl)
theorem D_Table_either {w : World} {h : Heap} {K : PySem.W.Frag} (c : SaysP fa fp tf exl w h K) : ∃ fd, FunD K d_Table_either.name d_Table_either.qual d_Table_either.params d_Table_either.body d_Table_either.scope (d_Table_either.dvs K) (d_Table_either.kws K) (d_Table_either.path K) fd := c.def_ 79 (d := d_Table_either) (by rfl)
theorem D_Table_both {w : World} {h : Heap} {K : PySem.W.Frag} (c : SaysP fa fp tf exl w h K) : ∃ fd, FunD K d_Table_both.name d_Table_both.qual d_Table_both.params d_Table_both.body d_Table_both.scope (d_Table_both.dvs K) (d_Table_both.kws K) (d_Table_both.path K) fd := c.def_ 80 (d := d_Table_both) (by rfl)
theorem D_Table_changing {w : World} {h : Heap} {K : PySem.W.Frag} (c : SaysP fa fp tf exl w h K) : ∃ fd, FunD K d_Table_changing.name d_Table_changing.qual d_Table_changing.params d_Table_changing.body d_Table_changing.scope (d_Table_changing.dvs K) (d_Table_changing.kws K) (d_Table_changing.path K) fd := c.def_ 81 (d := d_Table_changing) (by rfl)
theorem D_Table_read {w : World} {h : Heap} {K : PySem.W.Frag} (c : SaysP fa fp tf exl w h K) : ∃ fd, FunD K d_Table_read.name d_Table_read.qual d_Table_read.params d_Table_read.body d_Table_read.scope (d_Table_read.dvs K) (d_Table_read.kws K) (d_Table_read.path K) fd := c.def_ 82 (d := d_Table_read) (by rfl)
theorem g_is_whole {w : World} {h : Heap} {K : PySem.W.Frag} (c : SaysP fa fp tf exl w h K) : (Fa.glo "is_whole" : Fa).ok K = true := c.fact 0 (by rfl)
theorem g_is_between {w : World} {h : Heap} {K : PySem.W.Frag} (c : SaysP fa fp tf exl w h K) : (Fa.glo "is_between" : Fa).ok K = true := c.fact 1 (by rfl)
theorem g_is_speed {w : World} {h : Heap} {K : PySem.W.Frag} (c : SaysP fa fp tf exl w h K) : (Fa.glo "is_speed" : Fa).ok K = true := c.fact 2 (by rfl)
theorem g_is_trip {w : World} {h : Heap} {K : PySem.W.Frag} (c : SaysP fa fp tf exl w h K) : (Fa.glo "is_trip" : Fa).ok K = true := c.fact 3 (by rfl)
theorem g_check_trip {w : World} {h : Heap} {K : PySem.W.Frag} (c : SaysP fa fp tf exl w h K) : (Fa.glo "check_trip" : Fa).ok K = true := c.fact 4 (by rfl)
theorem g_are_worths {w : World} {h : Heap} {K : PySem.W.Frag} (c : SaysP fa fp tf exl w h K) : (Fa.glo "are_worths" : Fa).ok K = true := c.fact 5 (by rfl)
theorem g_check_numbers {w : World} {h : Heap} {K : PySem.W.Frag} (c : SaysP fa fp tf exl w h K) : (Fa.glo "check_numbers" : Fa).ok K = true := c.fact 6 (by rfl)
theorem g_check_number {w : World} {h : Heap} {K : PySem.W.Frag} (c : SaysP fa fp tf exl w h K) : (Fa.glo "check_number" : Fa).ok K = true := c.fact 7 (by rfl)
theorem g_check_top {w : World} {h : Heap} {K : PySem.W.Frag} (c : SaysP fa fp tf exl w h K) : (Fa.glo "check_top" : Fa).ok K = true := c.fact 8 (by rfl)
theorem g_are_turns {w : World} {h : Heap} {K : PySem.W.Frag} (c : SaysP fa fp tf exl w h K) : (Fa.glo "are_turns" : Fa).ok K = true := c.fact 9 (by rfl)
theorem g_is_speeds {w : World} {h : Heap} {K : PySem.W.Frag} (c : SaysP fa fp tf exl w h K) : (Fa.glo "is_speeds" : Fa).ok K = true := c.fact 10 (by rfl)
theorem g_is_claim {w : World} {h : Heap} {K : PySem.W.Frag} (c : SaysP fa fp tf exl w h K) : (Fa.glo "is_claim" : Fa).ok K = true := c.fact 11 (by rfl)
theorem g_need_claim {w : World} {h : Heap} {K : PySem.W.Frag} (c : SaysP fa fp tf exl w h K) : (Fa.glo "need_claim" : Fa).ok K = true := c.fact 12 (by rfl)
theorem g_holds_at {w : World} {h : Heap} {K : PySem.W.Frag} (c : SaysP fa fp tf exl w h K) : (Fa.glo "holds_at" : Fa).ok K = true := c.fact 13 (by rfl)
theorem g_layers_of {w : World} {h : Heap} {K : PySem.W.Frag} (c : SaysP fa fp tf exl w h K) : (Fa.glo "layers_of" : Fa).ok K = true := c.fact 14 (by rfl)
theorem g_is_wanted {w : World} {h : Heap} {K : PySem.W.Frag} (c : SaysP fa fp tf exl w h K) : (Fa.glo "is_wanted" : Fa).ok K = true := c.fact 15 (by rfl)
theorem g_some_trip {w : World} {h : Heap} {K : PySem.W.Frag} (c : SaysP fa fp tf exl w h K) : (Fa.glo "some_trip" : Fa).ok K = true := c.fact 16 (by rfl)
theorem g_verdict_on {w : World} {h : Heap} {K : PySem.W.Frag} (c : SaysP fa fp tf exl w h K) : (Fa.glo "verdict_on" : Fa).ok K = true := c.fact 17 (by rfl)
theorem g_way_range {w : World} {h : Heap} {K : PySem.W.Frag} (c : SaysP fa fp tf exl w h K) : (Fa.glo "way_range" : Fa).ok K = true := c.fact 18 (by rfl)
theorem g_law_bag {w : World} {h : Heap} {K : PySem.W.Frag} (c : SaysP fa fp tf exl w h K) : (Fa.glo "_law_bag" : Fa).ok K = true := c.fact 19 (by rfl)
theorem g_law_draw {w : World} {h : Heap} {K : PySem.W.Frag} (c : SaysP fa fp tf exl w h K) : (Fa.glo "_law_draw" : Fa).ok K = true := c.fact 20 (by rfl)
theorem g_law_mixed {w : World} {h : Heap} {K : PySem.W.Frag} (c : SaysP fa fp tf exl w h K) : (Fa.glo "_law_mixed" : Fa).ok K = true := c.fact 21 (by rfl)
theorem g_law_jumps_at {w : World} {h : Heap} {K : PySem.W.Frag} (c : SaysP fa fp tf exl w h K) : (Fa.glo "_law_jumps_at" : Fa).ok K = true := c.fact 22 (by rfl)
theorem g_law_worth {w : World} {h : Heap} {K : PySem.W.Frag} (c : SaysP fa fp tf exl w h K) : (Fa.glo "_law_worth" : Fa).ok K = true := c.fact 23 (by rfl)
theorem g_law_counts {w : World} {h : Heap} {K : PySem.W.Frag} (c : SaysP fa fp tf exl w h K) : (Fa.glo "_law_counts" : Fa).ok K = true := c.fact 24 (by rfl)
theorem g_law_small_worths {w : World} {h : Heap} {K : PySem.W.Frag} (c : SaysP fa fp tf exl w h K) : (Fa.glo "_law_small_worths" : Fa).ok K = true := c.fact 25 (by rfl)
theorem g_law_meter {w : World} {h : Heap} {K : PySem.W.Frag} (c : SaysP fa fp tf exl w h K) : (Fa.glo "_law_meter" : Fa).ok K = true := c.fact 26 (by rfl)
theorem g_law_made_table {w : World} {h : Heap} {K : PySem.W.Frag} (c : SaysP fa fp tf exl w h K) : (Fa.glo "_law_made_table" : Fa).ok K = true := c.fact 27 (by rfl)
theorem g_law_made {w : World} {h : Heap} {K : PySem.W.Frag} (c : SaysP fa fp tf exl w h K) : (Fa.glo "_law_made" : Fa).ok K = true := c.fact 28 (by rfl)
theorem g_law_digits {w : World} {h : Heap} {K : PySem.W.Frag} (c : SaysP fa fp tf exl w h K) : (Fa.glo "_law_digits" : Fa).ok K = true := c.fact 29 (by rfl)
theorem g_law_base_trip {w : World} {h : Heap} {K : PySem.W.Frag} (c : SaysP fa fp tf exl w h K) : (Fa.glo "_law_base_trip" : Fa).ok K = true := c.fact 30 (by rfl)
theorem g_law_true_fact {w : World} {h : Heap} {K : PySem.W.Frag} (c : SaysP fa fp tf exl w h K) : (Fa.glo "_law_true_fact" : Fa).ok K = true := c.fact 31 (by rfl)
theorem g_law_tell {w : World} {h : Heap} {K : PySem.W.Frag} (c : SaysP fa fp tf exl w h K) : (Fa.glo "_law_tell" : Fa).ok K = true := c.fact 32 (by rfl)
theorem g_law_left {w : World} {h : Heap} {K : PySem.W.Frag} (c : SaysP fa fp tf exl w h K) : (Fa.glo "_law_left" : Fa).ok K = true := c.fact 33 (by rfl)
theorem g_law_left_by {w : World} {h : Heap} {K : PySem.W.Frag} (c : SaysP fa fp tf exl w h K) : (Fa.glo "_law_left_by" : Fa).ok K = true := c.fact 34 (by rfl)
theorem g_law_parts_right {w : World} {h : Heap} {K : PySem.W.Frag} (c : SaysP fa fp tf exl w h K) : (Fa.glo "_law_parts_right" : Fa).ok K = true := c.fact 35 (by rfl)
theorem g_law_claims_right {w : World} {h : Heap} {K : PySem.W.Frag} (c : SaysP fa fp tf exl w h K) : (Fa.glo "_law_claims_right" : Fa).ok K = true := c.fact 36 (by rfl)
theorem g_law {w : World} {h : Heap} {K : PySem.W.Frag} (c : SaysP fa fp tf exl w h K) : (Fa.glo "law" : Fa).ok K = true := c.fact 37 (by rfl)
theorem g_number_in_trips {w : World} {h : Heap} {K : PySem.W.Frag} (c : SaysP fa fp tf exl w h K) : (Fa.glo "number_in_trips" : Fa).ok K = true := c.fact 38 (by rfl)
theorem g_Table {w : World} {h : Heap} {K : PySem.W.Frag} (c : SaysP fa fp tf exl w h K) : (Fa.glo "Table" : Fa).ok K = true := c.fact 39 (by rfl)
theorem g_Meter {w : World} {h : Heap} {K : PySem.W.Frag} (c : SaysP fa fp tf exl w h K) : (Fa.glo "Meter" : Fa).ok K = true := c.fact 40 (by rfl)
theorem g_RecordTrial {w : World} {h : Heap} {K : PySem.W.Frag} (c : SaysP fa fp tf exl w h K) : (Fa.glo "RecordTrial" : Fa).ok K = true := c.fact 41 (by rfl)
theorem g_Record {w : World} {h : Heap} {K : PySem.W.Frag} (c : SaysP fa fp tf exl w h K) : (Fa.glo "Record" : Fa).ok K = true := c.fact 42 (by rfl)
theorem f_isinstance {w : World} {h : Heap} {K : PySem.W.Frag} (c : SaysP fa fp tf exl w h K) : (Fa.free "isinstance" : Fa).ok K = true := c.fact 43 (by rfl)
theorem f_int {w : World} {h : Heap} {K : PySem.W.Frag} (c : SaysP fa fp tf exl w h K) : (Fa.free "int" : Fa).ok K = true := c.fact 44 (by rfl)
theorem f_bool {w : World} {h : Heap} {K : PySem.W.Frag} (c : SaysP fa fp tf exl w h K) : (Fa.free "bool" : Fa).ok K = true := c.fact 45 (by rfl)
theorem f_str {w : World} {h : Heap} {K : PySem.W.Frag} (c : SaysP fa fp tf exl w h K) : (Fa.free "str" : Fa).ok K = true := c.fact 46 (by rfl)
theorem f_len {w : World} {h : Heap} {K : PySem.W.Frag} (c : SaysP fa fp tf exl w h K) : (Fa.free "len" : Fa).ok K = true := c.fact 47 (by rfl)
theorem f_all {w : World} {h : Heap} {K : PySem.W.Frag} (c : SaysP fa fp tf exl w h K) : (Fa.free "all" : Fa).ok K = true := c.fact 48 (by rfl)
theorem f_list {w : World} {h : Heap} {K : PySem.W.Frag} (c : SaysP fa fp tf exl w h K) : (Fa.free "list" : Fa).ok K = true := c.fact 49 (by rfl)
theorem f_tuple {w : World} {h : Heap} {K : PySem.W.Frag} (c : SaysP fa fp tf exl w h K) : (Fa.free "tuple" : Fa).ok K = true := c.fact 50 (by rfl)
theorem f_range {w : World} {h : Heap} {K : PySem.W.Frag} (c : SaysP fa fp tf exl w h K) : (Fa.free "range" : Fa).ok K = true := c.fact 51 (by rfl)
theorem f_max {w : World} {h : Heap} {K : PySem.W.Frag} (c : SaysP fa fp tf exl w h K) : (Fa.free "max" : Fa).ok K = true := c.fact 52 (by rfl)
theorem f_min {w : World} {h : Heap} {K : PySem.W.Frag} (c : SaysP fa fp tf exl w h K) : (Fa.free "min" : Fa).ok K = true := c.fact 53 (by rfl)
theorem f_sum {w : World} {h : Heap} {K : PySem.W.Frag} (c : SaysP fa fp tf exl w h K) : (Fa.free "sum" : Fa).ok K = true := c.fact 54 (by rfl)
theorem f_abs {w : World} {h : Heap} {K : PySem.W.Frag} (c : SaysP fa fp tf exl w h K) : (Fa.free "abs" : Fa).ok K = true := c.fact 55 (by rfl)
theorem f_sorted {w : World} {h : Heap} {K : PySem.W.Frag} (c : SaysP fa fp tf exl w h K) : (Fa.free "sorted" : Fa).ok K = true := c.fact 56 (by rfl)
theorem i_MOST_TICKS {w : World} {h : Heap} {K : PySem.W.Frag} (c : SaysP fa fp tf exl w h K) : (Fa.int "MOST_TICKS" 2000 : Fa).ok K = true := c.fact 57 (by rfl)
theorem i_GREATEST_SPEED {w : World} {h : Heap} {K : PySem.W.Frag} (c : SaysP fa fp tf exl w h K) : (Fa.int "GREATEST_SPEED" 9 : Fa).ok K = true := c.fact 58 (by rfl)
theorem i_GREATEST_WORTH {w : World} {h : Heap} {K : PySem.W.Frag} (c : SaysP fa fp tf exl w h K) : (Fa.int "GREATEST_WORTH" 60 : Fa).ok K = true := c.fact 59 (by rfl)
theorem i_GREATEST_DROP {w : World} {h : Heap} {K : PySem.W.Frag} (c : SaysP fa fp tf exl w h K) : (Fa.int "GREATEST_DROP" 60 : Fa).ok K = true := c.fact 60 (by rfl)
theorem i_GREATEST_FLAG {w : World} {h : Heap} {K : PySem.W.Frag} (c : SaysP fa fp tf exl w h K) : (Fa.int "GREATEST_FLAG" 1000 : Fa).ok K = true := c.fact 61 (by rfl)
theorem i_GREATEST_EACH {w : World} {h : Heap} {K : PySem.W.Frag} (c : SaysP fa fp tf exl w h K) : (Fa.int "GREATEST_EACH" 100 : Fa).ok K = true := c.fact 62 (by rfl)
theorem i_GREATEST_TURN {w : World} {h : Heap} {K : PySem.W.Frag} (c : SaysP fa fp tf exl w h K) : (Fa.int "GREATEST_TURN" 9 : Fa).ok K = true := c.fact 63 (by rfl)
theorem i_MOST_TABLES {w : World} {h : Heap} {K : PySem.W.Frag} (c : SaysP fa fp tf exl w h K) : (Fa.int "MOST_TABLES" 3 : Fa).ok K = true := c.fact 64 (by rfl)
theorem i_SPEEDS {w : World} {h : Heap} {K : PySem.W.Frag} (c : SaysP fa fp tf exl w h K) : (Fa.int "SPEEDS" 10 : Fa).ok K = true := c.fact 65 (by rfl)
theorem i_LONGEST_RECORD {w : World} {h : Heap} {K : PySem.W.Frag} (c : SaysP fa fp tf exl w h K) : (Fa.int "LONGEST_RECORD" 40 : Fa).ok K = true := c.fact 66 (by rfl)
theorem s_DIGITS {w : World} {h : Heap} {K : PySem.W.Frag} (c : SaysP fa fp tf exl w h K) : (Fa.str "DIGITS" "0123456789" : Fa).ok K = true := c.fact 67 (by rfl)
theorem c_Table {w : World} {h : Heap} {K : PySem.W.Frag} (c : SaysP fa fp tf exl w h K) : (Fa.cls "Table" : Fa).ok K = true := c.fact 68 (by rfl)
theorem k_Table {w : World} {h : Heap} {K : PySem.W.Frag} (c : SaysP fa fp tf exl w h K) : (Fa.mkr "Table" : Fa).ok K = true := c.fact 69 (by rfl)
theorem c_Meter {w : World} {h : Heap} {K : PySem.W.Frag} (c : SaysP fa fp tf exl w h K) : (Fa.cls "Meter" : Fa).ok K = true := c.fact 70 (by rfl)
theorem k_Meter {w : World} {h : Heap} {K : PySem.W.Frag} (c : SaysP fa fp tf exl w h K) : (Fa.mkr "Meter" : Fa).ok K = true := c.fact 71 (by rfl)
theorem c_RecordTrial {w : World} {h : Heap} {K : PySem.W.Frag} (c : SaysP fa fp tf exl w h K) : (Fa.cls "RecordTrial" : Fa).ok K = true := c.fact 72 (by rfl)
theorem k_RecordTrial {w : World} {h : Heap} {K : PySem.W.Frag} (c : SaysP fa fp tf exl w h K) : (Fa.mkr "RecordTrial" : Fa).ok K = true := c.fact 73 (by rfl)
theorem c_Record {w : World} {h : Heap} {K : PySem.W.Frag} (c : SaysP fa fp tf exl w h K) : (Fa.cls "Record" : Fa).ok K = true := c.fact 74 (by rfl)
theorem k_Record {w : World} {h : Heap} {K : PySem.W.Frag} (c : SaysP fa fp tf exl w h K) : (Fa.mkr "Record" : Fa).ok K = true := c.fact 75 (by rfl)
theorem n_Table_row {w : World} {h : Heap} {K : PySem.W.Frag} (c : SaysP fa fp tf exl w h K) : (Fa.noat "Table" "row" : Fa).ok K = true := c.fact 76 (by rfl)
theorem n_Meter_own_numbers {w : World} {h : Heap} {K : PySem.W.Frag} (c : SaysP fa fp tf exl w h K) : (Fa.noat "Meter" "own_numbers" : Fa).ok K = true := c.fact 77 (by rfl)
theorem n_Meter_own_tables {w : World} {h : Heap} {K : PySem.W.Frag} (c : SaysP fa fp tf exl w h K) : (Fa.noat "Meter" "own_tables" : Fa).ok K = true := c.fact 78 (by rfl)
theorem n_Meter_own_turns {w : World} {h : Heap} {K : PySem.W.Frag} (c : SaysP fa fp tf exl w h K) : (Fa.noat "Meter" "own_turns" : Fa).ok K = true := c.fact 79 (by rfl)
theorem n_Meter_own_steps {w : World} {h : Heap} {K : PySem.W.Frag} (c : SaysP fa fp tf exl w h K) : (Fa.noat "Meter" "own_steps" : Fa).ok K = true := c.fact 80 (by rfl)
theorem n_RecordTrial_owner {w : World} {h : Heap} {K : PySem.W.Frag} (c : SaysP fa fp tf exl w h K) : (Fa.noat "RecordTrial" "owner" : Fa).ok K = true := c.fact 81 (by rfl)
theorem n_RecordTrial_kept_facts {w : World} {h : Heap} {K : PySem.W.Frag} (c : SaysP fa fp tf exl w h K) : (Fa.noat "RecordTrial" "kept_facts" : Fa).ok K = true := c.fact 82 (by rfl)
theorem n_Record_own_meter {w : World} {h : Heap} {K : PySem.W.Frag} (c : SaysP fa fp tf exl w h K) : (Fa.noat "Record" "own_meter" : Fa).ok K = true := c.fact 83 (by rfl)
theorem n_Record_own_ticks {w : World} {h : Heap} {K : PySem.W.Frag} (c : SaysP fa fp tf exl w h K) : (Fa.noat "Record" "own_ticks" : Fa).ok K = true := c.fact 84 (by rfl)
theorem n_Record_own_top {w : World} {h : Heap} {K : PySem.W.Frag} (c : SaysP fa fp tf exl w h K) : (Fa.noat "Record" "own_top" : Fa).ok K = true := c.fact 85 (by rfl)
theorem n_Record_own_facts {w : World} {h : Heap} {K : PySem.W.Frag} (c : SaysP fa fp tf exl w h K) : (Fa.noat "Record" "own_facts" : Fa).ok K = true := c.fact 86 (by rfl)
theorem m_Table_init {w : World} {h : Heap} {K : PySem.W.Frag} (c : SaysP fa fp tf exl w h K) : (Fa.meth "Table" "__init__" : Fa).ok K = true := c.fact 87 (by rfl)
theorem m_Table_getitem {w : World} {h : Heap} {K : PySem.W.Frag} (c : SaysP fa fp tf exl w h K) : (Fa.meth "Table" "__getitem__" : Fa).ok K = true := c.fact 88 (by rfl)
theorem m_Meter_init {w : World} {h : Heap} {K : PySem.W.Frag} (c : SaysP fa fp tf exl w h K) : (Fa.meth "Meter" "__init__" : Fa).ok K = true := c.fact 89 (by rfl)
theorem m_Meter_table_at {w : World} {h : Heap} {K : PySem.W.Frag} (c : SaysP fa fp tf exl w h K) : (Fa.meth "Meter" "table_at" : Fa).ok K = true := c.fact 90 (by rfl)
theorem m_Meter_jumps_at {w : World} {h : Heap} {K : PySem.W.Frag} (c : SaysP fa fp tf exl w h K) : (Fa.meth "Meter" "jumps_at" : Fa).ok K = true := c.fact 91 (by rfl)
theorem m_Meter_count_on {w : World} {h : Heap} {K : PySem.W.Frag} (c : SaysP fa fp tf exl w h K) : (Fa.meth "Meter" "count_on" : Fa).ok K = true := c.fact 92 (by rfl)
theorem m_Meter_price_at {w : World} {h : Heap} {K : PySem.W.Frag} (c : SaysP fa fp tf exl w h K) : (Fa.meth "Meter" "price_at" : Fa).ok K = true := c.fact 93 (by rfl)
theorem m_Meter_last_turn {w : World} {h : Heap} {K : PySem.W.Frag} (c : SaysP fa fp tf exl w h K) : (Fa.meth "Meter" "last_turn" : Fa).ok K = true := c.fact 94 (by rfl)
theorem m_Meter_step_from {w : World} {h : Heap} {K : PySem.W.Frag} (c : SaysP fa fp tf exl w h K) : (Fa.meth "Meter" "step_from" : Fa).ok K = true := c.fact 95 (by rfl)
theorem m_RecordTrial_init {w : World} {h : Heap} {K : PySem.W.Frag} (c : SaysP fa fp tf exl w h K) : (Fa.meth "RecordTrial" "__init__" : Fa).ok K = true := c.fact 96 (by rfl)
theorem m_RecordTrial_enter {w : World} {h : Heap} {K : PySem.W.Frag} (c : SaysP fa fp tf exl w h K) : (Fa.meth "RecordTrial" "__enter__" : Fa).ok K = true := c.fact 97 (by rfl)
theorem m_RecordTrial_exit {w : World} {h : Heap} {K : PySem.W.Frag} (c : SaysP fa fp tf exl w h K) : (Fa.meth "RecordTrial" "__exit__" : Fa).ok K = true := c.fact 98 (by rfl)
theorem m_Record_init {w : World} {h : Heap} {K : PySem.W.Frag} (c : SaysP fa fp tf exl w h K) : (Fa.meth "Record" "__init__" : Fa).ok K = true := c.fact 99 (by rfl)
theorem m_Record_len {w : World} {h : Heap} {K : PySem.W.Frag} (c : SaysP fa fp tf exl w h K) : (Fa.meth "Record" "__len__" : Fa).ok K = true := c.fact 100 (by rfl)
theorem m_Record_check_tick {w : World} {h : Heap} {K : PySem.W.Frag} (c : SaysP fa fp tf exl w h K) : (Fa.meth "Record" "check_tick" : Fa).ok K = true := c.fact 101 (by rfl)
theorem m_Record_take_in {w : World} {h : Heap} {K : PySem.W.Frag} (c : SaysP fa fp tf exl w h K) : (Fa.meth "Record" "take_in" : Fa).ok K = true := c.fact 102 (by rfl)
theorem m_Record_getitem {w : World} {h : Heap} {K : PySem.W.Frag} (c : SaysP fa fp tf exl w h K) : (Fa.meth "Record" "__getitem__" : Fa).ok K = true := c.fact 103 (by rfl)
theorem m_Record_only {w : World} {h : Heap} {K : PySem.W.Frag} (c : SaysP fa fp tf exl w h K) : (Fa.meth "Record" "only" : Fa).ok K = true := c.fact 104 (by rfl)
theorem m_Record_passed {w : World} {h : Heap} {K : PySem.W.Frag} (c : SaysP fa fp tf exl w h K) : (Fa.meth "Record" "passed" : Fa).ok K = true := c.fact 105 (by rfl)
theorem m_Record_showed {w : World} {h : Heap} {K : PySem.W.Frag} (c : SaysP fa fp tf exl w h K) : (Fa.meth "Record" "showed" : Fa).ok K = true := c.fact 106 (by rfl)
theorem m_Record_jumped {w : World} {h : Heap} {K : PySem.W.Frag} (c : SaysP fa fp tf exl w h K) : (Fa.meth "Record" "jumped" : Fa).ok K = true := c.fact 107 (by rfl)
theorem m_Record_agrees_at {w : World} {h : Heap} {K : PySem.W.Frag} (c : SaysP fa fp tf exl w h K) : (Fa.meth "Record" "agrees_at" : Fa).ok K = true := c.fact 108 (by rfl)
theorem m_Record_agrees_in {w : World} {h : Heap} {K : PySem.W.Frag} (c : SaysP fa fp tf exl w h K) : (Fa.meth "Record" "agrees_in" : Fa).ok K = true := c.fact 109 (by rfl)
theorem m_Record_steps_from {w : World} {h : Heap} {K : PySem.W.Frag} (c : SaysP fa fp tf exl w h K) : (Fa.meth "Record" "steps_from" : Fa).ok K = true := c.fact 110 (by rfl)
theorem m_Record_begins {w : World} {h : Heap} {K : PySem.W.Frag} (c : SaysP fa fp tf exl w h K) : (Fa.meth "Record" "begins" : Fa).ok K = true := c.fact 111 (by rfl)
theorem m_Record_numbers_ahead {w : World} {h : Heap} {K : PySem.W.Frag} (c : SaysP fa fp tf exl w h K) : (Fa.meth "Record" "numbers_ahead" : Fa).ok K = true := c.fact 112 (by rfl)
theorem m_Record_numbers_behind {w : World} {h : Heap} {K : PySem.W.Frag} (c : SaysP fa fp tf exl w h K) : (Fa.meth "Record" "numbers_behind" : Fa).ok K = true := c.fact 113 (by rfl)
theorem m_Record_fits {w : World} {h : Heap} {K : PySem.W.Frag} (c : SaysP fa fp tf exl w h K) : (Fa.meth "Record" "fits" : Fa).ok K = true := c.fact 114 (by rfl)
theorem m_Record_how_many {w : World} {h : Heap} {K : PySem.W.Frag} (c : SaysP fa fp tf exl w h K) : (Fa.meth "Record" "how_many" : Fa).ok K = true := c.fact 115 (by rfl)
theorem m_Record_open_steps {w : World} {h : Heap} {K : PySem.W.Frag} (c : SaysP fa fp tf exl w h K) : (Fa.meth "Record" "open_steps" : Fa).ok K = true := c.fact 116 (by rfl)
theorem m_Record_ways {w : World} {h : Heap} {K : PySem.W.Frag} (c : SaysP fa fp tf exl w h K) : (Fa.meth "Record" "ways" : Fa).ok K = true := c.fact 117 (by rfl)
theorem m_Record_prices {w : World} {h : Heap} {K : PySem.W.Frag} (c : SaysP fa fp tf exl w h K) : (Fa.meth "Record" "prices" : Fa).ok K = true := c.fact 118 (by rfl)
theorem m_Record_speeds {w : World} {h : Heap} {K : PySem.W.Frag} (c : SaysP fa fp tf exl w h K) : (Fa.meth "Record" "speeds" : Fa).ok K = true := c.fact 119 (by rfl)
theorem m_Record_trial {w : World} {h : Heap} {K : PySem.W.Frag} (c : SaysP fa fp tf exl w h K) : (Fa.meth "Record" "trial" : Fa).ok K = true := c.fact 120 (by rfl)
theorem m_Record_tried {w : World} {h : Heap} {K : PySem.W.Frag} (c : SaysP fa fp tf exl w h K) : (Fa.meth "Record" "tried" : Fa).ok K = true := c.fact 121 (by rfl)
theorem p_Meter_drop {w : World} {h : Heap} {K : PySem.W.Frag} (c : SaysP fa fp tf exl w h K) : propB K "Meter" "drop" = true := c.more 0 (f := fun K => propB K "Meter" "drop") (by rfl)
theorem p_Meter_flag {w : World} {h : Heap} {K : PySem.W.Frag} (c : SaysP fa fp tf exl w h K) : propB K "Meter" "flag" = true := c.more 1 (f := fun K => propB K "Meter" "flag") (by rfl)
theorem p_Meter_each {w : World} {h : Heap} {K : PySem.W.Frag} (c : SaysP fa fp tf exl w h K) : propB K "Meter" "each" = true := c.more 2 (f := fun K => propB K "Meter" "each") (by rfl)
theorem p_Meter_start {w : World} {h : Heap} {K : PySem.W.Frag} (c : SaysP fa fp tf exl w h K) : propB K "Meter" "start" = true := c.more 3 (f := fun K => propB K "Meter" "start") (by rfl)
theorem p_Record_meter {w : World} {h : Heap} {K : PySem.W.Frag} (c : SaysP fa fp tf exl w h K) : propB K "Record" "meter" = true := c.more 4 (f := fun K => propB K "Record" "meter") (by rfl)
theorem cr_Table {w : World} {h : Heap} {K : PySem.W.Frag} (c : SaysP fa fp tf exl w h K) : creadB K "Table" = true := c.more 5 (f := fun K => creadB K "Table") (by rfl)
theorem cm_Table_either {w : World} {h : Heap} {K : PySem.W.Frag} (c : SaysP fa fp tf exl w h K) : cmetB K "Table" "either" = true := c.more 6 (f := fun K => cmetB K "Table" "either") (by rfl)
theorem cm_Table_both {w : World} {h : Heap} {K : PySem.W.Frag} (c : SaysP fa fp tf exl w h K) : cmetB K "Table" "both" = true := c.more 7 (f := fun K => cmetB K "Table" "both") (by rfl)
theorem cm_Table_changing {w : World} {h : Heap} {K : PySem.W.Frag} (c : SaysP fa fp tf exl w h K) : cmetB K "Table" "changing" = true := c.more 8 (f := fun K => cmetB K "Table" "changing") (by rfl)
theorem cm_Table_read {w : World} {h : Heap} {K : PySem.W.Frag} (c : SaysP fa fp tf exl w h K) : cmetB K "Table" "read" = true := c.more 9 (f := fun K => cmetB K "Table" "read") (by rfl)
theorem gi_Table {w : World} {h : Heap} {K : PySem.W.Frag} (c : SaysP fa fp tf exl w h K) : PySem.W.fnIn K (ma K (ga K "Table") "__getitem__") = true := c.more 10 (f := fun K => PySem.W.fnIn K (ma K (ga K "Table") "__getitem__")) (by rfl)
theorem gi_Record {w : World} {h : Heap} {K : PySem.W.Frag} (c : SaysP fa fp tf exl w h K) : PySem.W.fnIn K (ma K (ga K "Record") "__getitem__") = true := c.more 11 (f := fun K => PySem.W.fnIn K (ma K (ga K "Record") "__getitem__")) (by rfl)
theorem kc_Table {w : World} {h : Heap} {K : PySem.W.Frag} (c : SaysP fa fp tf exl w h K) : PySem.W.keepIn K (.ref (ga K "Table")) = true := c.more 12 (f := fun K => PySem.W.keepIn K (.ref (ga K "Table"))) (by rfl)
theorem kc_Meter {w : World} {h : Heap} {K : PySem.W.Frag} (c : SaysP fa fp tf exl w h K) : PySem.W.keepIn K (.ref (ga K "Meter")) = true := c.more 13 (f := fun K => PySem.W.keepIn K (.ref (ga K "Meter"))) (by rfl)
theorem kc_RecordTrial {w : World} {h : Heap} {K : PySem.W.Frag} (c : SaysP fa fp tf exl w h K) : PySem.W.keepIn K (.ref (ga K "RecordTrial")) = true := c.more 14 (f := fun K => PySem.W.keepIn K (.ref (ga K "RecordTrial"))) (by rfl)
theorem kc_Record {w : World} {h : Heap} {K : PySem.W.Frag} (c : SaysP fa fp tf exl w h K) : PySem.W.keepIn K (.ref (ga K "Record")) = true := c.more 15 (f := fun K => PySem.W.keepIn K (.ref (ga K "Record"))) (by rfl)
theorem ty1_Table {w : World} {h : Heap} {K : PySem.W.Frag} (c : SaysP fa fp tf exl w h K) : eqO (PySem.W.findIn K (.ref (ga K "Table")) "__class__") (some (some (.builtin "object.__class__"))) = true := c.more 16 (f := fun K => eqO (PySem.W.findIn K (.ref (ga K "Table")) "__class__") (some (some (.builtin "object.__class__")))) (by rfl)
theorem ty2_Table {w : World} {h : Heap} {K : PySem.W.Frag} (c : SaysP fa fp tf exl w h K) : eqO (PySem.W.specialIn K (.builtin "object.__class__") "__get__") (some (some (.builtin "getset_descriptor.__get__"))) = true := c.more 17 (f := fun K => eqO (PySem.W.specialIn K (.builtin "object.__class__") "__get__") (some (some (.builtin "getset_descriptor.__get__")))) (by rfl)
theorem ty3_Table {w : World} {h : Heap} {K : PySem.W.Frag} (c : SaysP fa fp tf exl w h K) : decide (PySem.W.takesIn K (.builtin "object.__class__") = some true) = true := c.more 18 (f := fun K => decide (PySem.W.takesIn K (.builtin "object.__class__") = some true)) (by rfl)
theorem ty4_Table {w : World} {h : Heap} {K : PySem.W.Frag} (c : SaysP fa fp tf exl w h K) : decide (PySem.W.mroIn K (ga K "Table") (.type "object") = some true) = true := c.more 19 (f := fun K => decide (PySem.W.mroIn K (ga K "Table") (.type "object") = some true)) (by rfl)
theorem isi_Table {w : World} {h : Heap} {K : PySem.W.Frag} (c : SaysP fa fp tf exl w h K) : decide (PySem.W.kitOne K (.ref (ga K "Table")) (.ref (ga K "Table")) = some true) = true := c.more 20 (f := fun K => decide (PySem.W.kitOne K (.ref (ga K "Table")) (.ref (ga K "Table")) = some true)) (by rfl)
theorem ic_Table {w : World} {h : Heap} {K : PySem.W.Frag} (c : SaysP fa fp tf exl w h K) : PySem.W.isClsIn K (ga K "Table") = true := c.more 21 (f := fun K => PySem.W.isClsIn K (ga K "Table")) (by rfl)
theorem ic_Meter {w : World} {h : Heap} {K : PySem.W.Frag} (c : SaysP fa fp tf exl w h K) : PySem.W.isClsIn K (ga K "Meter") = true := c.more 22 (f := fun K => PySem.W.isClsIn K (ga K "Meter")) (by rfl)
theorem ic_RecordTrial {w : World} {h : Heap} {K : PySem.W.Frag} (c : SaysP fa fp tf exl w h K) : PySem.W.isClsIn K (ga K "RecordTrial") = true := c.more 23 (f := fun K => PySem.W.isClsIn K (ga K "RecordTrial")) (by rfl)
theorem ic_Record {w : World} {h : Heap} {K : PySem.W.Frag} (c : SaysP fa fp tf exl w h K) : PySem.W.isClsIn K (ga K "Record") = true := c.more 24 (f := fun K => PySem.W.isClsIn K (ga K "Record")) (by rfl)
end Cab
/-! text CabRun -/
set_option Elab.async false
set_option linter.all false
set_option maxRecDepth 100000
set_option maxHeartbeats 0
namespace Cab
open PySem PySem.Spec PyProof.Rows L2 He
abbrev R : PySem.W.OpenRow := PySem.W.OpenLaw.row PySem.Challenge.rw_cabmeters_k96_whole_one_fact_more
def ob (s : PySem.W.SharedT) : AlP := obsF cls4 fa fp tf exl (HandSHeadRun.getT s)
theorem ob_eq (s : PySem.W.SharedT) : ob s = hk.obs s.abs := obsF_eq.trans (obsPG_eq (HandSHeadRun.getT_eq s))
/-! the run in two, each of which asks less memory than the whole -/
section
open PySem.W HandSHeadRun
theorem run_looks (w : World) (os : OsState) : (endF (stepQ (denQ tabQ) R.prog w) 12000 R.prog w os).map (fun s => (looksF R.prog (boot_heap w.params) s.abs, seenQ (PySem.W.view R.prog [85]) loose (importedModules R.prog.main.body) (fun s => xlAt (PySem.W.view R.prog [85]) [] s && recOk R.toRowW.records s) s.abs)) = some (true, openGood (PySem.W.view R.prog [85]) loose) := by
  kernel_rfl
theorem run_facts (w : World) (os : OsState) : (endF (stepQ (denQ tabQ) R.prog w) 12000 R.prog w os).map ob = some (hk.val w) := by
  kernel_rfl
theorem map_two {α β γ δ : Type} {m : Option α} {f : α → β} {g : α → γ} {o : α → δ} {a : β} {b : γ} {c : δ} (h1 : m.map (fun s => (f s, g s)) = some (a, b)) (h2 : m.map o = some c) : m.map (fun s => (f s, g s, o s)) = some (a, b, c) := by
  cases m with
  | none => cases h2
  | some x =>
    have e1 : (f x, g x) = (a, b) := Option.some.inj h1
    have e2 : o x = c := Option.some.inj h2
    injection e1 with e4 e5
    show some (f x, g x, o x) = _
    rw [e2, e4, e5]
theorem run (w : World) : HandSHeadRun.RunEq R (PySem.W.view R.prog [85]) hk ob 12000 loose w := fun os => map_two (run_looks w os) (run_facts w os)
end
end Cab
/-! text CabW -/
set_option Elab.async false
set_option linter.all false
set_option maxRecDepth 100000
set_option maxHeartbeats 2000000
/-! Own layer over HandS: what must hold ahead of an expression, a test, arguments, a statement, a block, told by the machine itself (so it is monotone and one for all states). -/
namespace Cab
open PySem PySem.Spec PyProof.Rows L2

/-! ### the weakest readings -/
def WE (X : Cx) (e : Expr) : TE := fun σ H Q => ∀ pins s, Inv X pins σ H s → wpAny (model X.prog X.w) X.A (eval e X.env) (EP X pins σ Q) X.xe s
def WT (X : Cx) (e : Expr) : TT := fun σ H Q => ∀ pins s, Inv X pins σ H s → wpAny (model X.prog X.w) X.A (isTrue e X.env (eval e X.env)) (TP X pins σ Q) X.xe s
def WW (X : Cx) (e : Expr) : TT := fun σ H Q => ∀ (wh : Sem Value) pins s, Inv X pins σ H s → wpAny (model X.prog X.w) X.A (isTrue e X.env wh) (TP X pins σ Q) X.xe s
def WA (X : Cx) (es : List Expr) : TA := fun σ H Q => ∀ (pos : Pos) pins s, Inv X pins σ H s → wpAny (model X.prog X.w) X.A (spliced (backTo pos (starEach es X.env))) (AP X pins σ Q) X.xe s
def WS (X : Cx) (st : Stmt) : TS := fun D σ H => ∀ pins s, Inv X pins σ H s → wpAny (model X.prog X.w) X.A (exec st X.env) (SP X pins D) X.xe s
def WB (X : Cx) (sts : List Stmt) : TS := fun D σ H => ∀ pins s, Inv X pins σ H s → wpAny (model X.prog X.w) X.A (execs sts X.env) (SP X pins D) X.xe s
def WG (X : Cx) (tg : Expr) : TG := fun v σ H Q => ∀ pins s u, Inv X pins σ H s → RelV v u → wpAny (model X.prog X.w) X.A (assign tg X.env u) (fun _ s' => ∃ σ' H', Inv X pins σ' H' s' ∧ Q σ' H') X.xe s
def WI (X : Cx) (tg iter : Expr) : TI := fun σ H R => ∀ pins s, Inv X pins σ H s → wpAny (model X.prog X.w) X.A (eval iter X.env) (fun v s1 => wpAny (model X.prog X.w) X.A (pyIter v) (PIE X pins σ tg R) X.xe s1) X.xe s
section
variable {X : Cx} {e : Expr} {es : List Expr} {st : Stmt} {sts : List Stmt} {tg iter : Expr} {σ : L2.St} {H : Hp}
theorem pE : PE X e (WE X e) := ⟨fun pins s _ _ _ I h => h pins s I⟩
theorem pT : PT X e (WT X e) := ⟨fun pins s _ _ _ I h => h pins s I⟩
theorem pW : PW X e (WW X e) := ⟨fun wh pins s _ _ _ I h => h wh pins s I⟩
theorem pA : PA X es (WA X es) := ⟨fun pos pins s _ _ _ I h => h pos pins s I⟩
theorem pS : PS X st (WS X st) := ⟨fun pins s _ _ _ I h => h pins s I⟩
theorem pB : PSs X sts (WB X sts) := ⟨fun pins s _ _ _ I h => h pins s I⟩
theorem pG' : PG X tg (WG X tg) := ⟨fun pins s _ _ v u Q I r h => h pins s u I r⟩
theorem pI : PI X tg iter (WI X tg iter) := ⟨fun pins s _ _ _ I h => h pins s I⟩
theorem wE {t : TE} (p : PE X e t) {Q : VK} (h : t σ H Q) : WE X e σ H Q := fun pins s I => p.run pins s σ H Q I h
theorem wT {t : TT} (p : PT X e t) {Q : Bool → Hp → Prop} (h : t σ H Q) : WT X e σ H Q := fun pins s I => p.run pins s σ H Q I h
theorem wW {t : TT} (p : PW X e t) {Q : Bool → Hp → Prop} (h : t σ H Q) : WW X e σ H Q := fun wh pins s I => p.run wh pins s σ H Q I h
theorem wA {t : TA} (p : PA X es t) {Q : List V → Hp → Prop} (h : t σ H Q) : WA X es σ H Q := fun pos pins s I => p.run pos pins s σ H Q I h
theorem wS {t : TS} (p : PS X st t) {D : Ends} (h : t D σ H) : WS X st D σ H := fun pins s I => p.run pins s σ H D I h
theorem wB {t : TS} (p : PSs X sts t) {D : Ends} (h : t D σ H) : WB X sts D σ H := fun pins s I => p.run pins s σ H D I h
theorem wG {t : TG} (p : PG X tg t) {v : V} {Q : L2.St → Hp → Prop} (h : t v σ H Q) : WG X tg v σ H Q := fun pins s u I r => p.run pins s σ H v u Q I r h
theorem wI {t : TI} (p : PI X tg iter t) {R : It → Hp → Prop} (h : t σ H R) : WI X tg iter σ H R := fun pins s I => p.run pins s σ H R I h
theorem WE.mono {Q Q' : VK} (h : WE X e σ H Q) (k : ∀ v H', Q v H' → Q' v H') : WE X e σ H Q' := fun pins s I => thn (h pins s I) fun _ _ ⟨v, H', I', r, q⟩ => ⟨v, H', I', r, k v H' q⟩
theorem WT.mono {Q Q' : Bool → Hp → Prop} (h : WT X e σ H Q) (k : ∀ b H', Q b H' → Q' b H') : WT X e σ H Q' := fun pins s I => thn (h pins s I) fun b _ ⟨H', I', q⟩ => ⟨H', I', k b H' q⟩
theorem WA.mono {Q Q' : List V → Hp → Prop} (h : WA X es σ H Q) (k : ∀ vs H', Q vs H' → Q' vs H') : WA X es σ H Q' := fun pos pins s I => thn (h pos pins s I) fun _ _ ⟨v, H', I', r, q⟩ => ⟨v, H', I', r, k v H' q⟩
theorem sp_mono {pins : List (Addr × Obj)} {D D' : Ends} {f : Flow} {s : Shared} (h : SP X pins D f s) (k : ∀ σ H, D.nx σ H → D'.nx σ H) (kr : ∀ v H, D.rt v H → D'.rt v H) (kb : ∀ σ H, D.bk σ H → D'.bk σ H) (kc : ∀ σ H, D.ct σ H → D'.ct σ H) : SP X pins D' f s := by
  cases f with
  | next => obtain ⟨σ', H', I, q⟩ := h; exact ⟨σ', H', I, k _ _ q⟩
  | brk => obtain ⟨σ', H', I, q⟩ := h; exact ⟨σ', H', I, kb _ _ q⟩
  | cont => obtain ⟨σ', H', I, q⟩ := h; exact ⟨σ', H', I, kc _ _ q⟩
  | ret u => obtain ⟨v, σ', H', I, r, q⟩ := h; exact ⟨v, σ', H', I, r, kr _ _ q⟩
theorem WB.mono {D D' : Ends} (h : WB X sts D σ H) (k : ∀ σ H, D.nx σ H → D'.nx σ H) (kr : ∀ v H, D.rt v H → D'.rt v H) (kb : ∀ σ H, D.bk σ H → D'.bk σ H) (kc : ∀ σ H, D.ct σ H → D'.ct σ H) : WB X sts D' σ H :=
  fun pins s I => thn (h pins s I) fun _ _ q => sp_mono q k kr kb kc

/-! ### blocks and statements -/
variable {rest : List Stmt} {D : Ends} {pos : Pos} {a b : Expr}
theorem wb_nil (h : D.nx σ H) : WB X [] D σ H := wB pss_nil h
theorem wb_cons (h : WS X st { D with nx := WB X rest D } σ H) : WB X (st :: rest) D σ H := wB (pss_cons pS pB) h
theorem ws_ret (h : WE X e σ H D.rt) : WS X (.Return (some e) pos) D σ H := wS (ps_ret pE) h
theorem ws_retN (h : D.rt .non H) : WS X (.Return none pos) D σ H := wS ps_retN h
theorem ws_pass (h : D.nx σ H) : WS X (.Pass pos) D σ H := wS ps_pass h
theorem ws_expr (h : WE X e σ H fun _ H1 => D.nx σ H1) (hs : swapsWith e none pos.line X.env = pure false := by rfl) : WS X (.Expr e pos) D σ H := wS (ps_expr pE hs) h
theorem ws_if {c : Expr} {sa sb : List Stmt} (h : WT X c σ H fun b H1 => if b = true then WB X sa D σ H1 else WB X sb D σ H1) : WS X (.If c sa sb pos) D σ H := wS (ps_if pT pB pB) h
theorem ws_set {x : Str} {pos' : Pos} (i : Nat) (h : WE X e σ H fun v H1 => D.nx (σ.set i (some v)) H1) (hN : X.N.Nodup) (hi : X.N[i]? = some x := by rfl) (hx : Loc X.env.scope x := by first | exact Or.inl rfl | exact Or.inr rfl)
    (hs : swapsWith e (some (.Name x pos')) pos.line X.env = pure false := by rfl) (hf : X.fn x = true ∨ X.env.scope.names.lookup x = some .local := by first | exact .inl rfl | exact .inr rfl) : WS X (.Assign [.Name x pos'] e pos) D σ H :=
  wS (ps_set hN hi hx pE hs hf) h
theorem ws_asg (h : WE X e σ H fun v H1 => WG X tg v σ H1 D.nx) (hs : swapsWithSole [tg] e pos.line X.env = pure false := by rfl) (hw : swappedStores [tg] e X.env = pure none := by rfl)
    (h1 : (assignEach [tg] X.env).map (·.2) = [assign tg X.env] := by rfl) : WS X (.Assign [tg] e pos) D σ H := wS (ps_asg pE pG' hs hw h1) h
/-- a for: over what, by a word of the whole -/
theorem ws_for {body : List Stmt} (hp : PassesOwn (model X.prog X.w) X.A X.env X.xe) (hc : X.calm = true) (hs : ∀ y, foldedSetIterable iter X.env y = pure y)
    (h : WI X tg iter σ H fun J H1 => ∃ W : Nat → Nat → L2.St → Hp → Prop, (∃ m, W 0 m σ H1) ∧ ∀ i m σ H, W i m σ H →
      (J.stop i H ∧ D.nx σ H) ∨ (J.go i H ∧ ∃ N : L2.St → Hp → Prop, (∀ σ' H', N σ' H' → ∃ m', m' < m ∧ W (i + 1) m' σ' H') ∧ ∀ x H', J.yld i H x H' → WG X tg x σ H' fun σ2 H2 => WB X body { D with nx := N, ct := N, bk := D.nx } σ2 H2)) :
    WS X (.For tg iter body [] pos) D σ H := wS (ps_for hp hc pI pG' pB hs) h
theorem ws_while {c : Expr} {body : List Stmt} (hp : PassesOwn (model X.prog X.w) X.A X.env X.xe) (Pv : L2.St → Hp → Prop) (μ : L2.St → Hp → Nat) (h0 : Pv σ H)
    (hs : ∀ σ H, Pv σ H → WT X c σ H fun b H1 => if b = true then WB X body { D with nx := fun σ' H' => Pv σ' H' ∧ μ σ' H' < μ σ H, ct := fun σ' H' => Pv σ' H' ∧ μ σ' H' < μ σ H, bk := D.nx } σ H1 else D.nx σ H1) :
    WS X (.While c body [] pos) D σ H := wS (ps_while hp pT pB) (while_by Pv μ h0 hs fun _ _ _ _ k q => WT.mono q k)

/-! ### targets -/
theorem wg_name {x : Str} {v : V} {Q : L2.St → Hp → Prop} (i : Nat) (h : Q (σ.set i (some v)) H) (hN : X.N.Nodup) (hi : X.N[i]? = some x := by rfl) (hx : Loc X.env.scope x := by first | exact Or.inl rfl | exact Or.inr rfl)
    (hf : X.fn x = true ∨ X.env.scope.names.lookup x = some .local := by first | exact .inl rfl | exact .inr rfl) : WG X (.Name x pos) v σ H Q := wG (pg_name hN hi hx hf) h
/-- a, b = a tuple: all targets names -/
theorem wg_tup2 {x y : Str} {p1 p2 : Pos} {k : Nat} {p : Addr} {v w : V} {Q : L2.St → Hp → Prop} (i j : Nat) (ht : SqT X.K H p [v, w]) (h : Q ((σ.set i (some v)).set j (some w)) H) (hc : X.calm = true) (hN : X.N.Nodup) (hi : X.N[i]? = some x := by rfl) (hj : X.N[j]? = some y := by rfl)
    (hx : Loc X.env.scope x := by first | exact Or.inl rfl | exact Or.inr rfl) (hy : Loc X.env.scope y := by first | exact Or.inl rfl | exact Or.inr rfl)
    (hf : X.fn x = true ∨ X.env.scope.names.lookup x = some .local := by first | exact .inl rfl | exact .inr rfl) (hg : X.fn y = true ∨ X.env.scope.names.lookup y = some .local := by first | exact .inl rfl | exact .inr rfl)
    (hn : (assignEach [.Name x p1, .Name y p2] X.env).length = 2 := by rfl) (hst : (assignEach [.Name x p1, .Name y p2] X.env).findIdx? (·.1) = none := by rfl)
    (hs1 : (assignEach [.Name x p1, .Name y p2] X.env).map (·.2) = assign (.Name x p1) X.env :: (assignEach [.Name y p2] X.env).map (·.2) := by rfl)
    (hs2 : (assignEach [.Name y p2] X.env).map (·.2) = assign (.Name y p2) X.env :: (assignEach [] X.env).map (·.2) := by rfl) :
    WG X (.Tuple [.Name x p1, .Name y p2] k pos) (.ref p) σ H Q :=
  wG (pg_tup hc (pgs_cons (pg_name hN hi hx hf) (pgs_cons (pg_name hN hj hy hg) pgs_nil hs2) hs1) hn hst) ⟨p, _, rfl, ht, rfl, _, _, rfl, _, _, rfl, rfl, h⟩
theorem wg_tup3 {x y z : Str} {p1 p2 p3 : Pos} {k : Nat} {p : Addr} {v w u : V} {Q : L2.St → Hp → Prop} (i j l : Nat) (ht : SqT X.K H p [v, w, u]) (h : Q (((σ.set i (some v)).set j (some w)).set l (some u)) H) (hc : X.calm = true) (hN : X.N.Nodup)
    (hi : X.N[i]? = some x := by rfl) (hj : X.N[j]? = some y := by rfl) (hl : X.N[l]? = some z := by rfl)
    (hx : Loc X.env.scope x := by first | exact Or.inl rfl | exact Or.inr rfl) (hy : Loc X.env.scope y := by first | exact Or.inl rfl | exact Or.inr rfl) (hz : Loc X.env.scope z := by first | exact Or.inl rfl | exact Or.inr rfl)
    (hf : X.fn x = true ∨ X.env.scope.names.lookup x = some .local := by first | exact .inl rfl | exact .inr rfl) (hg : X.fn y = true ∨ X.env.scope.names.lookup y = some .local := by first | exact .inl rfl | exact .inr rfl)
    (hh : X.fn z = true ∨ X.env.scope.names.lookup z = some .local := by first | exact .inl rfl | exact .inr rfl)
    (hn : (assignEach [.Name x p1, .Name y p2, .Name z p3] X.env).length = 3 := by rfl) (hst : (assignEach [.Name x p1, .Name y p2, .Name z p3] X.env).findIdx? (·.1) = none := by rfl)
    (hs1 : (assignEach [.Name x p1, .Name y p2, .Name z p3] X.env).map (·.2) = assign (.Name x p1) X.env :: (assignEach [.Name y p2, .Name z p3] X.env).map (·.2) := by rfl)
    (hs2 : (assignEach [.Name y p2, .Name z p3] X.env).map (·.2) = assign (.Name y p2) X.env :: (assignEach [.Name z p3] X.env).map (·.2) := by rfl)
    (hs3 : (assignEach [.Name z p3] X.env).map (·.2) = assign (.Name z p3) X.env :: (assignEach [] X.env).map (·.2) := by rfl) :
    WG X (.Tuple [.Name x p1, .Name y p2, .Name z p3] k pos) (.ref p) σ H Q :=
  wG (pg_tup hc (pgs_cons (pg_name hN hi hx hf) (pgs_cons (pg_name hN hj hy hg) (pgs_cons (pg_name hN hl hz hh) pgs_nil hs3) hs2) hs1) hn hst) ⟨p, _, rfl, ht, rfl, _, _, rfl, _, _, rfl, _, _, rfl, rfl, h⟩

/-! ### expressions -/
variable {Q : VK}
theorem we_var {x : Str} {v : V} (i : Nat) (hσ : σ[i]? = some (some v)) (h : Q v H) (hN : X.N[i]? = some x := by rfl) (hv : Vis X.env.scope x := by first | exact Or.inl rfl | exact Or.inr (Or.inl rfl) | exact Or.inr (Or.inr rfl))
    (hd : (x == ("__debug__" : Str)) = false := by decide) (hcd : (x == ("__classdict__" : Str)) = false := by decide) : WE X (.Name x pos) σ H Q := wE (pe_var hN hv hd hcd) ⟨v, hσ, h⟩
theorem we_int {i : Int} {j : Nat} (h : Q (.int i) H) : WE X (.Constant (.int i) j pos) σ H Q := wE pe_int h
theorem we_str {x : Str} {j : Nat} (h : Q (.str x) H) : WE X (.Constant (.str x) j pos) σ H Q := wE pe_str h
theorem we_bl {b : Bool} {j : Nat} (h : Q (.bl b) H) : WE X (.Constant (.bool b) j pos) σ H Q := wE pe_bl h
theorem we_non {j : Nat} (h : Q .non H) : WE X (.Constant .none j pos) σ H Q := wE pe_non h
theorem we_glob {x : Str} {v : V} {u : Value} (hm : X.mg x = some u) (r : RelV v u) (h : Q v H) (hg : Gl X x := by rfl) (hd : (x == ("__debug__" : Str)) = false := by decide) : WE X (.Name x pos) σ H Q := wE (pe_glob hg hm r hd) h
theorem we_bltn {x : Str} {v : V} {u : Value} (hm : X.mg x = none) (hv : bootBuiltins x = some u) (r : RelV v u) (h : Q v H) (hg : Gl X x := by rfl) (hn : x ≠ "__name__" := by decide) (hd : (x == ("__debug__" : Str)) = false := by decide) : WE X (.Name x pos) σ H Q :=
  wE (pe_bltn hg hm hv r hn hd) h
theorem we_op {op : Operator} {r : R2} (ho : OpR X (binaryOp op) r) (h : WE X a σ H fun x H1 => WE X b σ H1 fun y H2 => r x y H2 Q) : WE X (.BinOp a op b pos) σ H Q := wE (pe_op ho pE pE) h
theorem we_add (h : WE X a σ H fun x H1 => WE X b σ H1 fun y H2 => ∃ i j, x = .int i ∧ y = .int j ∧ Q (.int (i + j)) H2) : WE X (.BinOp a .Add b pos) σ H Q := we_op op_add h
theorem we_sub (h : WE X a σ H fun x H1 => WE X b σ H1 fun y H2 => ∃ i j, x = .int i ∧ y = .int j ∧ Q (.int (i - j)) H2) : WE X (.BinOp a .Sub b pos) σ H Q := we_op op_sub h
theorem we_un {op : UnaryOp} {r : V → Hp → VK → Prop} (ho : UnR X (unaryOp op) r) (h : WE X a σ H fun x H1 => r x H1 Q) : WE X (.UnaryOp op a pos) σ H Q := wE (pe_un ho pE) h
theorem we_cmp {op : CmpOp} {r : R2} (ho : OpR X (compareOp op) r) (h : WE X a σ H fun x H1 => WE X b σ H1 fun y H2 => r x y H2 Q) (hm : behindInMarks op b = false := by first | exact nomark _ | rfl) : WE X (.Compare a [op] [b] pos) σ H Q := wE (pe_cmpR ho pE pE hm) h
theorem wt_cmp {op : CmpOp} {r : R2} {Q : Bool → Hp → Prop} (ho : OpR X (compareOp op) r) (h : WE X a σ H fun x H1 => WE X b σ H1 fun y H2 => r x y H2 fun z H3 => ∃ k, z = .bl k ∧ Q k H3) (hm : behindInMarks op b = false := by first | exact nomark _ | rfl) : WT X (.Compare a [op] [b] pos) σ H Q :=
  wT (pt_cmpR ho pE pE hm) h
theorem we_fld {f : Str} (h : WE X e σ H fun x H1 => ∃ p C dx fs v, x = .ref p ∧ H1 p = some (.ins C dx fs) ∧ Cls X.K C ∧ NoAttr X.K C f ∧ fs.lookup f = some v ∧ Q v H1) (hb : attributeBase e f X.env (eval e X.env) = eval e X.env := by rfl) :
    WE X (.Attribute e f pos) σ H Q := wE (pe_fld pE hb) h
theorem we_tup {k : Nat} (h : WA X es σ H fun xs H1 => xs.length ≤ sizeLine ∧ ∀ p H2, H1 p = none → Same H1 H2 → H2 p = some (.tup xs) → Q (.ref p) H2) : WE X (.Tuple es k pos) σ H Q :=
  wE (pe_tup pA) (WA.mono h fun vs H1 ⟨z, k⟩ => ⟨z, fun p hp => k p _ hp (fun b o q => by rw [upd_ne (ne_of_none q hp)]; exact q) upd_same⟩)
theorem we_lst (h : WA X es σ H fun xs H1 => xs.length ≤ sizeLine ∧ ∀ p H2, H1 p = none → Same H1 H2 → H2 p = some (.lst xs) → Q (.ref p) H2) : WE X (.List es pos) σ H Q :=
  wE (pe_lst pA) (WA.mono h fun vs H1 ⟨z, k⟩ => ⟨z, fun p hp => k p _ hp (fun b o q => by rw [upd_ne (ne_of_none q hp)]; exact q) upd_same⟩)
theorem we_ifExp {c : Expr} (h : WT X c σ H fun k H1 => if k = true then WE X a σ H1 Q else WE X b σ H1 Q) : WE X (.IfExp c a b pos) σ H Q := wE (pe_ifExp pT pE pE) h
theorem we_not (h : WE X a σ H fun x H1 => ∃ c, x = .bl c ∧ Q (.bl (!c)) H1) : WE X (.UnaryOp .Not a pos) σ H Q := wE (pe_not pE) h
theorem we_one {op : BoolOp} (h : WE X a σ H Q) : WE X (.BoolOp op [a] pos) σ H Q := wE (pe_one pE) h
theorem we_and {r : List Expr} (h : WE X a σ H fun x H1 => ∃ c, x = .bl c ∧ if c = true then WE X (.BoolOp .And (b :: r) pos) σ H1 Q else Q (.bl false) H1) : WE X (.BoolOp .And (a :: b :: r) pos) σ H Q := wE (pe_and pE pE) h
theorem we_or {r : List Expr} (h : WE X a σ H fun x H1 => ∃ c, x = .bl c ∧ if c = true then Q (.bl true) H1 else WE X (.BoolOp .Or (b :: r) pos) σ H1 Q) : WE X (.BoolOp .Or (a :: b :: r) pos) σ H Q := wE (pe_or pE pE) h
theorem we_ix {r : R2} (hr : IxR X r) (h : WE X a σ H fun x H1 => WE X b σ H1 fun y H2 => r x y H2 Q) (hs : PlainIx b := by exact fun _ _ => rfl) : WE X (.Subscript a b pos) σ H Q := wE (pe_ix hr pE pE hs) h
theorem we_chain {op op' : CmpOp} {c : Expr} {r r' : R2} (ho : OpR X (compareOp op) r) (ho' : OpR X (compareOp op') r')
    (h : WE X a σ H fun x H1 => WE X b σ H1 fun y H2 => r x y H2 fun z H3 => ∃ k, z = .bl k ∧ (if k = true then WE X c σ H3 fun w' H4 => r' y w' H4 Q else Q (.bl false) H3)) (hm : lastMarks [op, op'] [b, c] = false := by with_unfolding_all rfl) : WE X (.Compare a [op, op'] [b, c] pos) σ H Q := wE (pe_chain ho ho' pE pE pE hm) h

/-! ### tests -/
variable {QT : Bool → Hp → Prop}
theorem wt_val (h : WE X e σ H fun x H1 => ∃ c, x = .bl c ∧ QT c H1) (he : ∀ whole, isTrue e X.env whole = (do let v ← whole; standAt e.pos; holding [v] (truthy v)) := by intro _; rfl) : WT X e σ H QT := wT (pt_val pE he) h
theorem wt_W (h : WW X e σ H QT) : WT X e σ H QT := wT pW.pt h
theorem ww_and {r : List Expr} (h : WT X a σ H fun c H1 => if c = true then WW X (.BoolOp .And (b :: r) pos) σ H1 QT else QT false H1) : WW X (.BoolOp .And (a :: b :: r) pos) σ H QT := wW (pw_and pT pW) h
theorem ww_or {r : List Expr} (h : WT X a σ H fun c H1 => if c = true then QT true H1 else WW X (.BoolOp .Or (b :: r) pos) σ H1 QT) : WW X (.BoolOp .Or (a :: b :: r) pos) σ H QT := wW (pw_or pT pW) h
theorem ww_and1 (h : WT X a σ H QT) : WW X (.BoolOp .And [a] pos) σ H QT := wW (pw_and1 pT) h
theorem ww_or1 (h : WT X a σ H QT) : WW X (.BoolOp .Or [a] pos) σ H QT := wW (pw_or1 pT) h
theorem wt_not (h : WT X a σ H fun c H1 => QT (!c) H1) : WT X (.UnaryOp .Not a pos) σ H QT := wT (pt_not pT) h
theorem wt_truth (h : WE X e σ H fun x H1 => ∃ k, TruV X.K x H1 k ∧ QT k H1) (he : ∀ whole, isTrue e X.env whole = (do let v ← whole; standAt e.pos; holding [v] (truthy v)) := by intro _; rfl) : WT X e σ H QT := wT (pt_truth pE he) h

/-! ### arguments and calls -/
theorem wa_nil {Q : List V → Hp → Prop} (h : Q [] H) : WA X [] σ H Q := wA pa_nil h
theorem wa_cons {Q : List V → Hp → Prop} (h : WE X e σ H fun x H1 => WA X es σ H1 fun xs H2 => Q (x :: xs) H2) (hs : starEach (e :: es) X.env = (false, eval e X.env) :: starEach es X.env := by rfl) : WA X (e :: es) σ H Q := wA (pa_cons pE pA hs) h
theorem wa_star {Q : List V → Hp → Prop} {p : Pos} (h : WE X e σ H fun x H1 => ∃ p xs, x = V.ref p ∧ (SqT X.K H1 p xs ∨ SqL X.K H1 p xs) ∧ WA X es σ H1 fun ys H2 => Q (xs ++ ys) H2) (hs : starEach (.Starred e p :: es) X.env = (true, eval e X.env) :: starEach es X.env := by rfl) : WA X (.Starred e p :: es) σ H Q := wA (StX.pa_star pE pA hs) h
theorem we_blt {x : Str} {id : String} {p : Pos} {r : List V → Hp → VK → Prop} (hc : CallR X (.builtin id) r) (hm : X.mg x = none) (hv : bootBuiltins x = some (.builtin id)) (h : WA X (e :: es) σ H fun vs H1 => r vs H1 Q) (hg : Gl X x := by rfl)
    (he : starEach (e :: es) X.env = (false, eval e X.env) :: starEach es X.env := by rfl) (hpl : (backTo pos (starEach es X.env)).any (·.1) = false := by rfl) (hn : x ≠ "__name__" := by decide) (hd : (x == ("__debug__" : Str)) = false := by decide) :
    WE X (.Call (.Name x p) (e :: es) [] pos) σ H Q := wE (pe_callB hc hg hm hv pA hn hd he hpl) h
theorem we_ty {x : Str} {T : String} {p : Pos} {r : List V → Hp → VK → Prop} (hc : CallR X (.type T) r) (hm : X.mg x = none) (hv : bootBuiltins x = some (.type T)) (h : WA X (e :: es) σ H fun vs H1 => r vs H1 Q) (hg : Gl X x := by rfl)
    (he : starEach (e :: es) X.env = (false, eval e X.env) :: starEach es X.env := by rfl) (hpl : (backTo pos (starEach es X.env)).any (·.1) = false := by rfl) (hn : x ≠ "__name__" := by decide) (hd : (x == ("__debug__" : Str)) = false := by decide) :
    WE X (.Call (.Name x p) (e :: es) [] pos) σ H Q := wE (pe_callTy hc hg hm hv pA hn hd he hpl) h
end
end Cab
/-! text CabB -/
set_option Elab.async false
set_option linter.all false
set_option maxRecDepth 100000
set_option maxHeartbeats 2000000
/-! what the top has left, as one hypothesis; defs, methods, makers, getters, classmethods by their promises -/
namespace Cab
open PySem PySem.Spec PyProof.Rows L2 He

structure TX (K : PySem.W.Frag) (mg : Str → Option Value) : Prop where
  ex : ∃ (w : World) (h : Heap), K.In h ∧ h.Ns mainGlobals mg ∧ SaysP fa fp tf exl w h K
section
variable {K : PySem.W.Frag} {mg : Str → Option Value} (T : TX K mg)
include T
theorem TX.g {x : Str} (f : ∀ {w : World} {h : Heap} {K : PySem.W.Frag}, SaysP fa fp tf exl w h K → (Fa.glo x).ok K = true) : mg x = some (.ref (ga K x)) := let ⟨_, _, X, G, c⟩ := T.ex; glo_ok X G (f c)
theorem TX.fr {x : Str} (f : ∀ {w : World} {h : Heap} {K : PySem.W.Frag}, SaysP fa fp tf exl w h K → (Fa.free x).ok K = true) : mg x = none := let ⟨_, _, X, G, c⟩ := T.ex; free_ok X G (f c)
theorem TX.i {x : Str} {i : Int} (f : ∀ {w : World} {h : Heap} {K : PySem.W.Frag}, SaysP fa fp tf exl w h K → (Fa.int x i).ok K = true) : ∃ u, mg x = some u ∧ RelV (.int i) u := let ⟨_, _, X, G, c⟩ := T.ex; let ⟨t, e⟩ := int_ok X G (f c); ⟨_, e, ⟨t, rfl⟩⟩
theorem TX.s {x z : Str} (f : ∀ {w : World} {h : Heap} {K : PySem.W.Frag}, SaysP fa fp tf exl w h K → (Fa.str x z).ok K = true) : ∃ u, mg x = some u ∧ RelV (.str z) u := let ⟨_, _, X, G, c⟩ := T.ex; let ⟨t, e⟩ := str_ok X G (f c); ⟨_, e, ⟨t, rfl⟩⟩
theorem TX.c {x : Str} (f : ∀ {w : World} {h : Heap} {K : PySem.W.Frag}, SaysP fa fp tf exl w h K → (Fa.cls x).ok K = true) : Cls K (ga K x) := let ⟨_, _, X, G, c⟩ := T.ex; cls_ok (f c)
theorem TX.n {x f : Str} (q : ∀ {w : World} {h : Heap} {K : PySem.W.Frag}, SaysP fa fp tf exl w h K → (Fa.noat x f).ok K = true) : NoAttr K (ga K x) f := let ⟨_, _, X, G, c⟩ := T.ex; noat_ok (q c)
theorem TX.m {x m : Str} (q : ∀ {w : World} {h : Heap} {K : PySem.W.Frag}, SaysP fa fp tf exl w h K → (Fa.meth x m).ok K = true) : Meth K (ga K x) m (ma K (ga K x) m) := let ⟨_, _, X, G, c⟩ := T.ex; meth_ok (q c)
theorem TX.k {x : Str} (q : ∀ {w : World} {h : Heap} {K : PySem.W.Frag}, SaysP fa fp tf exl w h K → (Fa.mkr x).ok K = true) : Mk K (ga K x) (ma K (ga K x) "__init__") := let ⟨_, _, X, G, c⟩ := T.ex; mkr_ok (q c)
theorem TX.x {b : PySem.W.Frag → Bool} (q : ∀ {w : World} {h : Heap} {K : PySem.W.Frag}, SaysP fa fp tf exl w h K → b K = true) : b K = true := let ⟨_, _, _, _, c⟩ := T.ex; q c
theorem TX.d {d : DefP} (q : ∀ {w : World} {h : Heap} {K : PySem.W.Frag}, SaysP fa fp tf exl w h K → ∃ fd, FunD K d.name d.qual d.params d.body d.scope (d.dvs K) (d.kws K) (d.path K) fd) :
    ∃ fd, FunD K d.name d.qual d.params d.body d.scope (d.dvs K) (d.kws K) (d.path K) fd := let ⟨_, _, _, _, c⟩ := T.ex; q c
end

section
variable (P : Program) (w : World) (K : PySem.W.Frag) (mg : Str → Option Value) (base : Heap)
/-- the context of a def's body -/
abbrev XC (d : DefP) (N : List Str) (f : Addr) (cdv : Value) (A : Around) (outer : List Env) (s : Shared) (H : Hp) (E : XK) : Cx := (cxOf CX0 P w K mg base N d.qual d.scope f cdv A outer s H E).nox
/-- the body's goal -/
abbrev Body (d : DefP) (N : List Str) (k : Nat) (sp : Sp) : Prop := ∀ (cdv : Value) (A : Around) (outer : List Env) (s : Shared) (H : Hp) (vs : List V) (Q : VK) (E : XK), Room k (XC P w K mg base d N (d.path K) cdv A outer s H E).A → sp vs H Q E →
  WB (XC P w K mg base d N (d.path K) cdv A outer s H E) d.body { nx := fun _ H' => Q .non H', rt := Q } (L2.start N vs) H
/-- a def, found at the path of d, keeps a promise -/
structure FnP (d : DefP) (k : Nat) (ps : List Str) (sp : Sp) (dvs : List V) : Prop where
  ex : ∃ (fd : FuncData) (ds : List Value), FnOk P w K mg base CX0 k (d.path K) fd ps sp ∧ FunD K d.name d.qual d.params d.body d.scope (d.dvs K) (d.kws K) (d.path K) fd ∧ Binds K fd ps ds ∧ Vals dvs ds
end
section
variable {P : Program} {w : World} {K : PySem.W.Frag} {mg : Str → Option Value} {base : Heap}
theorem fn_ok' {d : DefP} {N ps : List Str} {k : Nat} {sp : Sp} {fd : FuncData} (F : FunD K d.name d.qual d.params d.body d.scope (d.dvs K) (d.kws K) (d.path K) fd) (S : FnScope N ps d.scope) (len : ∀ vs H Q E, sp vs H Q E → vs.length = ps.length)
    (h : Body P w K mg base d N k sp) : FnOk P w K mg base CX0 (k + 1) (d.path K) fd ps sp :=
  F.ok S len fun cdv A outer s H vs Q E hr hs => ⟨_, PSs.nox pB, h cdv A outer s H vs Q E hr hs⟩
/-- a def without defaults -/
theorem fnp {d : DefP} {N ps : List Str} {k : Nat} {sp : Sp} (F : ∃ fd, FunD K d.name d.qual d.params d.body d.scope (d.dvs K) (d.kws K) (d.path K) fd) (hd : d.dfl = []) (S : FnScope N ps d.scope)
    (hb : ∀ (kV doc pm : Value) (an : Option Addr) (cdv ct : Value) (us : List Value), us.length = ps.length → bindArgs (PySem.W.fnOf d.name d.qual d.params d.body d.scope .none kV doc pm an cdv ct) ⟨us, []⟩ = pure (ps.zip us))
    (len : ∀ vs H Q E, sp vs H Q E → vs.length = ps.length) (h : Body P w K mg base d N k sp) : FnP P w K mg base d (k + 1) ps sp [] := by
  obtain ⟨fd, F⟩ := F
  refine ⟨fd, [], fn_ok' F S len h, F, ?_, .nil⟩
  have e : d.dvs K = [] := by
    unfold DefP.dvs
    rw [hd]
    rfl
  rw [e] at F
  exact F.bindsN hb
theorem FnP.imp {d : DefP} {ps : List Str} {k : Nat} {sp sp' : Sp} {dvs : List V} (F : FnP P w K mg base d k ps sp dvs) (h : ∀ vs H Q E, sp' vs H Q E → sp vs H Q E) : FnP P w K mg base d k ps sp' dvs :=
  let ⟨fd, ds, a, b, c, e⟩ := F.ex
  ⟨fd, ds, a.imp h, b, c, e⟩
end

/-! ### calls by these -/
section
variable {X : Cx} {d : DefP} {k j : Nat} {ps : List Str} {sp : Sp} {dvs : List V} {x m f : Str} {e o : Expr} {es : List Expr} {p pos apos : Pos} {σ : L2.St} {H : Hp} {Q : VK} {C : Addr}
/-- f(..) of the module -/
theorem we_call (F : FnP X.prog X.w X.K X.mg X.base d k ps sp dvs) (hm : X.mg x = some (.ref (d.path X.K))) (hr : Room j X.A) (h : WA X (e :: es) σ H fun vs H1 => sp (vs ++ dvs) H1 Q E0) (hk : k ≤ j := by decide) (hg : Gl X x := by rfl)
    (hdb : (x == ("__debug__" : Str)) = false := by decide) (he : starEach (e :: es) X.env = (false, eval e X.env) :: starEach es X.env := by rfl) (hpl : (backTo pos (starEach es X.env)).any (·.1) = false := by rfl) : WE X (.Call (.Name x p) (e :: es) [] pos) σ H Q := by
  obtain ⟨fd, ds, F, D, b, r⟩ := F.ex
  exact wE (pe_call F (hr.mono hk) hg hm D.kp b r pass0 pA hdb he hpl) h
/-- o.m(..) -/
theorem we_meth (F : FnP X.prog X.w X.K X.mg X.base d k ps sp dvs) (c : Cls X.K C) (hm : Meth X.K C m (d.path X.K)) (hr : Room j X.A)
    (h : WE X o σ H fun x H1 => ∃ a dx fs, x = .ref a ∧ H1 a = some (.ins C dx fs) ∧ fs.lookup m = none ∧ WA X (e :: es) σ H1 fun vs H2 => sp (x :: (vs ++ dvs)) H2 Q E0) (hk : k ≤ j := by decide)
    {pl : Sem Bool} (hst : starEach (e :: es) X.env = (false, eval e X.env) :: starEach es X.env := by rfl) (hpl : (backTo pos (starEach es X.env)).any (·.1) = false := by rfl)
    (ht : eval (.Call (.Attribute o m apos) (e :: es) [] pos) X.env = (do
      let ov ← eval o X.env
      standAt apos.atName
      let (f, first) ← holding [ov] (getMethod ov m pl)
      callWith pos f first (backTo pos (starEach (e :: es) X.env)) (backToKw pos (keywordEach [] X.env))) := by rfl) : WE X (.Call (.Attribute o m apos) (e :: es) [] pos) σ H Q := by
  obtain ⟨fd, ds, F, D, b, r⟩ := F.ex
  exact wE (pe_meth pE c hm F (hr.mono hk) b r pass0 pA hst hpl ht) h
theorem we_meth0 (F : FnP X.prog X.w X.K X.mg X.base d k ps sp dvs) (c : Cls X.K C) (hm : Meth X.K C m (d.path X.K)) (hr : Room j X.A)
    (h : WE X o σ H fun x H1 => ∃ a dx fs, x = .ref a ∧ H1 a = some (.ins C dx fs) ∧ fs.lookup m = none ∧ sp (x :: dvs) H1 Q E0) (hk : k ≤ j := by decide)
    {pl : Sem Bool} (ht : eval (.Call (.Attribute o m apos) [] [] pos) X.env = (do
      let ov ← eval o X.env
      standAt apos.atName
      let (f, first) ← holding [ov] (getMethod ov m pl)
      callWith pos f first (backTo pos (starEach [] X.env)) (backToKw pos (keywordEach [] X.env))) := by rfl) : WE X (.Call (.Attribute o m apos) [] [] pos) σ H Q := by
  obtain ⟨fd, ds, F, D, b, r⟩ := F.ex
  exact wE (pe_meth0 pE c hm F (hr.mono hk) b r pass0 ht) h
/-- C(..) -/
theorem we_make (F : FnP X.prog X.w X.K X.mg X.base d k ps sp dvs) (M : Mk X.K C (d.path X.K)) (hm : X.mg x = some (.ref C)) (hr : Room j X.A)
    (h : WA X (e :: es) σ H fun vs H1 => ∀ y dx H2, H1 y = none → H1 dx = none → dx ≠ y → Same H1 H2 → H2 y = some (.ins C dx []) → sp (.ref y :: (vs ++ dvs)) H2 (fun v H2 => v = .non ∧ Q (.ref y) H2) E0) (hk : k + 1 ≤ j := by decide) (hg : Gl X x := by rfl)
    (hdb : (x == ("__debug__" : Str)) = false := by decide) (he : starEach (e :: es) X.env = (false, eval e X.env) :: starEach es X.env := by rfl) (hpl : (backTo pos (starEach es X.env)).any (·.1) = false := by rfl) : WE X (.Call (.Name x p) (e :: es) [] pos) σ H Q := by
  obtain ⟨fd, ds, F, D, b, r⟩ := F.ex
  refine wE (pe_make M F (hr.mono hk) hg hm b r pass0 pA hdb he hpl) (WA.mono h fun vs H1 k y dx n1 n2 n3 => k y dx _ n1 n2 n3 (fun b o q => ?_) upd_same)
  rw [upd_ne (ne_of_none q n1), upd_ne (ne_of_none q n2)]
  exact q
/-- e.f, a property -/
theorem we_prop {p : Addr} (F : FnP X.prog X.w X.K X.mg X.base d k ps sp dvs) (c : Cls X.K C) (hp : PropOf X.K C f p (d.path X.K)) (hr : Room j X.A)
    (h : WE X e σ H fun x H1 => ∃ a dx fs, x = .ref a ∧ H1 a = some (.ins C dx fs) ∧ sp (.ref a :: dvs) H1 Q E0) (hk : k + 1 ≤ j := by decide) (hab : attributeBase e f X.env (eval e X.env) = eval e X.env := by rfl) : WE X (.Attribute e f pos) σ H Q := by
  obtain ⟨fd, ds, F, D, b, r⟩ := F.ex
  exact wE (pe_prop pE c hp F (hr.mono hk) b r pass0 hab) h
end

/-! ### heaps -/
/-- all that was tracked but what stands at p -/
def But (p : Addr) (H H' : Hp) : Prop := ∀ b o, H b = some o → b ≠ p → H' b = some o
theorem But.same {p : Addr} {H H' : Hp} (h : Same H H') : But p H H' := fun b o e _ => h b o e
theorem But.trans {p : Addr} {H H1 H2 : Hp} (a : But p H H1) (b : But p H1 H2) : But p H H2 := fun c o h n => b c o (a c o h n) n
theorem But.upd {p : Addr} {H : Hp} {o : HO} : But p H (upd H p o) := fun b q e n => by rw [upd_ne n]; exact e
/-- what p was not tracked before is all kept -/
theorem But.of_new {p : Addr} {H0 H H' : Hp} (s : Same H0 H) (n : H0 p = none) (b : But p H H') : Same H0 H' := fun c o e => b c o (s c o e) (ne_of_none e n)
theorem Same.at {H H' : Hp} {a : Addr} {o : HO} (s : Same H H') (h : H a = some o) : H' a = some o := s a o h
theorem Same.new {H : Hp} {p : Addr} {o : HO} (h : H p = none) : Same H (upd H p o) := fun b q e => by rw [upd_ne (ne_of_none e h)]; exact e
theorem Same.seqT {K : PySem.W.Frag} {H H' : Hp} {a : Addr} {xs : List V} (e : Same H H') (h : SqT K H a xs) : SqT K H' a xs := by
  rcases h with (h | ⟨o, h⟩) | h
  · exact .inl (.inl (e _ _ h))
  · exact .inl (.inr ⟨o, e _ _ h⟩)
  · exact .inr h
theorem sz_le {n : Nat} (h : n ≤ 1000000) : n ≤ sizeLine := Nat.le_trans h (by decide)
theorem sz_lt {n : Nat} (h : n < 1000000) : n < sizeLine := Nat.lt_of_lt_of_le h (by decide)
end Cab
/-! text CabC -/
set_option Elab.async false
set_option linter.all false
set_option maxRecDepth 100000
set_option maxHeartbeats 2000000
/-! walks, comprehensions, promises by the number of arguments -/
namespace Cab
open PySem PySem.Spec PyProof.Rows L2 He

/-! ### promises by the number of arguments -/
def sp1 (f : V → Hp → VK → Prop) : Sp := fun vs H Q _ => ∃ a, vs = [a] ∧ f a H Q
def sp2 (f : V → V → Hp → VK → Prop) : Sp := fun vs H Q _ => ∃ a b, vs = [a, b] ∧ f a b H Q
def sp3 (f : V → V → V → Hp → VK → Prop) : Sp := fun vs H Q _ => ∃ a b c, vs = [a, b, c] ∧ f a b c H Q
def sp4 (f : V → V → V → V → Hp → VK → Prop) : Sp := fun vs H Q _ => ∃ a b c d, vs = [a, b, c, d] ∧ f a b c d H Q
def sp5 (f : V → V → V → V → V → Hp → VK → Prop) : Sp := fun vs H Q _ => ∃ a b c d e, vs = [a, b, c, d, e] ∧ f a b c d e H Q
section
variable {P : Program} {w : World} {K : PySem.W.Frag} {mg : Str → Option Value} {base : Heap}
abbrev HasD (K : PySem.W.Frag) (d : DefP) : Prop := ∃ fd, FunD K d.name d.qual d.params d.body d.scope (d.dvs K) (d.kws K) (d.path K) fd
abbrev HasB (d : DefP) (ps : List Str) : Prop := ∀ (kV doc pm : Value) (an : Option Addr) (cdv ct : Value) (us : List Value), us.length = ps.length → bindArgs (PySem.W.fnOf d.name d.qual d.params d.body d.scope .none kV doc pm an cdv ct) ⟨us, []⟩ = pure (ps.zip us)
theorem fn1 {d : DefP} {N : List Str} {x1 : Str} {k : Nat} {f : V → Hp → VK → Prop} (F : HasD K d) (hd : d.dfl = []) (S : FnScope N [x1] d.scope) (hb : HasB d [x1])
    (h : ∀ (cdv : Value) (A : Around) (outer : List Env) (s : Shared) (H : Hp) (Q : VK) (E : XK) (a : V), Room k (XC P w K mg base d N (d.path K) cdv A outer s H E).A → f a H Q →
      WB (XC P w K mg base d N (d.path K) cdv A outer s H E) d.body { nx := fun _ H' => Q .non H', rt := Q } (L2.start N [a]) H) : FnP P w K mg base d (k + 1) [x1] (sp1 f) [] :=
  fnp F hd S hb (fun vs H Q E ⟨a, e, _⟩ => by rw [e]; rfl) fun cdv A outer s H vs Q E hr ⟨a, e, q⟩ => by subst e; exact h cdv A outer s H Q E a hr q
theorem fn2 {d : DefP} {N : List Str} {x1 x2 : Str} {k : Nat} {f : V → V → Hp → VK → Prop} (F : HasD K d) (hd : d.dfl = []) (S : FnScope N [x1, x2] d.scope) (hb : HasB d [x1, x2])
    (h : ∀ (cdv : Value) (A : Around) (outer : List Env) (s : Shared) (H : Hp) (Q : VK) (E : XK) (a b : V), Room k (XC P w K mg base d N (d.path K) cdv A outer s H E).A → f a b H Q →
      WB (XC P w K mg base d N (d.path K) cdv A outer s H E) d.body { nx := fun _ H' => Q .non H', rt := Q } (L2.start N [a, b]) H) : FnP P w K mg base d (k + 1) [x1, x2] (sp2 f) [] :=
  fnp F hd S hb (fun vs H Q E ⟨a, b, e, _⟩ => by rw [e]; rfl) fun cdv A outer s H vs Q E hr ⟨a, b, e, q⟩ => by subst e; exact h cdv A outer s H Q E a b hr q
theorem fn3 {d : DefP} {N : List Str} {x1 x2 x3 : Str} {k : Nat} {f : V → V → V → Hp → VK → Prop} (F : HasD K d) (hd : d.dfl = []) (S : FnScope N [x1, x2, x3] d.scope) (hb : HasB d [x1, x2, x3])
    (h : ∀ (cdv : Value) (A : Around) (outer : List Env) (s : Shared) (H : Hp) (Q : VK) (E : XK) (a b c : V), Room k (XC P w K mg base d N (d.path K) cdv A outer s H E).A → f a b c H Q →
      WB (XC P w K mg base d N (d.path K) cdv A outer s H E) d.body { nx := fun _ H' => Q .non H', rt := Q } (L2.start N [a, b, c]) H) : FnP P w K mg base d (k + 1) [x1, x2, x3] (sp3 f) [] :=
  fnp F hd S hb (fun vs H Q E ⟨a, b, c, e, _⟩ => by rw [e]; rfl) fun cdv A outer s H vs Q E hr ⟨a, b, c, e, q⟩ => by subst e; exact h cdv A outer s H Q E a b c hr q
theorem fn4 {d : DefP} {N : List Str} {x1 x2 x3 x4 : Str} {k : Nat} {f : V → V → V → V → Hp → VK → Prop} (F : HasD K d) (hd : d.dfl = []) (S : FnScope N [x1, x2, x3, x4] d.scope) (hb : HasB d [x1, x2, x3, x4])
    (h : ∀ (cdv : Value) (A : Around) (outer : List Env) (s : Shared) (H : Hp) (Q : VK) (E : XK) (a b c d' : V), Room k (XC P w K mg base d N (d.path K) cdv A outer s H E).A → f a b c d' H Q →
      WB (XC P w K mg base d N (d.path K) cdv A outer s H E) d.body { nx := fun _ H' => Q .non H', rt := Q } (L2.start N [a, b, c, d']) H) : FnP P w K mg base d (k + 1) [x1, x2, x3, x4] (sp4 f) [] :=
  fnp F hd S hb (fun vs H Q E ⟨a, b, c, d', e, _⟩ => by rw [e]; rfl) fun cdv A outer s H vs Q E hr ⟨a, b, c, d', e, q⟩ => by subst e; exact h cdv A outer s H Q E a b c d' hr q
theorem fn5 {d : DefP} {N : List Str} {x1 x2 x3 x4 x5 : Str} {k : Nat} {f : V → V → V → V → V → Hp → VK → Prop} (F : HasD K d) (hd : d.dfl = []) (S : FnScope N [x1, x2, x3, x4, x5] d.scope) (hb : HasB d [x1, x2, x3, x4, x5])
    (h : ∀ (cdv : Value) (A : Around) (outer : List Env) (s : Shared) (H : Hp) (Q : VK) (E : XK) (a b c d' e' : V), Room k (XC P w K mg base d N (d.path K) cdv A outer s H E).A → f a b c d' e' H Q →
      WB (XC P w K mg base d N (d.path K) cdv A outer s H E) d.body { nx := fun _ H' => Q .non H', rt := Q } (L2.start N [a, b, c, d', e']) H) : FnP P w K mg base d (k + 1) [x1, x2, x3, x4, x5] (sp5 f) [] :=
  fnp F hd S hb (fun vs H Q E ⟨a, b, c, d', e', e, _⟩ => by rw [e]; rfl) fun cdv A outer s H vs Q E hr ⟨a, b, c, d', e', e, q⟩ => by subst e; exact h cdv A outer s H Q E a b c d' e' hr q
end

/-! ### for, over a walk -/
section
variable {X : Cx} {e : Expr} {tg iter : Expr} {σ : L2.St} {H : Hp} {D : Ends} {pos : Pos}
/-- Pv: by the turn, the slots, the heap -/
theorem ws_forW {body : List Stmt} (hp : PassesOwn (model X.prog X.w) X.A X.env X.xe) (hc : X.calm = true) (hs : ∀ y, foldedSetIterable iter X.env y = pure y)
    (h : WI X tg iter σ H fun J H1 => ∃ (n : Nat) (G : Hp → Prop) (Y : Nat → Hp → V → Hp → Prop), Walk J n G Y ∧ ∃ Pv : Nat → L2.St → Hp → Prop, Pv 0 σ H1 ∧ (∀ i σ H, i ≤ n → Pv i σ H → G H) ∧
      (∀ i x σ H H', i < n → Pv i σ H → Y i H x H' → WG X tg x σ H' fun σ2 H2 => WB X body { D with nx := Pv (i + 1), ct := Pv (i + 1), bk := D.nx } σ2 H2) ∧ ∀ σ H, Pv n σ H → D.nx σ H) :
    WS X (.For tg iter body [] pos) D σ H := by
  refine ws_for hp hc hs fun pins s I => ?_
  refine thn (h pins s I) fun v s1 k => thn k fun itv s2 k2 => ?_
  obtain ⟨it, fp, tn, J, H', e1, I2, T, t0, hf, n, G, Y, wk, Pv, h0, hG, ht, hd⟩ := k2
  exact ⟨it, fp, tn, J, H', e1, I2, T, t0, hf, for_it (g := WG X tg) (tb := WB X body) wk Pv h0 hG ht hd⟩

/-! what is walked -/
theorem wi_list {R : It → Hp → Prop} (h : WE X iter σ H fun x H1 => ∃ a xs, x = .ref a ∧ SqL X.K H1 a xs ∧ R (Itl X.K a) H1) : WI X tg iter σ H R := wI (pi_list pE) (WE.mono h fun _ _ ⟨a, xs, e, q, r⟩ => ⟨a, e, ⟨xs, q⟩, r⟩)
theorem wi_tup {R : It → Hp → Prop} (h : WE X iter σ H fun x H1 => ∃ a xs, x = .ref a ∧ SqT X.K H1 a xs ∧ R (Itt X.K a) H1) : WI X tg iter σ H R := wI (pi_tup pE) (WE.mono h fun _ _ ⟨a, xs, e, q, r⟩ => ⟨a, e, ⟨xs, q⟩, r⟩)
theorem wi_str {R : It → Hp → Prop} (h : WE X iter σ H fun x H1 => ∃ z, x = .str z ∧ R (Its z) H1) : WI X tg iter σ H R := wI (pi_str pE) h
theorem wi_rng1 {R : It → Hp → Prop} {a : Expr} {p : Pos} (hm : X.mg "range" = none) (h : WE X a σ H fun x H1 => ∃ n : Int, x = .int n ∧ -(2 ^ 62) ≤ n ∧ n < 2 ^ 62 ∧ R (Itr 0 n.toNat) H1) (hg : Gl X "range" := by rfl) (hs : starEach [a] X.env = [(false, eval a X.env)] := by rfl) :
    WI X tg (.Call (.Name "range" p) [a] [] pos) σ H R := by
  refine wI (pi_range1 hg hm (pa_cons pE pa_nil hs) hs) (WE.mono h fun x H1 ⟨n, e, h1, h2, r⟩ => ?_)
  first
    | exact ⟨n, by rw [e], h1, h2, r⟩
    | exact ⟨n, congrArg (fun z => [z]) e, h1, h2, r⟩
/-- the keys of a dict with tuple keys: within a lock -/
theorem wi_keysT {R : It → Hp → Prop} (h : WE X iter σ H fun x H1 => ∃ d o kvs, x = .ref d ∧ H1 d = some (.frz o (.dT kvs)) ∧ R (Itkt d o kvs) H1) : WI X tg iter σ H R := wI (pi_keys pE) (WE.mono h fun _ _ ⟨d, o, kvs, e, q, r⟩ => ⟨d, o, e, .inr ⟨kvs, q, r⟩⟩)
end

/-! ### comprehensions -/
/-- of every block of a comprehension -/
def AB (X : Cx) (scope : Scope) (p : Cx → Prop) : Prop := ∀ (s : Shared) (H : Hp) (C : Addr) (cl : List (Str × Addr)) (fp : List Addr), p (X.blk s H scope (compEnvC scope cl C X.env) fp)
def WTs (X : Cx) (ifs : List Expr) : TT := fun σ H Q => ∀ pins s, Inv X pins σ H s →
    wpAny (model X.prog X.w) X.A (forIn ifs true fun c r => if r = true then do let ok ← isTrue c X.env (eval c X.env); pure (ForInStep.yield ok) else pure (ForInStep.yield r)) (TP X pins σ Q) X.xe s
section
variable {X : Cx} {σ : L2.St} {H : Hp}
theorem wts_nil {Q : Bool → Hp → Prop} (h : Q true H) : WTs X [] σ H Q := fun pins s I => pts_nil.run pins s σ H Q I h
theorem wts_one {c : Expr} {Q : Bool → Hp → Prop} (h : WT X c σ H Q) : WTs X [c] σ H Q := fun pins s I => (pts_one pT).run pins s σ H Q I h
variable {scope : Scope}
def gU (X : Cx) (scope : Scope) (tg : Expr) : TG := fun v σ H Q => AB X scope fun Y => WG Y tg v σ H Q
def iU (X : Cx) (scope : Scope) (tg iter : Expr) : TI := fun σ H R => AB X scope fun Y => WI Y tg iter σ H R
def tU (X : Cx) (scope : Scope) (ifs : List Expr) : TT := fun σ H Q => AB X scope fun Y => WTs Y ifs σ H Q
def eU (X : Cx) (scope : Scope) (e : Expr) : TE := fun σ H Q => AB X scope fun Y => WE Y e σ H Q
theorem pgU {tg : Expr} (s : Shared) (H : Hp) (C : Addr) (cl : List (Str × Addr)) (fp : List Addr) : PG (X.blk s H scope (compEnvC scope cl C X.env) fp) tg (gU X scope tg) := ⟨fun pins s' σ H' v u Q I r h => h s H C cl fp pins s' u I r⟩
theorem piU {tg iter : Expr} (s : Shared) (H : Hp) (C : Addr) (cl : List (Str × Addr)) (fp : List Addr) : PI (X.blk s H scope (compEnvC scope cl C X.env) fp) tg iter (iU X scope tg iter) := ⟨fun pins s' σ H' R I h => h s H C cl fp pins s' I⟩
theorem ptU {ifs : List Expr} (s : Shared) (H : Hp) (C : Addr) (cl : List (Str × Addr)) (fp : List Addr) : PTs (X.blk s H scope (compEnvC scope cl C X.env) fp) ifs (tU X scope ifs) := ⟨fun pins s' σ H' Q I h => h s H C cl fp pins s' I⟩
theorem peU {e : Expr} (s : Shared) (H : Hp) (C : Addr) (cl : List (Str × Addr)) (fp : List Addr) : PE (X.blk s H scope (compEnvC scope cl C X.env) fp) e (eU X scope e) := ⟨fun pins s' σ H' Q I h => h s H C cl fp pins s' I⟩
/-- the reading of a list comprehension over a walk: D the new list's address -/
def LcR (X : Cx) (scope : Scope) (elt tg : Expr) (ifs : List Expr) (vs : List Nat) (σ : L2.St) (J : It) (H1 : Hp) (Q : VK) : Prop :=
  ∃ (n : Nat) (G : Hp → Prop) (Y : Nat → Hp → V → Hp → Prop), Walk J n G Y ∧ ∀ D, H1 D = none → ∃ Pv : Nat → List V → Hp → Prop,
    (∀ H', Same H1 H' → H' D = some (.lst []) → Pv 0 [] H') ∧ (∀ i acc H, i ≤ n → Pv i acc H → H D = some (.lst acc) → G H) ∧
    (∀ i acc x H H', i < n → acc.length ≤ i → Pv i acc H → H D = some (.lst acc) → Y i H x H' → gU X scope tg x (wipe σ vs) H' fun σ2 H2 => wipe σ2 vs = wipe σ vs ∧ tU X scope ifs σ2 H2 fun b H3 =>
      if b = true then eU X scope elt σ2 H3 fun y H4 => H4 D = some (.lst acc) ∧ ∀ H5, But D H4 H5 → H5 D = some (.lst (acc ++ [y])) → Pv (i + 1) (acc ++ [y]) H5 else Pv (i + 1) acc H3 ∧ H3 D = some (.lst acc)) ∧
    n ≤ 1000000 ∧ ∀ acc H, acc.length ≤ n → Pv n acc H → H D = some (.lst acc) → Q (.ref D) H
theorem lcR {elt tg : Expr} {ifs : List Expr} {vs : List Nat} {J : It} {H1 : Hp} {Q : VK} (h : LcR X scope elt tg ifs vs σ J H1 Q) : ∀ D, H1 D = none → ∃ W : Nat → Nat → Hp → Prop, (∃ m, W 0 m (upd H1 D (.lst []))) ∧ ∀ i m H, W i m H →
      (J.stop i H ∧ Q (.ref D) H) ∨ (J.go i H ∧ ∃ Nx : Hp → Prop, (∀ H', Nx H' → ∃ m', m' < m ∧ W (i + 1) m' H') ∧ ∀ x H', J.yld i H x H' → gU X scope tg x (wipe σ vs) H' fun σ2 H2 => wipe σ2 vs = wipe σ vs ∧ tU X scope ifs σ2 H2 fun b H3 =>
        if b = true then eU X scope elt σ2 H3 fun y H4 => ∃ acc, H4 D = some (.lst acc) ∧ acc.length < sizeLine ∧ Nx (upd H4 D (.lst (acc ++ [y]))) else Nx H3) := by
  obtain ⟨n, G, Y, wk, h⟩ := h
  intro D hD
  obtain ⟨Pv, h0, hG, hs, hz, hd⟩ := h D hD
  refine ⟨fun i m H => m = n - i ∧ i ≤ n ∧ ∃ acc, acc.length ≤ i ∧ Pv i acc H ∧ H D = some (.lst acc), ⟨n, by simp, Nat.zero_le _, [], Nat.le_refl _, h0 _ (Same.new hD) upd_same, upd_same⟩, ?_⟩
  rintro i m H ⟨rfl, hi, acc, hl, p, hDl⟩
  have q := hG i acc H hi p hDl
  by_cases hlt : i < n
  · refine .inr ⟨wk.goes i H hlt q, fun H' => ∃ acc, acc.length ≤ i + 1 ∧ Pv (i + 1) acc H' ∧ H' D = some (.lst acc), fun H' p' => ⟨n - (i + 1), by omega, rfl, hlt, p'⟩, fun x H' y => ?_⟩
    have h1 := hs i acc x H H' hlt hl p hDl (wk.yields i H x H' hlt q y)
    intro s0 H0 C cl fp pins s u I r
    refine thn (h1 s0 H0 C cl fp pins s u I r) fun _ s1 ⟨σ2, H2, I2, e2, k⟩ => ⟨σ2, H2, I2, e2, ?_⟩
    intro s0 H0 C cl fp pins s I
    refine thn (k s0 H0 C cl fp pins s I) fun b s3 ⟨H3, I3, k⟩ => ⟨H3, I3, ?_⟩
    cases b with
    | false => exact ⟨acc, by omega, k.1, k.2⟩
    | true =>
      intro s0 H0 C cl fp pins s I
      refine thn (k s0 H0 C cl fp pins s I) fun _ s4 ⟨y, H4, I4, r4, k1, k2⟩ => ⟨y, H4, I4, r4, acc, k1, by have := sz_lt (n := acc.length) (by omega); exact this, acc ++ [y], by simp; omega, k2 _ But.upd upd_same, upd_same⟩
  · have e : i = n := by omega
    subst e
    exact .inl ⟨wk.stops H q, hd acc H hl p hDl⟩
variable {elt tg iter : Expr} {ifs : List Expr} {own : List (Str × Nat)} {pos : Pos}
theorem we_lc {Q : VK} {N ps : List Str} {sc : Scope} (S : FnScope N ps sc) (own : List (Str × Nat)) (h : WI X tg iter σ H fun J H1 => LcR X scope elt tg ifs (own.map (·.2)) σ J H1 Q) (ok : blkC N sc scope own = true := by decide +kernel) (eN : X.N = N := by rfl) (eS : X.env.scope = sc := by rfl) (hc : X.calm = true := by rfl) (hs : ∀ x, foldedSetIterable iter X.env x = pure x := by intro _; rfl) :
    WE X (.ListComp elt [⟨tg, iter, ifs, 0⟩] scope pos) σ H Q :=
  wE (pe_lc (own := own) hc (by rw [eN]; exact S.nd) pI (by rw [eN, eS]; exact blkOk_by ok) pgU ptU peU hs) (show tLc _ _ _ _ _ σ H Q from fun pins s I => thn (h pins s I) fun v s1 k => thn k fun itv s2 ⟨it, fp, tn, J, H', e1, I2, T, t0, hf, r⟩ => ⟨it, fp, tn, J, H', e1, I2, T, t0, hf, lcR r⟩)
/-- y = [..] -/
theorem ws_setLc {D : Ends} {y : Str} {py spos : Pos} {N ps : List Str} {sc : Scope} (S : FnScope N ps sc) (i : Nat) (own : List (Str × Nat)) (h : WI X tg iter σ H fun J H1 => LcR X scope elt tg ifs (own.map (·.2)) σ J H1 fun v H' => D.nx (σ.set i (some v)) H') (ok : blkC N sc scope own = true := by decide +kernel) (eN : X.N = N := by rfl) (eS : X.env.scope = sc := by rfl)
    (hy : X.N[i]? = some y := by rfl) (hyl : X.env.scope.names.lookup y = some .local := by rfl) (hl : (py.line == pos.line) = true := by rfl) (ha : (scope.names.any fun (n, k) => n == y && (k == .local || k == .cell)) = false := by decide +kernel)
    (hk : X.env.scope.kind = .function := by rfl) (hc : X.calm = true := by rfl) (hs : ∀ x, foldedSetIterable iter X.env x = pure x := by intro _; rfl) : WS X (.Assign [.Name y py] (.ListComp elt [⟨tg, iter, ifs, 0⟩] scope pos) spos) D σ H :=
  wS (ps_setLc (i := i) (own := own) hc (by rw [eN]; exact S.nd) hy hyl (sw_true hk hyl hl ha) pI (by rw [eN, eS]; exact blkOk_by ok) pgU ptU peU hs)
    (show tLc (WI X tg iter) (gU X scope tg) (tU X scope ifs) (eU X scope elt) (own.map (·.2)) σ H (fun x H1 => gName i x σ H1 D.nx) from fun pins s I => thn (h pins s I) fun v s1 k => thn k fun itv s2 ⟨it, fp, tn, J, H', e1, I2, T, t0, hf, r⟩ => ⟨it, fp, tn, J, H', e1, I2, T, t0, hf, lcR r⟩)
end

/-! ### built-ins -/
section
variable {X : Cx} {e e2 : Expr} {σ : L2.St} {H : Hp} {pos p p2 : Pos} {Q : VK}
theorem we_isi (T : String) {nm : Str} (hm : X.mg "isinstance" = none) (ht : X.mg nm = none) (hv : bootBuiltins nm = some (.type T)) (h : WE X e σ H fun v H1 => ∃ t b, TyX X.K H1 v (.type t) ∧ kitB t T = some b ∧ Q (.bl b) H1) (hg : Gl X "isinstance" := by rfl) (hg2 : Gl X nm := by rfl)
    (hn : nm ≠ "__name__" := by decide) (hd : (nm == ("__debug__" : Str)) = false := by decide)
    (he : starEach [e, .Name nm p2] X.env = (false, eval e X.env) :: starEach [.Name nm p2] X.env := by rfl) (hpl : (backTo pos (starEach [.Name nm p2] X.env)).any (·.1) = false := by rfl) (he2 : starEach [.Name nm p2] X.env = (false, eval (.Name nm p2) X.env) :: starEach [] X.env := by rfl) :
    WE X (.Call (.Name "isinstance" p) [e, .Name nm p2] [] pos) σ H Q :=
  we_blt call_isi hm (by decide +kernel) (wa_cons (WE.mono h fun v H1 ⟨t, b, ty, k, q⟩ => wa_cons (we_bltn (v := .ty T) ht hv rfl (wa_nil ⟨v, .ty T, .type t, .type T, b, rfl, ClsV.ty T, ty, kit_ty k, q⟩) hg2 hn hd) he2) he) hg he hpl
end
end Cab
/-! text CabD -/
set_option Elab.async false
set_option linter.all false
set_option maxRecDepth 100000
set_option maxHeartbeats 2000000
/-! own __getitem__, own __len__, with over an own class, a class held by a name called -/
namespace Cab
open PySem PySem.Spec PyProof.Rows L2 He
section
variable {X : Cx} {d : DefP} {k j : Nat} {ps : List Str} {sp : Sp} {dvs : List V} {x m : Str} {a b e o : Expr} {es : List Expr} {p pos apos : Pos} {σ : L2.St} {H : Hp} {Q : VK} {C : Addr}
/-- a promise run one call deeper (a special method's) -/
theorem run_in1 {pins : List (Addr × Obj)} {s : Shared} {us : List Value} {vs : List V} (F : FnP X.prog X.w X.K X.mg X.base d k ps sp []) (hr : Room (k + 1) X.A) (I : Inv X pins σ H s) (r : Vals vs us) (h : sp vs H Q E0) :
    wpAny (model X.prog X.w) X.A.in1 (call (.ref (d.path X.K)) us) (EP X pins σ Q) X.xe s := by
  obtain ⟨fd, ds, F, D, hb, hd⟩ := F.ex
  cases hd
  have hl : (us ++ []).length = ps.length := by rw [List.append_nil, ← r.length, F.len _ _ _ _ h]
  refine wpAny_call (codeAny_mono (F.run X.A.in1 X.stack s H ⟨us, []⟩ (us ++ []) vs Q E0 hr.in1 I.env0.in1 (hb s us I.kIn hl) (by rw [List.append_nil]; exact r) h) fun q s' hq => ?_)
  cases q with
  | error er => exact False.elim hq
  | ok fl =>
    cases fl with
    | ret u => exact I.after hq
    | next => exact False.elim hq
    | brk => exact False.elim hq
    | cont => exact False.elim hq
theorem inst_at {pins : List (Addr × Obj)} {s : Shared} {q dx : Addr} {fs : List (Str × V)} (I : Inv X pins σ H s) (e : H q = some (.ins C dx fs)) : ∃ ox od, PySem.W.InstAt s.heap q ox C od := by
  obtain ⟨mA, O, _⟩ := ins_get I.hok e
  obtain ⟨od, J, _⟩ := O.look
  exact ⟨_, _, J⟩
/-- o[i], by the class's own __getitem__ -/
theorem we_getitem (F : FnP X.prog X.w X.K X.mg X.base d k ps sp []) (hm : Meth X.K C "__getitem__" (d.path X.K)) (gi : PySem.W.fnIn X.K (d.path X.K) = true) (hr : Room j X.A)
    (h : WE X a σ H fun x H1 => ∃ q dx fs, x = .ref q ∧ WE X b σ H1 fun y H2 => H2 q = some (.ins C dx fs) ∧ sp [.ref q, y] H2 Q E0) (hk : k + 1 ≤ j := by decide)
    (hsl : ∀ q u, subscripted b true (.ref q) u = runValue (.builtin "lifetime.subscript" ⟨[.ref q, u], []⟩) := by intros; with_unfolding_all rfl) : WE X (.Subscript a b pos) σ H Q := by
  intro pins s I
  refine Subscript_ (thn (h pins s I) fun v s1 ⟨x, H1, I1, r1, q, dx, fs, ex, h1⟩ => thn (h1 pins s1 I1) fun u s2 ⟨y, H2, I2, r2, hq, h2⟩ => ?_)
  subst ex
  cases r1
  obtain ⟨ox, od, J⟩ := inst_at I2 hq
  obtain ⟨mm, fr⟩ := I2.fr
  exact PySem.W.sub_K fr I2.ok.mod.kin J hm.at_ gi hm.fn (run_in1 F (hr.mono hk) I2 (.cons (show L2.RelV (.ref q) (Value.ref q) from rfl) (.cons r2 .nil)) h2) (hsl _ _)
/-- len(o), by the class's own __len__ -/
theorem we_lenO (F : FnP X.prog X.w X.K X.mg X.base d k ps sp []) (hm : Meth X.K C "__len__" (d.path X.K)) (hr : Room j X.A) (hl : X.mg "len" = none)
    (h : WE X a σ H fun x H1 => ∃ q dx fs, x = .ref q ∧ H1 q = some (.ins C dx fs) ∧ sp [.ref q] H1 (fun v H2 => ∃ n : Int, v = .int n ∧ 0 ≤ n ∧ n < 2 ^ 63 ∧ Q (.int n) H2) E0) (hk : k + 1 ≤ j := by decide) (hg : Gl X "len" := by rfl)
    (he : starEach [a] X.env = (false, eval a X.env) :: starEach [] X.env := by rfl) (hpl : (backTo pos (starEach [] X.env)).any (·.1) = false := by rfl) : WE X (.Call (.Name "len" p) [a] [] pos) σ H Q := by
  refine we_blt (r := fun vs H Q => ∃ q dx fs, vs = [.ref q] ∧ H q = some (.ins C dx fs) ∧ sp [.ref q] H (fun v H2 => ∃ n : Int, v = .int n ∧ 0 ≤ n ∧ n < 2 ^ 63 ∧ Q (.int n) H2) E0) (fun pins s σ H vs us Q I r hh => ?_) hl boot_len (wa_cons (WE.mono h fun x H1 ⟨q, dx, fs, ex, hq, hs⟩ => wa_nil ⟨q, dx, fs, by rw [ex], hq, hs⟩) he) hg he hpl
  obtain ⟨q, dx, fs, ev, hq, hs⟩ := hh
  subst ev
  cases r with
  | cons r1 r2 =>
    cases r2
    cases r1
    obtain ⟨ox, od, J⟩ := inst_at I hq
    obtain ⟨mm, fr⟩ := I.fr
    refine PySem.W.len_K fr I.ok.mod.kin J hm.at_ hm.fn (thn (run_in1 F (hr.mono hk) I (.cons (show L2.RelV (.ref q) (Value.ref q) from rfl) .nil) hs) fun u s1 ⟨v, H1, I1, rv, n, en, h0, h1, q1⟩ => ?_)
    subst en
    obtain ⟨t, rfl⟩ := rv
    exact ⟨⟨h0, h1⟩, .int n, H1, I1.tok _, ⟨_, rfl⟩, q1⟩
/-- with C(..)-like: body; nothing is raised -/
theorem ws_with {de dx' : DefP} {ke kx : Nat} {pse psx : List Str} {spe spx : Sp} {ctx : Expr} {body : List Stmt} {D : Ends} (Fe : FnP X.prog X.w X.K X.mg X.base de ke pse spe []) (Fx : FnP X.prog X.w X.K X.mg X.base dx' kx psx spx [])
    (me : Meth X.K C "__enter__" (de.path X.K)) (mx : Meth X.K C "__exit__" (dx'.path X.K)) (hr : Room j X.A) (hxe : X.xe = fun _ _ => False)
    (h : WE X ctx σ H fun x H1 => ∃ q dx fs, x = .ref q ∧ H1 q = some (.ins C dx fs) ∧ spe [.ref q] H1 (fun _ H2 => WB X body { nx := fun σ' H3 => spx [.ref q, .non, .non, .non] H3 (fun _ H4 => D.nx σ' H4) E0, rt := fun _ _ => False } σ H2) E0)
    (hk : ke ≤ j := by decide) (hk2 : kx ≤ j := by decide) : WS X (.With [⟨ctx, none⟩] body pos) D σ H := by
  intro pins s I
  have ex : ∀ e s', X.xe e s' → False := fun e s' z => by rw [hxe] at z; exact z
  obtain ⟨fde, dse, Fe, De, be, rde⟩ := Fe.ex
  obtain ⟨fdx, dsx, Fx, Dx, bx, rdx⟩ := Fx.ex
  cases rde
  cases rdx
  refine PySem.W.kw_exec0 (thn (h pins s I) fun v s1 ⟨x, H1, I1, r1, q, dx, fs, e1, hq, h1⟩ => ?_)
  subst e1
  cases r1
  obtain ⟨ox, od, J⟩ := inst_at I1 hq
  refine PySem.W.kw_core0 I1.kIn J me.at_ me.fn mx.at_ mx.fn (thn (run_fn Fe (hr.mono hk) be .nil pass0 I1 (us := [.ref q]) (vs := [.ref q]) (.cons rfl .nil) h1) fun _ s2 ⟨_, H2, I2, _, h2⟩ => ?_)
  refine wpAny_mono (h2 pins s2 I2) (fun f s3 h3 => ?_) fun e s' z => ex e s' z
  cases f with
  | next =>
    obtain ⟨σ', H3, I3, h3⟩ := h3
    exact thn (run_fn Fx (hr.mono hk2) bx .nil pass0 I3 (us := [.ref q, .none, .none, .none]) (vs := [.ref q, .non, .non, .non]) (.cons rfl (.cons rfl (.cons rfl (.cons rfl .nil)))) h3) fun _ s4 ⟨_, H4, I4, _, h4⟩ => ⟨σ', H4, I4, h4⟩
  | brk => obtain ⟨_, _, _, z⟩ := h3; exact z.elim
  | cont => obtain ⟨_, _, _, z⟩ := h3; exact z.elim
  | ret u => obtain ⟨_, _, _, _, _, z⟩ := h3; exact z.elim
/-- c(..), the name c holds the class at C -/
theorem we_makeL (i : Nat) (F : FnP X.prog X.w X.K X.mg X.base d k ps sp dvs) (M : Mk X.K C (d.path X.K)) (hr : Room j X.A) (hσ : σ[i]? = some (some (.ref C)))
    (h : WA X (e :: es) σ H fun vs H1 => ∀ y dx H2, H1 y = none → H1 dx = none → dx ≠ y → Same H1 H2 → H2 y = some (.ins C dx []) → sp (.ref y :: (vs ++ dvs)) H2 (fun v H2 => v = .non ∧ Q (.ref y) H2) E0) (hk : k + 1 ≤ j := by decide) (hN : X.N[i]? = some x := by rfl)
    (hv : Vis X.env.scope x := by first | exact Or.inl rfl | exact Or.inr (Or.inl rfl) | exact Or.inr (Or.inr rfl)) (hdb : (x == ("__debug__" : Str)) = false := by decide) (hcd : (x == ("__classdict__" : Str)) = false := by decide)
    (he : starEach (e :: es) X.env = (false, eval e X.env) :: starEach es X.env := by rfl) (hpl : (backTo pos (starEach es X.env)).any (·.1) = false := by rfl) : WE X (.Call (.Name x p) (e :: es) [] pos) σ H Q := by
  intro pins s I
  obtain ⟨fd, ds, F, D, b, rd⟩ := F.ex
  refine wpAny_Call_Name_kw (thn ((pe_var (pos := p) hN hv hdb hcd).run pins s σ H (fun v H1 => v = .ref C ∧ H1 = H) I ⟨.ref C, hσ, rfl, rfl⟩) fun u s1 ⟨v, H1, I1, r1, q1⟩ => ?_)
  obtain ⟨rfl, rfl⟩ := q1
  cases r1
  refine PySem.W.callWith_K (h₀ := X.base) I.ok.mod.kin M.kp (thn (h pos pins s1 I1) fun us s2 ⟨vs, H2, I2, r, q⟩ => ⟨I2.kIn, ?_⟩) he hpl
  refine run_make M F (hr.mono hk) b rd pass0 I2 r fun y dx n1 n2 n3 => q y dx _ n1 n2 n3 (fun b o q => ?_) upd_same
  rw [upd_ne (ne_of_none q n1), upd_ne (ne_of_none q n2)]
  exact q
end
end Cab
/-! text CabE -/
set_option Elab.async false
set_option linter.all false
set_option maxRecDepth 100000
set_option maxHeartbeats 2000000
/-! further steps: stores, lists, dicts with tuple keys, texts -/
namespace Cab
open PySem PySem.Spec PyProof.Rows L2 He
local macro_rules | `(tactic| walk_at "hp") => `(tactic| first | assumption | (refine Same.at (by assumption) ?_; walk_at "hp"))
theorem But.at {p a : Addr} {H H' : Hp} {o : HO} (b : But p H H') (h : H a = some o) (n : a ≠ p) : H' a = some o := b a o h n
theorem But.seqL {K : PySem.W.Frag} {p : Addr} {H H' : Hp} {a : Addr} {xs : List V} (e : But p H H') (h : SqL K H a xs) (n : a ≠ p) : SqL K H' a xs := by
  rcases h with (h | ⟨o, h⟩) | h
  · exact .inl (.inl (e _ _ h n))
  · exact .inl (.inr ⟨o, e _ _ h n⟩)
  · exact .inr h
section
variable {X : Cx} {a b c e o value : Expr} {es : List Expr} {σ : L2.St} {H : Hp} {D : Ends} {Q : VK} {pos pos' p p2 apos cpos : Pos} {f : Str}
/-- e.f of an instance -/
theorem we_fld' {C : Addr} (cl : Cls X.K C) (na : NoAttr X.K C f) (h : WE X e σ H fun x H1 => ∃ q dx fs v, x = .ref q ∧ H1 q = some (.ins C dx fs) ∧ fs.lookup f = some v ∧ Q v H1) (hb : attributeBase e f X.env (eval e X.env) = eval e X.env := by rfl) : WE X (.Attribute e f pos) σ H Q :=
  we_fld (WE.mono h fun x H1 ⟨q, dx, fs, v, ex, hq, hl, q1⟩ => ⟨q, C, dx, fs, v, ex, hq, cl, na, hl, q1⟩) hb
theorem ws_fld {C : Addr} (cl : Cls X.K C) (na : NoAttr X.K C f) (h : WE X value σ H fun y H1 => WE X o σ H1 fun x H2 => ∃ q dx fs, x = .ref q ∧ H2 q = some (.ins C dx fs) ∧ fs.length < 1000 ∧ ∀ H3, But q H2 H3 → H3 q = some (.ins C dx (putF f y fs)) → D.nx σ H3)
    (hs : swapsWith value (some (.Attribute o f pos')) pos.line X.env = pure false := by rfl) : WS X (.Assign [.Attribute o f pos'] value pos) D σ H :=
  wS (ps_fld pE pE hs) (WE.mono h fun y H1 k => WE.mono k fun x H2 ⟨q, dx, fs, ex, hq, hl, k⟩ => ⟨q, C, dx, fs, ex, hq, cl, na, hl, k _ But.upd upd_same⟩)
/-- l.append(e), a statement -/
theorem ws_append (h : WE X o σ H fun x H1 => ∃ l, x = .ref l ∧ (∃ ys, H1 l = some (.lst ys)) ∧ WE X e σ H1 fun y H2 => ∃ xs, H2 l = some (.lst xs) ∧ xs.length < sizeLine ∧ ∀ H3, But l H2 H3 → H3 l = some (.lst (xs ++ [y])) → D.nx σ H3)
    (hs : swapsWith (.Call (.Attribute o "append" apos) [e] [] cpos) none pos.line X.env = pure false := by rfl) (hbase : attributeBase o "append" X.env (eval o X.env) = eval o X.env := by rfl)
    (hfew : ((backTo cpos (starEach [e] X.env)).all (fun x => !x.1) && (backToKw cpos (keywordEach [] X.env)).all (fun x => x.1.isSome) && decide (([e] : List Expr).length + ([] : List Keyword).length + (if ([] : List Keyword).isEmpty then 0 else 1) < 30)) = true := by rfl)
    (hline : (apos.endLine == cpos.line) = true := by rfl) (hst : starEach [e] X.env = (false, eval e X.env) :: starEach [] X.env := by rfl) (hpl : (backTo cpos (starEach [] X.env)).any (·.1) = false := by rfl) :
    WS X (.Expr (.Call (.Attribute o "append" apos) [e] [] cpos) pos) D σ H :=
  ws_expr (wE (pe_bm PySem.F.plainAttrs_list PySem.F.slot_list_append PySem.F.type_list_append mt_append pE (pa_cons pE pa_nil hst) hbase hfew hline hst hpl)
    (show WE X o σ H _ from WE.mono h fun x H1 ⟨l, ex, ⟨ys, hy⟩, k⟩ => by
      subst ex
      refine ⟨.inl ⟨rfl, _, SqL.of hy⟩, WE.mono k fun y H2 ⟨xs, hx, hz, k⟩ => ⟨l, xs, y, rfl, rfl, hx, hz, ?_⟩⟩
      exact k _ But.upd upd_same)) hs
/-- a[:b] -/
theorem we_cut {r : V → Option Int → Option Int → Hp → VK → Prop} (hr : SlR X r) (h : WE X a σ H fun x H1 => WE X b σ H1 fun y H2 => ∃ i, y = .int i ∧ r x none (some i) H2 Q) : WE X (.Subscript a (.Slice none (some b) none p2) pos) σ H Q :=
  wE (pe_slice hr pE po_none (po_some pE)) (WE.mono h fun x H1 k => k)
theorem sIx_hi {n : Nat} {i : Int} (h0 : 0 ≤ i) (h1 : i ≤ n) : HT.sIx n n (some i) = i.toNat := by
  simp only [HT.sIx]
  first
    | omega
    | (split <;> omega)
theorem cutV_to {xs : List V} {i : Int} (h0 : 0 ≤ i) (h1 : i ≤ xs.length) : cutV xs none (some i) = xs.take i.toNat := by
  unfold cutV
  rw [sIx_hi h0 h1]
  have e : HT.sIx xs.length 0 none = 0 := rfl
  rw [e]
  simp
/-- d[k], tuple keys -/
theorem we_dget {j : Nat} (hr : Room j X.A) (h : WE X o σ H fun x H1 => WE X e σ H1 fun y H2 => ∃ d v, x = .ref d ∧ DGet H2 d y (some v) ∧ Q v H2) (hs : NoSl e := by exact fun _ _ => rfl) : WE X (.Subscript o e pos) σ H Q := wE (pe_dget (hu_of hr) pE pE hs) h
theorem we_din {j : Nat} (hr : Room j X.A) (h : WE X e σ H fun y H1 => WE X o σ H1 fun x H2 => ∃ d v, x = .ref d ∧ DGet H2 d y v ∧ Q (.bl v.isSome) H2) (hm : behindInMarks .In o = false := by rfl) : WE X (.Compare e [.In] [o] pos) σ H Q := wE (pe_cmp (pc_din (hu_of hr) pE pE) hm) h
theorem wt_din {Q : Bool → Hp → Prop} {j : Nat} (hr : Room j X.A) (h : WE X e σ H fun y H1 => WE X o σ H1 fun x H2 => ∃ d v, x = .ref d ∧ DGet H2 d y v ∧ Q v.isSome H2) (hm : behindInMarks .In o = false := by rfl) : WT X (.Compare e [.In] [o] pos) σ H Q :=
  wT (pt_cmp (pc_din (hu_of hr) pE pE) hm) (WE.mono h fun y H1 k => WE.mono k fun x H2 ⟨d, v, e, g, q⟩ => ⟨d, v, e, g, _, rfl, q⟩)
theorem wt_dnotin {Q : Bool → Hp → Prop} {j : Nat} (hr : Room j X.A) (h : WE X e σ H fun y H1 => WE X o σ H1 fun x H2 => ∃ d v, x = .ref d ∧ DGet H2 d y v ∧ Q (!v.isSome) H2) (hm : behindInMarks .NotIn o = false := by rfl) : WT X (.Compare e [.NotIn] [o] pos) σ H Q :=
  wT (pt_cmp (pc_dnotin (hu_of hr) pE pE) hm) (WE.mono h fun y H1 k => WE.mono k fun x H2 ⟨d, v, e, g, q⟩ => ⟨d, v, e, g, _, rfl, q⟩)
theorem ws_dput {j : Nat} (hr : Room j X.A) (h : WE X value σ H fun v H1 => WE X o σ H1 fun x H2 => WE X e σ H2 fun y H3 => ∃ d kvs k q, x = .ref d ∧ y = .ref q ∧ H3 d = some (.dT kvs) ∧ H3 q = some (.tup (k.map kV)) ∧ kvs.length < sizeLine ∧
      ∀ H4, But d H3 H4 → H4 d = some (.dT (putK kvs k v)) → D.nx σ H4) (hs : swapsWith value (some (.Subscript o e pos')) pos.line X.env = pure false := by rfl) : WS X (.Assign [.Subscript o e pos'] value pos) D σ H :=
  wS (ps_dput (hu_of hr) pE pE pE hs) (WE.mono h fun v H1 k => WE.mono k fun x H2 k => WE.mono k fun y H3 ⟨d, kvs, kk, q, ex, ey, hd, hq, hz, k⟩ => ⟨d, _, ex, by rw [ey]; exact DPut.t hd hq hz, k _ But.upd upd_same⟩)
/-- for over the keys of a dict with tuple keys, which stays as it is -/
theorem ws_forKeys {tg iter : Expr} {body : List Stmt} (hp : PassesOwn (model X.prog X.w) X.A X.env X.xe) (hc : X.calm = true) (hs : ∀ y, foldedSetIterable iter X.env y = pure y) {d : Addr} {kvs : List (List Key × V)} (hd : H d = some (.dT kvs))
    (h : ∀ od Hf, But d H Hf → Hf d = some (.frz od (.dT kvs)) → WE X iter σ Hf fun x H1 => x = .ref d ∧ H1 d = some (.frz od (.dT kvs)) ∧ ∃ Pv : Nat → L2.St → Hp → Prop, Pv 0 σ H1 ∧
      (∀ i k v q σ H, kvs[i]? = some (k, v) → Pv i σ H → H d = some (.frz od (.dT kvs)) → H q = some (.tup (k.map kV)) → WG X tg (.ref q) σ H fun σ2 H2 =>
        WB X body { nx := fun σ' H' => Pv (i + 1) σ' H' ∧ H' d = some (.frz od (.dT kvs)), rt := fun _ _ => False, ct := fun σ' H' => Pv (i + 1) σ' H' ∧ H' d = some (.frz od (.dT kvs)) } σ2 H2) ∧
      ∀ σ H', Pv kvs.length σ H' → H' d = some (.frz od (.dT kvs)) → ∀ H'', But d H' H'' → H'' d = some (.dT kvs) → D.nx σ H'') : WS X (.For tg iter body [] pos) D σ H := by
  refine wS (ps_lock pS) ⟨d, .dT kvs, hd, trivial, fun od => ?_⟩
  refine ws_forW hp hc hs (wi_keysT (WE.mono (h od _ But.upd upd_same) fun x H1 ⟨ex, e1, Pv, h0, ht, hdn⟩ => ⟨d, od, kvs, ex, e1, _, _, _, walk_keysT, fun i σ H => Pv i σ H ∧ H d = some (.frz od (.dT kvs)), ⟨h0, e1⟩, fun _ _ _ _ p => p.2, ?_, ?_⟩))
  · rintro i x σ1 H1 H2 hi ⟨p, pd⟩ ⟨rfl, k, v, q, hk, rfl, hq⟩
    intro pins s u I r
    refine thn (ht i k v q σ1 _ hk p pd hq pins s u I r) fun _ s2 ⟨σ2, H2, I2, hb⟩ => ⟨σ2, H2, I2, ?_⟩
    exact WB.mono hb (fun _ _ z => z) (fun _ _ z => z.elim) (fun _ _ z => z.elim) (fun _ _ z => z)
  · rintro σ1 H1 ⟨p, pd⟩
    exact ⟨pd, hdn σ1 H1 p pd _ But.upd upd_same⟩
/-! texts -/
theorem we_join (h : WE X o σ H fun x H1 => ∃ z, x = .str z ∧ WE X e σ H1 fun y H2 => ∃ q ys, y = .ref q ∧ SqL X.K H2 q (ys.map V.str) ∧ (ys.map (·.length)).sum + ys.length * z.length ≤ 16777216 ∧ Q (.str (Txt.join z ys)) H2)
    (hst : starEach [e] X.env = (false, eval e X.env) :: starEach [] X.env := by rfl) (hbase : attributeBase o "join" X.env (eval o X.env) = eval o X.env := by rfl)
    (hfew : ((backTo cpos (starEach [e] X.env)).all (fun x => !x.1) && (backToKw cpos (keywordEach [] X.env)).all (fun x => x.1.isSome) && decide (([e] : List Expr).length + ([] : List Keyword).length + (if ([] : List Keyword).isEmpty then 0 else 1) < 30)) = true := by rfl)
    (hline : (apos.endLine == cpos.line) = true := by rfl) (hpl : (backTo cpos (starEach [] X.env)).any (·.1) = false := by rfl) : WE X (.Call (.Attribute o "join" apos) [e] [] cpos) σ H Q :=
  wE (pe_bm PySem.F.plainAttrs_str PySem.F.slot_str_join PySem.F.type_str_join mt_join pE (pa_cons pE pa_nil hst) hbase hfew hline hst hpl)
    (show WE X o σ H _ from WE.mono h fun x H1 ⟨z, ex, k⟩ => by
      subst ex
      exact ⟨rfl, WE.mono k fun y H2 ⟨q, ys, ey, hq, hz, k⟩ => by
        subst ey
        exact ⟨z, q, ys, rfl, rfl, .inl hq, hz, k⟩⟩)
end
end Cab
/-! text CabF -/
set_option Elab.async false
set_option linter.all false
set_option maxRecDepth 100000
set_option maxHeartbeats 2000000
/-! classmethods called; a tuple turned round -/
namespace Cab
open PySem PySem.Spec PyProof.Rows L2 He
section
variable {X : Cx} {d : DefP} {k j : Nat} {ps : List Str} {sp : Sp} {dvs : List V} {m : Str} {e o : Expr} {es : List Expr} {p pos apos : Pos} {σ : L2.St} {H : Hp} {Q : VK} {C : Addr}
/-- C.m(..), a classmethod of the class that the module's name x stands for -/
theorem we_cmeth {x : Str} {q : Addr} {mc : Value} (F : FnP X.prog X.w X.K X.mg X.base d k ps sp dvs) (hm : X.mg x = some (.ref C)) (r : ClX.CRead X.K C mc) (c : ClX.CMet X.K C mc m q (d.path X.K)) (hr : Room j X.A) (h : WA X (e :: es) σ H fun vs H2 => sp (.ref C :: (vs ++ dvs)) H2 Q E0) (hk : k ≤ j := by decide) (hg : Gl X x := by rfl)
    {pl : Sem Bool} (hst : starEach (e :: es) X.env = (false, eval e X.env) :: starEach es X.env := by rfl) (hpl : (backTo pos (starEach es X.env)).any (·.1) = false := by rfl)
    (ht : eval (.Call (.Attribute (.Name x p) m apos) (e :: es) [] pos) X.env = (do
      let ov ← eval (.Name x p) X.env
      standAt apos.atName
      let (f, first) ← holding [ov] (getMethod ov m pl)
      callWith pos f first (backTo pos (starEach (e :: es) X.env)) (backToKw pos (keywordEach [] X.env))) := by rfl) (hd : (x == ("__debug__" : Str)) = false := by decide) : WE X (.Call (.Attribute (.Name x p) m apos) (e :: es) [] pos) σ H Q := by
  obtain ⟨fd, ds, F, D, b, rd⟩ := F.ex
  refine wE (ClX.pe_cmeth pE r c (F.raw b rd) (hr.mono hk) pass0 pA hst hpl ht) (we_glob (v := .ref C) hm rfl ⟨rfl, ?_⟩ hg hd)
  exact h
end
end Cab
/-! text CabG -/
set_option Elab.async false
set_option linter.all false
set_option maxRecDepth 100000
set_option maxHeartbeats 2000000
/-! list comprehensions whose element is a function of the turn -/
namespace Cab
open PySem PySem.Spec PyProof.Rows L2 He
theorem range_map_succ {α : Type} (g : Nat → α) (i : Nat) : (List.range i).map g ++ [g i] = (List.range (i + 1)).map g := by
  rw [List.range_succ, List.map_append]
  rfl
theorem range_fil_succ {α : Type} (b : Nat → Bool) (g : Nat → α) (i : Nat) : ((List.range (i + 1)).filter b).map g = if b i = true then ((List.range i).filter b).map g ++ [g i] else ((List.range i).filter b).map g := by
  rw [List.range_succ, List.filter_append, List.map_append]
  cases h : b i with
  | true => simp [h]
  | false => simp [h]
/-- a list by its places -/
theorem map_range_get {α β : Type} (f : α → β) (d : α) (l : List α) : (List.range l.length).map (fun i => f (l.getD i d)) = l.map f := by
  apply List.ext_getElem
  · simp
  · intro i h1 h2
    simp at h1 h2
    simp [h1]
theorem fil_range_get {α β : Type} (b : α → Bool) (f : α → β) (d : α) : ∀ (l : List α), ((List.range l.length).filter fun i => b (l.getD i d)).map (fun i => f (l.getD i d)) = (l.filter b).map f := by
  intro l
  have h : ∀ n ≤ l.length, ((List.range n).filter fun i => b (l.getD i d)).map (fun i => f (l.getD i d)) = ((l.take n).filter b).map f := by
    intro n
    induction n with
    | zero => intro _; rfl
    | succ n ih =>
      intro hn
      have hlt : n < l.length := by omega
      rw [range_fil_succ (fun i => b (l.getD i d)), ih (by omega), List.take_succ_eq_append_getElem hlt, List.filter_append, List.map_append]
      have e : l.getD n d = l[n] := by simp [hlt]
      rw [e]
      cases hb : b l[n] with
      | true => simp [hb]
      | false => simp [hb]
  have := h l.length (Nat.le_refl _)
  rw [List.take_length] at this
  exact this
section
variable {X : Cx} {scope : Scope} {elt tg : Expr} {vs : List Nat} {σ : L2.St} {J : It} {H1 : Hp} {Q : VK} {n : Nat} {G : Hp → Prop} {Y : Nat → Hp → V → Hp → Prop}
/-- no test; the element's value at turn i is g i, all that stood stands -/
theorem lcMap (g : Nat → V) (wk : Walk J n G Y) (hY : ∀ i H x H', Y i H x H' → H' = H) (hz : n ≤ 1000000) (hG : ∀ H', Same H1 H' → G H')
    (he : ∀ i x H, i < n → Same H1 H → Y i H x H → AB X scope fun Z => WG Z tg x (wipe σ vs) H fun σ2 H2 => wipe σ2 vs = wipe σ vs ∧ AB X scope fun Z => WE Z elt σ2 H2 fun y H4 => y = g i ∧ Same H H4)
    (done : ∀ D H', H1 D = none → Same H1 H' → H' D = some (.lst ((List.range n).map g)) → Q (.ref D) H') : LcR X scope elt tg [] vs σ J H1 Q := by
  refine ⟨n, G, Y, wk, fun D hD => ⟨fun i acc H' => acc = (List.range i).map g ∧ Same H1 H', fun H' s' _ => ⟨rfl, s'⟩, fun i acc H' _ p _ => hG H' p.2, ?_, hz, ?_⟩⟩
  · rintro i acc x H H' hi hacc ⟨ea, s1⟩ hDl y
    have e := hY _ _ _ _ y
    subst e
    intro s0 H0 C cl fp pins s u I r
    refine thn (he i x H' hi s1 y s0 H0 C cl fp pins s u I r) fun _ s2 ⟨σ2, H2, I2, hw, k⟩ => ⟨σ2, H2, I2, hw, ?_⟩
    intro s0 H0 C cl fp
    refine wts_nil (iteT fun s0 H0 C cl fp => WE.mono (k s0 H0 C cl fp) fun y H4 ⟨ey, s4⟩ => ⟨s4 _ _ hDl, fun H5 b5 e5 => ⟨by rw [ey, ea, range_map_succ], But.of_new (Same.trans s1 s4) hD b5⟩⟩)
  · rintro acc H' hl ⟨ea, s1⟩ hDl
    exact done D H' hD s1 (by rw [hDl, ea])
/-- one test, whose answer at turn i is b i -/
theorem lcFil {c : Expr} (b : Nat → Bool) (g : Nat → V) (wk : Walk J n G Y) (hY : ∀ i H x H', Y i H x H' → H' = H) (hz : n ≤ 1000000) (hG : ∀ H', Same H1 H' → G H')
    (he : ∀ i x H, i < n → Same H1 H → Y i H x H → AB X scope fun Z => WG Z tg x (wipe σ vs) H fun σ2 H2 => wipe σ2 vs = wipe σ vs ∧ AB X scope fun Z => WT Z c σ2 H2 fun k H3 => k = b i ∧ Same H H3 ∧ (k = true → AB X scope fun Z => WE Z elt σ2 H3 fun y H4 => y = g i ∧ Same H3 H4))
    (done : ∀ D H', H1 D = none → Same H1 H' → H' D = some (.lst (((List.range n).filter b).map g)) → Q (.ref D) H') : LcR X scope elt tg [c] vs σ J H1 Q := by
  refine ⟨n, G, Y, wk, fun D hD => ⟨fun i acc H' => acc = ((List.range i).filter b).map g ∧ Same H1 H', fun H' s' _ => ⟨rfl, s'⟩, fun i acc H' _ p _ => hG H' p.2, ?_, hz, ?_⟩⟩
  · rintro i acc x H H' hi hacc ⟨ea, s1⟩ hDl y
    have e := hY _ _ _ _ y
    subst e
    intro s0 H0 C cl fp pins s u I r
    refine thn (he i x H' hi s1 y s0 H0 C cl fp pins s u I r) fun _ s2 ⟨σ2, H2, I2, hw, k⟩ => ⟨σ2, H2, I2, hw, ?_⟩
    intro s0 H0 C cl fp
    refine wts_one (WT.mono (k s0 H0 C cl fp) fun q H3 ⟨eq, s3, k⟩ => ?_)
    cases q with
    | true =>
      refine iteT fun s0 H0 C cl fp => WE.mono (k rfl s0 H0 C cl fp) fun y H4 ⟨ey, s4⟩ => ⟨s4 _ _ (s3 _ _ hDl), fun H5 b5 e5 => ⟨?_, But.of_new (Same.trans s1 (Same.trans s3 s4)) hD b5⟩⟩
      rw [ey, ea, range_fil_succ, if_pos eq.symm]
    | false =>
      refine iteF ⟨⟨?_, Same.trans s1 s3⟩, s3 _ _ hDl⟩
      rw [ea, range_fil_succ, ← eq, if_neg Bool.false_ne_true]
  · rintro acc H' hl ⟨ea, s1⟩ hDl
    exact done D H' hD s1 (by rw [hDl, ea])
end
end Cab
/-! text CabQ1 -/
set_option Elab.async false
set_option linter.all false
set_option maxRecDepth 100000
set_option maxHeartbeats 2000000
/-! dict comprehensions with tuple keys (after the library's rule for plain keys) -/
namespace Cab
open PySem PySem.Spec PyProof.Rows L2 He
theorem d_dictSetT {X : Cx} {pins : List (Addr × Obj)} {σ : L2.St} {H : Hp} {s : Shared} {E : Value → Shared → Prop} {D b : Addr} {kvs : List (List Key × V)} {k : List Key} {v : V} {u r : Value} {Q : Unit → Shared → Prop} (hu : X.A.units + 1 < cLine) (I : Inv X pins σ H s) (hD : H D = some (.dT kvs)) (hb : H b = some (.tup (k.map kV))) (hz : kvs.length < sizeLine)
    (ry : L2.RelV (.ref b) u) (rv : L2.RelV v r) (h : ∀ s', Inv X pins σ (upd H D (.dT (putK kvs k v))) s' → Q () s') : wpAny (model X.prog X.w) X.A (dictSet D u r) Q E s := by
  cases (show u = Value.ref b from ry)
  obtain ⟨z, hd, xs, rel, dd⟩ := dt_of I.hok hD
  have hz' : xs.length ≤ sizeLine := by rw [← Paired.length rel]; exact z
  have hl : (putK kvs k v).length ≤ sizeLine := by have := length_putK kvs k v; omega
  refine wpAny_dictSet_heap (hsz := hz') (Nat.lt_of_succ_lt hu) (key_of I.hok hb) dd fun h' dd' hs => h _ ?_
  obtain ⟨q, es, ep, hq, h2, h3, h4, _, h5⟩ := dd'
  refine d_write I (by rw [hD]; exact True.intro) hs ⟨q, hq⟩ ⟨hl, hd, _, (rel.put k hb rv).keeps fun c ys ec => ?_, q, es, ep, hq, h2, h3, h4, h5⟩
  rw [upd_ne (ne_of ec hD (fun z => nomatch z))]
  exact ec
section
variable {X : Cx}
/-- {k: v for target in iter if ..}, keys tuples: D the new dict -/
def tDcT (wi : TI) (g : TG) (tt : TT) (tk tv : TE) (vs : List Nat) : TE := fun σ H Q => wi σ H fun J H1 => ∀ D, H1 D = none → ∃ W : Nat → Nat → Hp → Prop, (∃ m, W 0 m (upd H1 D (.dT []))) ∧ ∀ i m H, W i m H →
  (J.stop i H ∧ Q (.ref D) H) ∨ (J.go i H ∧ ∃ Nx : Hp → Prop, (∀ H', Nx H' → ∃ m', m' < m ∧ W (i + 1) m' H') ∧ ∀ x H', J.yld i H x H' → g x (wipe σ vs) H' fun σ2 H2 => wipe σ2 vs = wipe σ vs ∧ tt σ2 H2 fun b H3 =>
    if b = true then tk σ2 H3 fun y H4 => tv σ2 H4 fun z H5 => ∃ kvs k q, y = .ref q ∧ H5 D = some (.dT kvs) ∧ H5 q = some (.tup (k.map kV)) ∧ kvs.length < sizeLine ∧ Nx (upd H5 D (.dT (putK kvs k z))) else Nx H3)
theorem dcT_core {pins : List (Addr × Obj)} {s : Shared} {σ : L2.St} {H : Hp} {Q : VK} {kx vx tg iter : Expr} {ifs : List Expr} {scope : Scope} {own : List (PySem.Str × Nat)} {pos pos' : Pos} {wi : TI} {g : TG} {tt : TT} {tk tv : TE} {use : Option (Value → Sem Unit)} {Qf : Value → Shared → Prop}
    (hu : X.A.units + 1 < cLine) (hc : X.calm = true) (hN : X.N.Nodup) (I : Inv X pins σ H s) (hi : PI X tg iter wi) (ok : BlkOk X.N X.env.scope scope own)
    (hg : ∀ (s : Shared) (H : Hp) (C : Addr) (cl : List (PySem.Str × Addr)) (fp : List Addr), PG (X.blk s H scope (compEnvC scope cl C X.env) fp) tg g) (ht : ∀ (s : Shared) (H : Hp) (C : Addr) (cl : List (PySem.Str × Addr)) (fp : List Addr), PTs (X.blk s H scope (compEnvC scope cl C X.env) fp) ifs tt)
    (hk : ∀ (s : Shared) (H : Hp) (C : Addr) (cl : List (PySem.Str × Addr)) (fp : List Addr), PE (X.blk s H scope (compEnvC scope cl C X.env) fp) kx tk)
    (he : ∀ (s : Shared) (H : Hp) (C : Addr) (cl : List (PySem.Str × Addr)) (fp : List Addr), PE (X.blk s H scope (compEnvC scope cl C X.env) fp) vx tv) (hs : ∀ x, foldedSetIterable iter X.env x = pure x)
    (h : tDcT wi g tt tk tv (own.map (·.2)) σ H Q)
    (hRR : ∀ D C s' m H', Inv X pins σ H' s' → Q (.ref D) H' → s'.heap.Ns C m → FpOk X pins H' C → compPost (model X.prog X.w) X.A X.xe use Qf (.ref D) C (.ok .next) s') :
    wpAny (model X.prog X.w) X.A (comprehension (.DictComp kx vx [⟨tg, iter, ifs, 0⟩] scope pos) scope X.env pos' newDict false (eval iter X.env) use) Qf X.xe s := by
  have hfree : ∀ y ∈ scope.names, y.2 = .free → ∃ c, X.env.cells.lookup y.1 = some c := fun y hy e => by
    rcases ok.free y hy e with k | k
    · exact I.ok.has _ (.inl k)
    · exact I.ok.has _ (.inr k)
  refine wpAny_comprehension_free (use := use) rfl hs (closure_ok hfree) ok.kind (fun y hy e => by rw [ok.uniq y hy, e])
    (thn (hi.run pins s σ H _ I h) fun xv s1 hx => thn hx fun itv s2 h2 => ?_)
  obtain ⟨it, fp, tn, J, H2, e, I2, T, st2, f2, q⟩ := h2
  subst e
  refine wpAny_newObj_type (newEnv_comp ?_)
  generalize hD : s2.heap.objs.size = D
  have hDn : H2 D = none := I2.hok.fresh (Nat.le_of_eq hD)
  obtain ⟨W, ⟨m0, w0⟩, turn⟩ := q D hDn
  -- the new list
  generalize hs3 : ({ s2 with heap := s2.heap.push { cls := .type "dict", data := .dict #[] } } : Shared) = s3
  have I3 : Inv X pins σ (upd H2 D (.dT [])) s3 := by
    rw [← hs3]
    refine I2.laid (t' := s2.toks) (fun b o e => Heap.get?_push_of_some _ e) (Nat.le_of_eq hD) ?_
    rw [← hD]
    exact dt_empty s2.heap I2.big
  have h3 : s3.heap = s2.heap.push { cls := .type "dict", data := .dict #[] } := by rw [← hs3]
  have sz : ∀ b ∈ fp, b < s2.heap.objs.size := fun b hb => by
    obtain ⟨o, e, _⟩ := T.obj _ _ st2 b hb
    exact Heap.lt_size e
  have f3 : ∀ b ∈ fp, FpOk X pins (upd H2 D (.dT [])) b ∧ b < s3.heap.objs.size := fun b hb => by
    have hlt := sz b hb
    refine ⟨⟨?_, (f2 b hb).2⟩, by rw [h3, Heap.size_push]; exact Nat.lt_succ_of_lt hlt⟩
    rw [upd_ne (by rw [← hD]; exact Nat.ne_of_lt hlt)]
    exact (f2 b hb).1
  have st3 : tn 0 s3.heap := T.keep _ _ _ st2 fun b _ o e => by rw [h3]; exact Heap.get?_push_of_some _ e
  have I4 := block_start I3 ok hN f3
  have pg := hg s3 (upd H2 D (.dT [])) s3.heap.objs.size (cellsFrom (s3.heap.objs.size + 1) scope.names (cloFrom X.env.cells scope.names [])) fp
  have pt := ht s3 (upd H2 D (.dT [])) s3.heap.objs.size (cellsFrom (s3.heap.objs.size + 1) scope.names (cloFrom X.env.cells scope.names [])) fp
  have pk := hk s3 (upd H2 D (.dT [])) s3.heap.objs.size (cellsFrom (s3.heap.objs.size + 1) scope.names (cloFrom X.env.cells scope.names [])) fp
  have pe := he s3 (upd H2 D (.dT [])) s3.heap.objs.size (cellsFrom (s3.heap.objs.size + 1) scope.names (cloFrom X.env.cells scope.names [])) fp
  show codeAny _ _ (.compStart (.DictComp kx vx [⟨tg, iter, ifs, 0⟩] scope pos) 0 (.ref it) (.ref D) (compEnvC scope (cellsFrom (s3.heap.objs.size + 1) scope.names (cloFrom X.env.cells scope.names [])) s3.heap.objs.size X.env)) (compPost (model X.prog X.w) X.A X.xe use Qf (.ref D) s3.heap.objs.size) { s3 with heap := pushCells (s3.heap.push { cls := .type "dict", data := .dict #[] }) scope.names }
  have nfp : ∀ b ∈ fp, (upd H2 D (.dT [])) b = none := fun b hb => (f3 b hb).1.1
  generalize hce : compEnvC scope (cellsFrom (s3.heap.objs.size + 1) scope.names (cloFrom X.env.cells scope.names [])) s3.heap.objs.size X.env = ce at I4 pg pt pk pe ⊢
  have cL : ce.locals = s3.heap.objs.size := by subst hce; rfl
  generalize hH3 : upd H2 D (.dT []) = H3 at I3 I4 pg pt pk pe w0 nfp f3
  generalize hs4 : ({ s3 with heap := pushCells (s3.heap.push { cls := .type "dict", data := .dict #[] }) scope.names } : Shared) = s4 at I4 ⊢
  have st4 : tn 0 s4.heap := T.keep _ _ _ st3 fun b _ o e => by rw [← hs4]; exact pushCells_keeps _ _ _ _ (Heap.get?_push_of_some _ e)
  have stat : ∀ {σ' : L2.St} {H' : Hp} {s' : Shared}, Inv (X.blk s3 H3 scope ce fp) [] σ' H' s' → (∀ b ∈ fp, H' b = none) → ∀ b ∈ fp, FpOk (X.blk s3 H3 scope ce fp) [] H' b := fun {σ' H' s'} I' hn b hb =>
    ⟨hn b hb, (I'.ok.exf b hb).1, I'.ok.exfs b hb, .inl hb, fun x c e => (I'.ok.exf b hb).2 x c e, fun p hp => absurd (show p ∈ ([] : List (Addr × Obj)) ++ [] from hp) (by simp)⟩
  have loop : codeAny (model X.prog X.w) X.A (.compLoop (.DictComp kx vx [⟨tg, iter, ifs, 0⟩] scope pos) 0 (.ref it) (.ref D) ce) (compPost (model X.prog X.w) X.A X.xe use Qf (.ref D) s3.heap.objs.size) s4 := by
    refine compLoop_anyD (fun n s' => ∃ i H', Inv (X.blk s3 H3 scope ce fp) [] (wipe σ (own.map (·.2))) H' s' ∧ tn i s'.heap ∧ (∀ b ∈ fp, H' b = none) ∧ W i n H') ?_ m0 ⟨0, H3, I4, st4, nfp, w0⟩
    rintro n s5 ⟨i, H5, I5, st5, n5, w5⟩
    rcases turn i n H5 w5 with ⟨stop, qq⟩ | ⟨go, Nx, hNx, step⟩
    · have td := T.done (X.blk s3 H3 scope ce fp) rfl rfl rfl hc i [] s5 _ H5 (fun _ _ => False) I5 (stat I5 n5) st5 stop
      refine thnF td fun r s6 ⟨hr, I6⟩ => ?_
      subst hr
      -- back in the def's context
      have I7 : Inv X pins σ H5 s6 := I3.call' (ch := fp) I6.os I6.base I6.hok I6.bare fun b hb => ⟨(f3 b hb).1.2.2.2.1, (f3 b hb).1.2.1, (f3 b hb).1.2.2.2.2.1, (f3 b hb).1.2.2.2.2.2⟩
      have nC : H5 s3.heap.objs.size = none := by
        have z : H5 ce.locals = none := I6.free
        rw [cL] at z
        exact z
      obtain ⟨m, hn, _⟩ := I6.loc
      have hn : s6.heap.Ns ce.locals m := hn
      rw [cL] at hn
      exact hRR D s3.heap.objs.size s6 m H5 I7 qq hn (I3.fpOk (Nat.le_refl _) nC)
    · have ti := T.item (X.blk s3 H3 scope ce fp) rfl rfl rfl hc i [] s5 _ H5 (fun _ _ => False) I5 (stat I5 n5) st5 go
      refine thnF ti fun r s6 ⟨u, hr, h6⟩ => ?_
      subst hr
      refine thnF h6 fun _ s7 ⟨x, H7, I7, r7, y7, st7, n7⟩ => ?_
      have I7' := I7.pinned (stat I7 n7) (T.obj _ _ st7)
      refine thnF (pg.run _ s7 _ H7 x u _ I7' r7 (step x H7 y7)) fun _ s8 ⟨σ8, H8, I8, hw8, q8⟩ => ?_
      refine thnF (pt.run _ s8 σ8 H8 _ I8 q8) fun b s9 ⟨H9, I9, q9⟩ => ?_
      -- the turn's end
      have fin : ∀ {s' : Shared} {H' : Hp}, Inv (X.blk s3 H3 scope ce fp) ([] ++ pinsAt fp s7.heap) σ8 H' s' → Nx H' → ∃ m, m < n ∧ ∃ i H', Inv (X.blk s3 H3 scope ce fp) [] (wipe σ (own.map (·.2))) H' s' ∧ tn i s'.heap ∧ (∀ b ∈ fp, H' b = none) ∧ W i m H' := fun {s' H'} I' nx => by
        obtain ⟨m', hm, w'⟩ := hNx H' nx
        have pin' : ∀ b ∈ fp, ∀ o, s7.heap.get? b = some o → s'.heap.get? b = some o ∧ H' b = none := fun b hb o e =>
          let z := I'.pin (b, o) (List.mem_append_right _ (List.mem_append_right _ (mem_pinsAt hb e)))
          ⟨z.1, z.2.1⟩
        have hl : (wipe σ (own.map (·.2))).length = σ8.length := by rw [← hw8, wipe_length]
        refine ⟨m', hm, i + 1, H', (I'.unpinned (pins := [])).weak hl (fun j v e => ?_), T.keep _ _ _ st7 fun b hb o e => (pin' b hb o e).1, fun b hb => ?_, w'⟩
        · rw [← hw8] at e
          exact (wipe_some e).1
        · obtain ⟨o, e, _⟩ := T.obj _ _ st7 b hb
          exact (pin' b hb o e).2
      cases b with
      | false =>
        simp only [Bool.false_eq_true, if_false] at q9 ⊢
        exact fin I9 q9
      | true =>
        simp only [if_true] at q9 ⊢
        refine thnF (pk.run _ s9 σ8 H9 _ I9 q9) fun z s10 ⟨yk, H10, I10, r10, q10⟩ => ?_
        refine thnF (pe.run _ s10 σ8 H10 _ I10 q10) fun z2 s11 ⟨yv, H11, I11, r11, kvs, k, q, ek, hD11, hq11, hz11, nx⟩ => ?_
        subst ek
        exact d_dictSetT (X := X.blk s3 H3 scope ce fp) hu I11 hD11 hq11 hz11 r10 r11 fun s12 I12 => fin I12 nx
  exact codeAny_compStart_dict loop (T.self X.A 0 _ _ _ st4 loop)
/-- as a value -/
theorem we_dcT0 {kx vx tg iter : Expr} {ifs : List Expr} {scope : Scope} {own : List (PySem.Str × Nat)} {pos : Pos} {wi : TI} {g : TG} {tt : TT} {tk tv : TE} (hu : X.A.units + 1 < cLine) (hc : X.calm = true) (hN : X.N.Nodup) (hi : PI X tg iter wi) (ok : BlkOk X.N X.env.scope scope own)
    (hg : ∀ (s : Shared) (H : Hp) (C : Addr) (cl : List (PySem.Str × Addr)) (fp : List Addr), PG (X.blk s H scope (compEnvC scope cl C X.env) fp) tg g) (ht : ∀ (s : Shared) (H : Hp) (C : Addr) (cl : List (PySem.Str × Addr)) (fp : List Addr), PTs (X.blk s H scope (compEnvC scope cl C X.env) fp) ifs tt)
    (hk : ∀ (s : Shared) (H : Hp) (C : Addr) (cl : List (PySem.Str × Addr)) (fp : List Addr), PE (X.blk s H scope (compEnvC scope cl C X.env) fp) kx tk)
    (he : ∀ (s : Shared) (H : Hp) (C : Addr) (cl : List (PySem.Str × Addr)) (fp : List Addr), PE (X.blk s H scope (compEnvC scope cl C X.env) fp) vx tv) (hs : ∀ x, foldedSetIterable iter X.env x = pure x := by intro _; rfl) :
    PE X (.DictComp kx vx [⟨tg, iter, ifs, 0⟩] scope pos) (tDcT wi g tt tk tv (own.map (·.2))) := by
  refine ⟨fun pins s σ H Q I h => ?_⟩
  rw [arm_eval_DictComp]
  refine dcT_core hu hc hN I hi ok hg ht hk he hs h fun D C s' m H' I' q hn f => ⟨m, hn, fun h'' sb => ?_⟩
  obtain ⟨f0, f1, f2, f3, f4, f5⟩ := f
  exact ⟨.ref D, H', I'.turned (t' := s'.toks) (fun b o hb e => (sb.2 b hb).trans e) f0 f1 f3 f4 f5, rfl, q⟩
end
end Cab
/-! text CabP -/
set_option Elab.async false
set_option linter.all false
set_option maxRecDepth 100000
set_option maxHeartbeats 2000000
/-! data compared; numbers up to 60 as texts -/
namespace Cab
open PySem PySem.Spec PyProof.Rows L2 He
theorem wt_chain {X : Cx} {σ : L2.St} {H : Hp} {pos : Pos} {op op' : CmpOp} {a b c : Expr} {r r' : R2} {QT : Bool → Hp → Prop} (ho : OpR X (compareOp op) r) (ho' : OpR X (compareOp op') r')
    (h : WE X a σ H fun x H1 => WE X b σ H1 fun y H2 => r x y H2 fun z H3 => ∃ k, z = .bl k ∧ (if k = true then WE X c σ H3 fun w' H4 => r' y w' H4 fun z H5 => ∃ q, z = .bl q ∧ QT q H5 else ∃ q, V.bl false = .bl q ∧ QT q H3)) (hm : lastMarks [op, op'] [b, c] = false := by with_unfolding_all rfl) :
    WT X (.Compare a [op, op'] [b, c] pos) σ H QT := wT (pt_chain ho ho' pE pE pE hm) h
section
variable {K : PySem.W.Frag} {H : Hp} {a : Addr}
theorem dpAll_ints : ∀ l : List Int, DpAll K H (l.map V.int) (l.map PyData.int)
  | [] => .nil
  | x :: l => .cons (.int x) (dpAll_ints l)
theorem dpAll_bls : ∀ l : List Bool, DpAll K H (l.map V.bl) (l.map PyData.bool)
  | [] => .nil
  | x :: l => .cons (.bl x) (dpAll_bls l)
theorem dpAll_strs : ∀ l : List Str, DpAll K H (l.map V.str) (l.map PyData.str)
  | [] => .nil
  | x :: l => .cons (.str x) (dpAll_strs l)
theorem dp_ints {l : List Int} (h : SqL K H a (l.map V.int)) : Dp K H (.ref a) (.list (l.map PyData.int)) := .lst h (dpAll_ints l)
theorem dp_bls {l : List Bool} (h : SqL K H a (l.map V.bl)) : Dp K H (.ref a) (.list (l.map PyData.bool)) := .lst h (dpAll_bls l)
theorem dp_strs {l : List Str} (h : SqL K H a (l.map V.str)) : Dp K H (.ref a) (.list (l.map PyData.str)) := .lst h (dpAll_strs l)
theorem dpT_ints {l : List Int} (h : SqT K H a (l.map V.int)) : Dp K H (.ref a) (.tuple (l.map PyData.int)) := .tup h (dpAll_ints l)
end
theorem lay_ints : ∀ l : List Int, PyData.canLayAll0 (l.map PyData.int) = true ∧ PyData.depthAll (l.map PyData.int) = 0
  | [] => ⟨rfl, rfl⟩
  | x :: l => by
    obtain ⟨h1, h2⟩ := lay_ints l
    simp [PyData.canLayAll0, PyData.canLay0, PyData.depthAll, PyData.depth, h1, h2]
theorem lay_bls : ∀ l : List Bool, PyData.canLayAll0 (l.map PyData.bool) = true ∧ PyData.depthAll (l.map PyData.bool) = 0
  | [] => ⟨rfl, rfl⟩
  | x :: l => by
    obtain ⟨h1, h2⟩ := lay_bls l
    simp [PyData.canLayAll0, PyData.canLay0, PyData.depthAll, PyData.depth, h1, h2]
theorem lay_strs : ∀ l : List Str, (∀ x ∈ l, PyData.strOk x = true) → PyData.canLayAll0 (l.map PyData.str) = true ∧ PyData.depthAll (l.map PyData.str) = 0
  | [], _ => ⟨rfl, rfl⟩
  | x :: l, h => by
    obtain ⟨h1, h2⟩ := lay_strs l fun y hy => h y (List.mem_cons_of_mem _ hy)
    have h3 := h x List.mem_cons_self
    simp [PyData.canLayAll0, PyData.canLay0, PyData.depthAll, PyData.depth, h1, h2, h3]
theorem sh_list {ds : List PyData} (h : PyData.canLayAll0 ds = true ∧ PyData.depthAll ds = 0) : SeqAt.shaped (.list ds) = true := by
  simp [SeqAt.shaped, PyData.canLay0, PyData.depth, h.1, h.2]
theorem sh_tup {ds : List PyData} (h : PyData.canLayAll0 ds = true ∧ PyData.depthAll ds = 0) : SeqAt.shaped (.tuple ds) = true := by
  simp [SeqAt.shaped, PyData.canLay0, PyData.depth, h.1, h.2]
theorem eqvAll_ints : ∀ l m : List Int, PyData.eqvAll (l.map PyData.int) (m.map PyData.int) = decide (l = m)
  | [], [] => by simp [PyData.eqvAll]
  | [], y :: m => by simp [PyData.eqvAll]
  | x :: l, [] => by simp [PyData.eqvAll]
  | x :: l, y :: m => by
    simp only [List.map_cons, PyData.eqvAll, PyData.eqv, eqvAll_ints l m]
    by_cases h : x = y <;> by_cases h2 : l = m <;> simp [h, h2]
theorem eqvAll_bls : ∀ l m : List Bool, PyData.eqvAll (l.map PyData.bool) (m.map PyData.bool) = decide (l = m)
  | [], [] => by simp [PyData.eqvAll]
  | [], y :: m => by simp [PyData.eqvAll]
  | x :: l, [] => by simp [PyData.eqvAll]
  | x :: l, y :: m => by
    simp only [List.map_cons, PyData.eqvAll, PyData.eqv, eqvAll_bls l m]
    by_cases h : x = y <;> by_cases h2 : l = m <;> simp [h, h2]
theorem eqv_ints (l m : List Int) : PyData.eqv (.list (l.map PyData.int)) (.list (m.map PyData.int)) = decide (l = m) := by
  simp only [PyData.eqv]; exact eqvAll_ints l m
theorem eqv_bls (l m : List Bool) : PyData.eqv (.list (l.map PyData.bool)) (.list (m.map PyData.bool)) = decide (l = m) := by
  simp only [PyData.eqv]; exact eqvAll_bls l m
theorem eqvT_ints (l m : List Int) : PyData.eqv (.tuple (l.map PyData.int)) (.tuple (m.map PyData.int)) = decide (l = m) := by
  simp only [PyData.eqv]; exact eqvAll_ints l m
/-- a written number -/
def wd (n : Nat) : Str := Str.ofString (toString ((n : Nat) : Int))
def wdOk (n : Nat) : Bool := decide (1 ≤ (wd n).length) && decide ((wd n).length ≤ 2) && (wd n).cps.toList.all (fun c => decide (c ∈ (Str.ofString "0123456789").cps.toList)) && decide (n = 0 ∨ (wd n).cps.toList[0]? ≠ some 48) &&
  decide (PySem.intText? (wd n) = some (n : Int)) && PyData.strOk (wd n) && decide (n = 0 ∨ wd n ≠ Str.ofString "0") && decide ((n : Int).natAbs.log2 < 1920)
theorem wd_all : (List.range 61).all wdOk = true := by decide +kernel
structure WdFacts (n : Nat) : Prop where
  l1 : 1 ≤ (wd n).length
  l2 : (wd n).length ≤ 2
  dig : ∀ c ∈ (wd n).cps.toList, c ∈ (Str.ofString "0123456789").cps.toList
  hd : n = 0 ∨ (wd n).cps.toList[0]? ≠ some 48
  rd : PySem.intText? (wd n) = some (n : Int)
  ok : PyData.strOk (wd n) = true
  nz : n = 0 ∨ wd n ≠ Str.ofString "0"
  lg : (n : Int).natAbs.log2 < 1920
theorem wd_ok {n : Nat} (h : n ≤ 60) : WdFacts n := by
  have h1 := List.all_eq_true.mp wd_all n (List.mem_range.mpr (by omega))
  unfold wdOk at h1
  simp only [Bool.and_eq_true, decide_eq_true_eq, List.all_eq_true] at h1
  obtain ⟨⟨⟨⟨⟨⟨⟨a, b⟩, c⟩, d⟩, e⟩, f⟩, g⟩, i⟩ := h1
  exact ⟨a, b, c, d, e, f, g, i⟩
theorem wd_zero : wd 0 = Str.ofString "0" := by decide +kernel
end Cab
/-! text CabS -/
set_option Elab.async false
set_option linter.all false
set_option maxRecDepth 100000
set_option maxHeartbeats 2000000
/-! the slots of each def (printed by gen_scopes.py) -/
namespace Cab
open PySem PySem.Spec PyProof.Rows L2 He
abbrev N_is_whole : List Str := ["value"]
theorem sc_is_whole : FnScope N_is_whole ["value"] d_is_whole.scope := ⟨rfl, rfl, rfl, by decide +kernel, rfl, by decide +kernel, by decide +kernel⟩
theorem bd_is_whole (kV doc pm : Value) (an : Option Addr) (cdv ct : Value) (us : List Value) (hl : us.length = (["value"] : List Str).length) : bindArgs (PySem.W.fnOf d_is_whole.name d_is_whole.qual d_is_whole.params d_is_whole.body d_is_whole.scope .none kV doc pm an cdv ct) ⟨us, []⟩ = pure ((["value"] : List Str).zip us) := match us, hl with | [_], _ => rfl
abbrev N_is_between : List Str := ["value", "least", "most"]
theorem sc_is_between : FnScope N_is_between ["value", "least", "most"] d_is_between.scope := ⟨rfl, rfl, rfl, by decide +kernel, rfl, by decide +kernel, by decide +kernel⟩
theorem bd_is_between (kV doc pm : Value) (an : Option Addr) (cdv ct : Value) (us : List Value) (hl : us.length = (["value", "least", "most"] : List Str).length) : bindArgs (PySem.W.fnOf d_is_between.name d_is_between.qual d_is_between.params d_is_between.body d_is_between.scope .none kV doc pm an cdv ct) ⟨us, []⟩ = pure ((["value", "least", "most"] : List Str).zip us) := match us, hl with | [_, _, _], _ => rfl
abbrev N_is_speed : List Str := ["value"]
theorem sc_is_speed : FnScope N_is_speed ["value"] d_is_speed.scope := ⟨rfl, rfl, rfl, by decide +kernel, rfl, by decide +kernel, by decide +kernel⟩
theorem bd_is_speed (kV doc pm : Value) (an : Option Addr) (cdv ct : Value) (us : List Value) (hl : us.length = (["value"] : List Str).length) : bindArgs (PySem.W.fnOf d_is_speed.name d_is_speed.qual d_is_speed.params d_is_speed.body d_is_speed.scope .none kV doc pm an cdv ct) ⟨us, []⟩ = pure ((["value"] : List Str).zip us) := match us, hl with | [_], _ => rfl
abbrev N_is_trip : List Str := ["value", "digit"]
theorem sc_is_trip : FnScope N_is_trip ["value"] d_is_trip.scope := ⟨rfl, rfl, rfl, by decide +kernel, rfl, by decide +kernel, by decide +kernel⟩
theorem bd_is_trip (kV doc pm : Value) (an : Option Addr) (cdv ct : Value) (us : List Value) (hl : us.length = (["value"] : List Str).length) : bindArgs (PySem.W.fnOf d_is_trip.name d_is_trip.qual d_is_trip.params d_is_trip.body d_is_trip.scope .none kV doc pm an cdv ct) ⟨us, []⟩ = pure ((["value"] : List Str).zip us) := match us, hl with | [_], _ => rfl
abbrev N_check_trip : List Str := ["trip"]
theorem sc_check_trip : FnScope N_check_trip ["trip"] d_check_trip.scope := ⟨rfl, rfl, rfl, by decide +kernel, rfl, by decide +kernel, by decide +kernel⟩
theorem bd_check_trip (kV doc pm : Value) (an : Option Addr) (cdv ct : Value) (us : List Value) (hl : us.length = (["trip"] : List Str).length) : bindArgs (PySem.W.fnOf d_check_trip.name d_check_trip.qual d_check_trip.params d_check_trip.body d_check_trip.scope .none kV doc pm an cdv ct) ⟨us, []⟩ = pure ((["trip"] : List Str).zip us) := match us, hl with | [_], _ => rfl
abbrev N_are_worths : List Str := ["value", "item"]
theorem sc_are_worths : FnScope N_are_worths ["value"] d_are_worths.scope := ⟨rfl, rfl, rfl, by decide +kernel, rfl, by decide +kernel, by decide +kernel⟩
theorem bd_are_worths (kV doc pm : Value) (an : Option Addr) (cdv ct : Value) (us : List Value) (hl : us.length = (["value"] : List Str).length) : bindArgs (PySem.W.fnOf d_are_worths.name d_are_worths.qual d_are_worths.params d_are_worths.body d_are_worths.scope .none kV doc pm an cdv ct) ⟨us, []⟩ = pure ((["value"] : List Str).zip us) := match us, hl with | [_], _ => rfl
abbrev N_check_numbers : List Str := ["time", "way", "number"]
theorem sc_check_numbers : FnScope N_check_numbers ["time", "way"] d_check_numbers.scope := ⟨rfl, rfl, rfl, by decide +kernel, rfl, by decide +kernel, by decide +kernel⟩
theorem bd_check_numbers (kV doc pm : Value) (an : Option Addr) (cdv ct : Value) (us : List Value) (hl : us.length = (["time", "way"] : List Str).length) : bindArgs (PySem.W.fnOf d_check_numbers.name d_check_numbers.qual d_check_numbers.params d_check_numbers.body d_check_numbers.scope .none kV doc pm an cdv ct) ⟨us, []⟩ = pure ((["time", "way"] : List Str).zip us) := match us, hl with | [_, _], _ => rfl
abbrev N_check_number : List Str := ["value", "least", "most"]
theorem sc_check_number : FnScope N_check_number ["value", "least", "most"] d_check_number.scope := ⟨rfl, rfl, rfl, by decide +kernel, rfl, by decide +kernel, by decide +kernel⟩
theorem bd_check_number (kV doc pm : Value) (an : Option Addr) (cdv ct : Value) (us : List Value) (hl : us.length = (["value", "least", "most"] : List Str).length) : bindArgs (PySem.W.fnOf d_check_number.name d_check_number.qual d_check_number.params d_check_number.body d_check_number.scope .none kV doc pm an cdv ct) ⟨us, []⟩ = pure ((["value", "least", "most"] : List Str).zip us) := match us, hl with | [_, _, _], _ => rfl
abbrev N_check_top : List Str := ["top"]
theorem sc_check_top : FnScope N_check_top ["top"] d_check_top.scope := ⟨rfl, rfl, rfl, by decide +kernel, rfl, by decide +kernel, by decide +kernel⟩
theorem bd_check_top (kV doc pm : Value) (an : Option Addr) (cdv ct : Value) (us : List Value) (hl : us.length = (["top"] : List Str).length) : bindArgs (PySem.W.fnOf d_check_top.name d_check_top.qual d_check_top.params d_check_top.body d_check_top.scope .none kV doc pm an cdv ct) ⟨us, []⟩ = pure ((["top"] : List Str).zip us) := match us, hl with | [_], _ => rfl
abbrev N_are_turns : List Str := ["turns", "many", "turn", "place"]
theorem sc_are_turns : FnScope N_are_turns ["turns", "many"] d_are_turns.scope := ⟨rfl, rfl, rfl, by decide +kernel, rfl, by decide +kernel, by decide +kernel⟩
theorem bd_are_turns (kV doc pm : Value) (an : Option Addr) (cdv ct : Value) (us : List Value) (hl : us.length = (["turns", "many"] : List Str).length) : bindArgs (PySem.W.fnOf d_are_turns.name d_are_turns.qual d_are_turns.params d_are_turns.body d_are_turns.scope .none kV doc pm an cdv ct) ⟨us, []⟩ = pure ((["turns", "many"] : List Str).zip us) := match us, hl with | [_, _], _ => rfl
abbrev N_is_speeds : List Str := ["value", "digit"]
theorem sc_is_speeds : FnScope N_is_speeds ["value"] d_is_speeds.scope := ⟨rfl, rfl, rfl, by decide +kernel, rfl, by decide +kernel, by decide +kernel⟩
theorem bd_is_speeds (kV doc pm : Value) (an : Option Addr) (cdv ct : Value) (us : List Value) (hl : us.length = (["value"] : List Str).length) : bindArgs (PySem.W.fnOf d_is_speeds.name d_is_speeds.qual d_is_speeds.params d_is_speeds.body d_is_speeds.scope .none kV doc pm an cdv ct) ⟨us, []⟩ = pure ((["value"] : List Str).zip us) := match us, hl with | [_], _ => rfl
abbrev N_is_claim : List Str := ["record", "claim", "kind", "tick", "told"]
theorem sc_is_claim : FnScope N_is_claim ["record", "claim"] d_is_claim.scope := ⟨rfl, rfl, rfl, by decide +kernel, rfl, by decide +kernel, by decide +kernel⟩
theorem bd_is_claim (kV doc pm : Value) (an : Option Addr) (cdv ct : Value) (us : List Value) (hl : us.length = (["record", "claim"] : List Str).length) : bindArgs (PySem.W.fnOf d_is_claim.name d_is_claim.qual d_is_claim.params d_is_claim.body d_is_claim.scope .none kV doc pm an cdv ct) ⟨us, []⟩ = pure ((["record", "claim"] : List Str).zip us) := match us, hl with | [_, _], _ => rfl
abbrev N_need_claim : List Str := ["record", "claim"]
theorem sc_need_claim : FnScope N_need_claim ["record", "claim"] d_need_claim.scope := ⟨rfl, rfl, rfl, by decide +kernel, rfl, by decide +kernel, by decide +kernel⟩
theorem bd_need_claim (kV doc pm : Value) (an : Option Addr) (cdv ct : Value) (us : List Value) (hl : us.length = (["record", "claim"] : List Str).length) : bindArgs (PySem.W.fnOf d_need_claim.name d_need_claim.qual d_need_claim.params d_need_claim.body d_need_claim.scope .none kV doc pm an cdv ct) ⟨us, []⟩ = pure ((["record", "claim"] : List Str).zip us) := match us, hl with | [_, _], _ => rfl
abbrev N_holds_at : List Str := ["record", "claim", "mark", "place", "kind", "tick", "told"]
theorem sc_holds_at : FnScope N_holds_at ["record", "claim", "mark", "place"] d_holds_at.scope := ⟨rfl, rfl, rfl, by decide +kernel, rfl, by decide +kernel, by decide +kernel⟩
theorem bd_holds_at (kV doc pm : Value) (an : Option Addr) (cdv ct : Value) (us : List Value) (hl : us.length = (["record", "claim", "mark", "place"] : List Str).length) : bindArgs (PySem.W.fnOf d_holds_at.name d_holds_at.qual d_holds_at.params d_holds_at.body d_holds_at.scope .none kV doc pm an cdv ct) ⟨us, []⟩ = pure ((["record", "claim", "mark", "place"] : List Str).zip us) := match us, hl with | [_, _, _, _], _ => rfl
abbrev N_layers_of : List Str := ["record", "claim", "wanted", "found", "tick", "now", "place", "digit", "goal", "fits"]
theorem sc_layers_of : FnScope N_layers_of ["record", "claim", "wanted"] d_layers_of.scope := ⟨rfl, rfl, rfl, by decide +kernel, rfl, by decide +kernel, by decide +kernel⟩
theorem bd_layers_of (kV doc pm : Value) (an : Option Addr) (cdv ct : Value) (us : List Value) (hl : us.length = (["record", "claim", "wanted"] : List Str).length) : bindArgs (PySem.W.fnOf d_layers_of.name d_layers_of.qual d_layers_of.params d_layers_of.body d_layers_of.scope .none kV doc pm an cdv ct) ⟨us, []⟩ = pure ((["record", "claim", "wanted"] : List Str).zip us) := match us, hl with | [_, _, _], _ => rfl
abbrev N_is_wanted : List Str := ["record", "claim", "wanted", "mark", "place"]
theorem sc_is_wanted : FnScope N_is_wanted ["record", "claim", "wanted", "mark", "place"] d_is_wanted.scope := ⟨rfl, rfl, rfl, by decide +kernel, rfl, by decide +kernel, by decide +kernel⟩
theorem bd_is_wanted (kV doc pm : Value) (an : Option Addr) (cdv ct : Value) (us : List Value) (hl : us.length = (["record", "claim", "wanted", "mark", "place"] : List Str).length) : bindArgs (PySem.W.fnOf d_is_wanted.name d_is_wanted.qual d_is_wanted.params d_is_wanted.body d_is_wanted.scope .none kV doc pm an cdv ct) ⟨us, []⟩ = pure ((["record", "claim", "wanted", "mark", "place"] : List Str).zip us) := match us, hl with | [_, _, _, _, _], _ => rfl
abbrev N_some_trip : List Str := ["record", "claim", "wanted", "rows"]
theorem sc_some_trip : FnScope N_some_trip ["record", "claim", "wanted"] d_some_trip.scope := ⟨rfl, rfl, rfl, by decide +kernel, rfl, by decide +kernel, by decide +kernel⟩
theorem bd_some_trip (kV doc pm : Value) (an : Option Addr) (cdv ct : Value) (us : List Value) (hl : us.length = (["record", "claim", "wanted"] : List Str).length) : bindArgs (PySem.W.fnOf d_some_trip.name d_some_trip.qual d_some_trip.params d_some_trip.body d_some_trip.scope .none kV doc pm an cdv ct) ⟨us, []⟩ = pure ((["record", "claim", "wanted"] : List Str).zip us) := match us, hl with | [_, _, _], _ => rfl
abbrev N_verdict_on : List Str := ["record", "claim", "sides"]
theorem sc_verdict_on : FnScope N_verdict_on ["record", "claim"] d_verdict_on.scope := ⟨rfl, rfl, rfl, by decide +kernel, rfl, by decide +kernel, by decide +kernel⟩
theorem bd_verdict_on (kV doc pm : Value) (an : Option Addr) (cdv ct : Value) (us : List Value) (hl : us.length = (["record", "claim"] : List Str).length) : bindArgs (PySem.W.fnOf d_verdict_on.name d_verdict_on.qual d_verdict_on.params d_verdict_on.body d_verdict_on.scope .none kV doc pm an cdv ct) ⟨us, []⟩ = pure ((["record", "claim"] : List Str).zip us) := match us, hl with | [_, _], _ => rfl
abbrev N_way_range : List Str := ["record", "begin", "end", "steps", "ranges", "tick", "now", "place", "digit", "goal", "low", "high", "known", "told"]
theorem sc_way_range : FnScope N_way_range ["record", "begin", "end"] d_way_range.scope := ⟨rfl, rfl, rfl, by decide +kernel, rfl, by decide +kernel, by decide +kernel⟩
theorem bd_way_range (kV doc pm : Value) (an : Option Addr) (cdv ct : Value) (us : List Value) (hl : us.length = (["record", "begin", "end"] : List Str).length) : bindArgs (PySem.W.fnOf d_way_range.name d_way_range.qual d_way_range.params d_way_range.body d_way_range.scope .none kV doc pm an cdv ct) ⟨us, []⟩ = pure ((["record", "begin", "end"] : List Str).zip us) := match us, hl with | [_, _, _], _ => rfl
abbrev N_law_bag : List Str := ["_law_script"]
theorem sc_law_bag : FnScope N_law_bag ["_law_script"] d_law_bag.scope := ⟨rfl, rfl, rfl, by decide +kernel, rfl, by decide +kernel, by decide +kernel⟩
theorem bd_law_bag (kV doc pm : Value) (an : Option Addr) (cdv ct : Value) (us : List Value) (hl : us.length = (["_law_script"] : List Str).length) : bindArgs (PySem.W.fnOf d_law_bag.name d_law_bag.qual d_law_bag.params d_law_bag.body d_law_bag.scope .none kV doc pm an cdv ct) ⟨us, []⟩ = pure ((["_law_script"] : List Str).zip us) := match us, hl with | [_], _ => rfl
abbrev N_law_draw : List Str := ["_law_bag_here", "_law_size", "_law_cell", "_law_digit", "_law_mixed_here"]
theorem sc_law_draw : FnScope N_law_draw ["_law_bag_here", "_law_size"] d_law_draw.scope := ⟨rfl, rfl, rfl, by decide +kernel, rfl, by decide +kernel, by decide +kernel⟩
theorem bd_law_draw (kV doc pm : Value) (an : Option Addr) (cdv ct : Value) (us : List Value) (hl : us.length = (["_law_bag_here", "_law_size"] : List Str).length) : bindArgs (PySem.W.fnOf d_law_draw.name d_law_draw.qual d_law_draw.params d_law_draw.body d_law_draw.scope .none kV doc pm an cdv ct) ⟨us, []⟩ = pure ((["_law_bag_here", "_law_size"] : List Str).zip us) := match us, hl with | [_, _], _ => rfl
abbrev N_law_mixed : List Str := ["_law_bag_here", "_law_items", "_law_left_here", "_law_found", "_law_k"]
theorem sc_law_mixed : FnScope N_law_mixed ["_law_bag_here", "_law_items"] d_law_mixed.scope := ⟨rfl, rfl, rfl, by decide +kernel, rfl, by decide +kernel, by decide +kernel⟩
theorem bd_law_mixed (kV doc pm : Value) (an : Option Addr) (cdv ct : Value) (us : List Value) (hl : us.length = (["_law_bag_here", "_law_items"] : List Str).length) : bindArgs (PySem.W.fnOf d_law_mixed.name d_law_mixed.qual d_law_mixed.params d_law_mixed.body d_law_mixed.scope .none kV doc pm an cdv ct) ⟨us, []⟩ = pure ((["_law_bag_here", "_law_items"] : List Str).zip us) := match us, hl with | [_, _], _ => rfl
abbrev N_law_jumps_at : List Str := ["_law_plain", "_law_count"]
theorem sc_law_jumps_at : FnScope N_law_jumps_at ["_law_plain", "_law_count"] d_law_jumps_at.scope := ⟨rfl, rfl, rfl, by decide +kernel, rfl, by decide +kernel, by decide +kernel⟩
theorem bd_law_jumps_at (kV doc pm : Value) (an : Option Addr) (cdv ct : Value) (us : List Value) (hl : us.length = (["_law_plain", "_law_count"] : List Str).length) : bindArgs (PySem.W.fnOf d_law_jumps_at.name d_law_jumps_at.qual d_law_jumps_at.params d_law_jumps_at.body d_law_jumps_at.scope .none kV doc pm an cdv ct) ⟨us, []⟩ = pure ((["_law_plain", "_law_count"] : List Str).zip us) := match us, hl with | [_, _], _ => rfl
abbrev N_law_worth : List Str := ["_law_plain", "_law_jumps", "_law_speed", "_law_turn"]
theorem sc_law_worth : FnScope N_law_worth ["_law_plain", "_law_jumps", "_law_speed"] d_law_worth.scope := ⟨rfl, rfl, rfl, by decide +kernel, rfl, by decide +kernel, by decide +kernel⟩
theorem bd_law_worth (kV doc pm : Value) (an : Option Addr) (cdv ct : Value) (us : List Value) (hl : us.length = (["_law_plain", "_law_jumps", "_law_speed"] : List Str).length) : bindArgs (PySem.W.fnOf d_law_worth.name d_law_worth.qual d_law_worth.params d_law_worth.body d_law_worth.scope .none kV doc pm an cdv ct) ⟨us, []⟩ = pure ((["_law_plain", "_law_jumps", "_law_speed"] : List Str).zip us) := match us, hl with | [_, _, _], _ => rfl
abbrev N_law_counts : List Str := ["_law_plain", "_law_trip", "_law_found", "_law_digit"]
theorem sc_law_counts : FnScope N_law_counts ["_law_plain", "_law_trip"] d_law_counts.scope := ⟨rfl, rfl, rfl, by decide +kernel, rfl, by decide +kernel, by decide +kernel⟩
theorem bd_law_counts (kV doc pm : Value) (an : Option Addr) (cdv ct : Value) (us : List Value) (hl : us.length = (["_law_plain", "_law_trip"] : List Str).length) : bindArgs (PySem.W.fnOf d_law_counts.name d_law_counts.qual d_law_counts.params d_law_counts.body d_law_counts.scope .none kV doc pm an cdv ct) ⟨us, []⟩ = pure ((["_law_plain", "_law_trip"] : List Str).zip us) := match us, hl with | [_, _], _ => rfl
abbrev N_law_small_worths : List Str := ["_law_bag_here", "_law_most", "_law_time", "_law_way", "_law_choice", "_law_change", "_law_speed"]
theorem sc_law_small_worths : FnScope N_law_small_worths ["_law_bag_here", "_law_most"] d_law_small_worths.scope := ⟨rfl, rfl, rfl, by decide +kernel, rfl, by decide +kernel, by decide +kernel⟩
theorem bd_law_small_worths (kV doc pm : Value) (an : Option Addr) (cdv ct : Value) (us : List Value) (hl : us.length = (["_law_bag_here", "_law_most"] : List Str).length) : bindArgs (PySem.W.fnOf d_law_small_worths.name d_law_small_worths.qual d_law_small_worths.params d_law_small_worths.body d_law_small_worths.scope .none kV doc pm an cdv ct) ⟨us, []⟩ = pure ((["_law_bag_here", "_law_most"] : List Str).zip us) := match us, hl with | [_, _], _ => rfl
abbrev N_law_meter : List Str := ["_law_bag_here", "_law_drops", "_law_turns", "_law_tables", "_law_floor_price", "_law_jump_price", "_law_first", "_law_k"]
theorem sc_law_meter : FnScope N_law_meter ["_law_bag_here", "_law_drops"] d_law_meter.scope := ⟨rfl, rfl, rfl, by decide +kernel, rfl, by decide +kernel, by decide +kernel⟩
theorem bd_law_meter (kV doc pm : Value) (an : Option Addr) (cdv ct : Value) (us : List Value) (hl : us.length = (["_law_bag_here", "_law_drops"] : List Str).length) : bindArgs (PySem.W.fnOf d_law_meter.name d_law_meter.qual d_law_meter.params d_law_meter.body d_law_meter.scope .none kV doc pm an cdv ct) ⟨us, []⟩ = pure ((["_law_bag_here", "_law_drops"] : List Str).zip us) := match us, hl with | [_, _], _ => rfl
abbrev N_law_made_table : List Str := ["_law_worths", "_law_place", "_law_choice", "_law_way", "_law_worth_here", "_law_speed"]
theorem sc_law_made_table : FnScope N_law_made_table ["_law_worths", "_law_place"] d_law_made_table.scope := ⟨rfl, rfl, rfl, by decide +kernel, rfl, by decide +kernel, by decide +kernel⟩
theorem bd_law_made_table (kV doc pm : Value) (an : Option Addr) (cdv ct : Value) (us : List Value) (hl : us.length = (["_law_worths", "_law_place"] : List Str).length) : bindArgs (PySem.W.fnOf d_law_made_table.name d_law_made_table.qual d_law_made_table.params d_law_made_table.body d_law_made_table.scope .none kV doc pm an cdv ct) ⟨us, []⟩ = pure ((["_law_worths", "_law_place"] : List Str).zip us) := match us, hl with | [_, _], _ => rfl
abbrev N_law_made : List Str := ["_law_plain", "_law_tables", "_law_turns", "_law_place"]
theorem sc_law_made : FnScope N_law_made ["_law_plain"] d_law_made.scope := ⟨rfl, rfl, rfl, by decide +kernel, rfl, by decide +kernel, by decide +kernel⟩
theorem bd_law_made (kV doc pm : Value) (an : Option Addr) (cdv ct : Value) (us : List Value) (hl : us.length = (["_law_plain"] : List Str).length) : bindArgs (PySem.W.fnOf d_law_made.name d_law_made.qual d_law_made.params d_law_made.body d_law_made.scope .none kV doc pm an cdv ct) ⟨us, []⟩ = pure ((["_law_plain"] : List Str).zip us) := match us, hl with | [_], _ => rfl
abbrev N_law_digits : List Str := ["_law_bag_here", "_law_digits_here", "_law_digit"]
theorem sc_law_digits : FnScope N_law_digits ["_law_bag_here"] d_law_digits.scope := ⟨rfl, rfl, rfl, by decide +kernel, rfl, by decide +kernel, by decide +kernel⟩
theorem bd_law_digits (kV doc pm : Value) (an : Option Addr) (cdv ct : Value) (us : List Value) (hl : us.length = (["_law_bag_here"] : List Str).length) : bindArgs (PySem.W.fnOf d_law_digits.name d_law_digits.qual d_law_digits.params d_law_digits.body d_law_digits.scope .none kV doc pm an cdv ct) ⟨us, []⟩ = pure ((["_law_bag_here"] : List Str).zip us) := match us, hl with | [_], _ => rfl
abbrev N_law_base_trip : List Str := ["_law_bag_here", "_law_ticks", "_law_top", "_law_tick"]
theorem sc_law_base_trip : FnScope N_law_base_trip ["_law_bag_here", "_law_ticks", "_law_top"] d_law_base_trip.scope := ⟨rfl, rfl, rfl, by decide +kernel, rfl, by decide +kernel, by decide +kernel⟩
theorem bd_law_base_trip (kV doc pm : Value) (an : Option Addr) (cdv ct : Value) (us : List Value) (hl : us.length = (["_law_bag_here", "_law_ticks", "_law_top"] : List Str).length) : bindArgs (PySem.W.fnOf d_law_base_trip.name d_law_base_trip.qual d_law_base_trip.params d_law_base_trip.body d_law_base_trip.scope .none kV doc pm an cdv ct) ⟨us, []⟩ = pure ((["_law_bag_here", "_law_ticks", "_law_top"] : List Str).zip us) := match us, hl with | [_, _, _], _ => rfl
abbrev N_law_true_fact : List Str := ["_law_bag_here", "_law_plain", "_law_trip", "_law_ticks", "_law_counts_here", "_law_choice", "_law_mark", "_law_tick", "_law_digits_here", "_law_digit"]
theorem sc_law_true_fact : FnScope N_law_true_fact ["_law_bag_here", "_law_plain", "_law_trip"] d_law_true_fact.scope := ⟨rfl, rfl, rfl, by decide +kernel, rfl, by decide +kernel, by decide +kernel⟩
theorem bd_law_true_fact (kV doc pm : Value) (an : Option Addr) (cdv ct : Value) (us : List Value) (hl : us.length = (["_law_bag_here", "_law_plain", "_law_trip"] : List Str).length) : bindArgs (PySem.W.fnOf d_law_true_fact.name d_law_true_fact.qual d_law_true_fact.params d_law_true_fact.body d_law_true_fact.scope .none kV doc pm an cdv ct) ⟨us, []⟩ = pure ((["_law_bag_here", "_law_plain", "_law_trip"] : List Str).zip us) := match us, hl with | [_, _, _], _ => rfl
abbrev N_law_tell : List Str := ["_law_record", "_law_fact", "_law_kind", "_law_tick", "_law_told"]
theorem sc_law_tell : FnScope N_law_tell ["_law_record", "_law_fact"] d_law_tell.scope := ⟨rfl, rfl, rfl, by decide +kernel, rfl, by decide +kernel, by decide +kernel⟩
theorem bd_law_tell (kV doc pm : Value) (an : Option Addr) (cdv ct : Value) (us : List Value) (hl : us.length = (["_law_record", "_law_fact"] : List Str).length) : bindArgs (PySem.W.fnOf d_law_tell.name d_law_tell.qual d_law_tell.params d_law_tell.body d_law_tell.scope .none kV doc pm an cdv ct) ⟨us, []⟩ = pure ((["_law_record", "_law_fact"] : List Str).zip us) := match us, hl with | [_, _], _ => rfl
abbrev N_law_left : List Str := ["_law_held", "_law_fact"]
theorem sc_law_left : FnScope N_law_left ["_law_held", "_law_fact"] d_law_left.scope := ⟨rfl, rfl, rfl, by decide +kernel, rfl, by decide +kernel, by decide +kernel⟩
theorem bd_law_left (kV doc pm : Value) (an : Option Addr) (cdv ct : Value) (us : List Value) (hl : us.length = (["_law_held", "_law_fact"] : List Str).length) : bindArgs (PySem.W.fnOf d_law_left.name d_law_left.qual d_law_left.params d_law_left.body d_law_left.scope .none kV doc pm an cdv ct) ⟨us, []⟩ = pure ((["_law_held", "_law_fact"] : List Str).zip us) := match us, hl with | [_, _], _ => rfl
abbrev N_law_left_by : List Str := ["_law_record", "_law_fact", "_law_held"]
theorem sc_law_left_by : FnScope N_law_left_by ["_law_record", "_law_fact"] d_law_left_by.scope := ⟨rfl, rfl, rfl, by decide +kernel, rfl, by decide +kernel, by decide +kernel⟩
theorem bd_law_left_by (kV doc pm : Value) (an : Option Addr) (cdv ct : Value) (us : List Value) (hl : us.length = (["_law_record", "_law_fact"] : List Str).length) : bindArgs (PySem.W.fnOf d_law_left_by.name d_law_left_by.qual d_law_left_by.params d_law_left_by.body d_law_left_by.scope .none kV doc pm an cdv ct) ⟨us, []⟩ = pure ((["_law_record", "_law_fact"] : List Str).zip us) := match us, hl with | [_, _], _ => rfl
abbrev N_law_parts_right : List Str := ["_law_record", "_law_ticks", "_law_mark", "_law_number", "_law_ways", "_law_prices", "_law_speeds", "_law_jumps", "_law_way", "_law_price", "_law_digit", "_law_told"]
theorem sc_law_parts_right : FnScope N_law_parts_right ["_law_record", "_law_ticks", "_law_mark"] d_law_parts_right.scope := ⟨rfl, rfl, rfl, by decide +kernel, rfl, by decide +kernel, by decide +kernel⟩
theorem bd_law_parts_right (kV doc pm : Value) (an : Option Addr) (cdv ct : Value) (us : List Value) (hl : us.length = (["_law_record", "_law_ticks", "_law_mark"] : List Str).length) : bindArgs (PySem.W.fnOf d_law_parts_right.name d_law_parts_right.qual d_law_parts_right.params d_law_parts_right.body d_law_parts_right.scope .none kV doc pm an cdv ct) ⟨us, []⟩ = pure ((["_law_record", "_law_ticks", "_law_mark"] : List Str).zip us) := match us, hl with | [_, _, _], _ => rfl
abbrev N_law_claims_right : List Str := ["_law_record", "_law_ticks", "_law_mark", "_law_ways", "_law_way", "_law_due"]
theorem sc_law_claims_right : FnScope N_law_claims_right ["_law_record", "_law_ticks", "_law_mark"] d_law_claims_right.scope := ⟨rfl, rfl, rfl, by decide +kernel, rfl, by decide +kernel, by decide +kernel⟩
theorem bd_law_claims_right (kV doc pm : Value) (an : Option Addr) (cdv ct : Value) (us : List Value) (hl : us.length = (["_law_record", "_law_ticks", "_law_mark"] : List Str).length) : bindArgs (PySem.W.fnOf d_law_claims_right.name d_law_claims_right.qual d_law_claims_right.params d_law_claims_right.body d_law_claims_right.scope .none kV doc pm an cdv ct) ⟨us, []⟩ = pure ((["_law_record", "_law_ticks", "_law_mark"] : List Str).zip us) := match us, hl with | [_, _, _], _ => rfl
abbrev N_law : List Str := ["_law_script", "_law_bag_here", "_law_plain", "_law_ticks", "_law_top", "_law_trip", "_law_record", "_law_turn", "_law_mark"]
theorem sc_law : FnScope N_law ["_law_script"] d_law.scope := ⟨rfl, rfl, rfl, by decide +kernel, rfl, by decide +kernel, by decide +kernel⟩
theorem bd_law (kV doc pm : Value) (an : Option Addr) (cdv ct : Value) (us : List Value) (hl : us.length = (["_law_script"] : List Str).length) : bindArgs (PySem.W.fnOf d_law.name d_law.qual d_law.params d_law.body d_law.scope .none kV doc pm an cdv ct) ⟨us, []⟩ = pure ((["_law_script"] : List Str).zip us) := match us, hl with | [_], _ => rfl
abbrev N_number_in : List Str := ["word", "most", "sign"]
theorem sc_number_in : FnScope N_number_in ["word", "most"] d_number_in.scope := ⟨rfl, rfl, rfl, by decide +kernel, rfl, by decide +kernel, by decide +kernel⟩
theorem bd_number_in (kV doc pm : Value) (an : Option Addr) (cdv ct : Value) (us : List Value) (hl : us.length = (["word", "most"] : List Str).length) : bindArgs (PySem.W.fnOf d_number_in.name d_number_in.qual d_number_in.params d_number_in.body d_number_in.scope .none kV doc pm an cdv ct) ⟨us, []⟩ = pure ((["word", "most"] : List Str).zip us) := match us, hl with | [_, _], _ => rfl
abbrev N_Table_init : List Str := ["self", "worths"]
theorem sc_Table_init : FnScope N_Table_init ["self", "worths"] d_Table_init.scope := ⟨rfl, rfl, rfl, by decide +kernel, rfl, by decide +kernel, by decide +kernel⟩
theorem bd_Table_init (kV doc pm : Value) (an : Option Addr) (cdv ct : Value) (us : List Value) (hl : us.length = (["self", "worths"] : List Str).length) : bindArgs (PySem.W.fnOf d_Table_init.name d_Table_init.qual d_Table_init.params d_Table_init.body d_Table_init.scope .none kV doc pm an cdv ct) ⟨us, []⟩ = pure ((["self", "worths"] : List Str).zip us) := match us, hl with | [_, _], _ => rfl
abbrev N_Table_getitem : List Str := ["self", "speed"]
theorem sc_Table_getitem : FnScope N_Table_getitem ["self", "speed"] d_Table_getitem.scope := ⟨rfl, rfl, rfl, by decide +kernel, rfl, by decide +kernel, by decide +kernel⟩
theorem bd_Table_getitem (kV doc pm : Value) (an : Option Addr) (cdv ct : Value) (us : List Value) (hl : us.length = (["self", "speed"] : List Str).length) : bindArgs (PySem.W.fnOf d_Table_getitem.name d_Table_getitem.qual d_Table_getitem.params d_Table_getitem.body d_Table_getitem.scope .none kV doc pm an cdv ct) ⟨us, []⟩ = pure ((["self", "speed"] : List Str).zip us) := match us, hl with | [_, _], _ => rfl
abbrev N_Meter_init : List Str := ["self", "first", "drop", "tables", "turns", "flag", "each", "line", "stand", "table", "speed", "goal", "many"]
theorem sc_Meter_init : FnScope N_Meter_init ["self", "first", "drop", "tables", "turns", "flag", "each"] d_Meter_init.scope := ⟨rfl, rfl, rfl, by decide +kernel, rfl, by decide +kernel, by decide +kernel⟩
abbrev N_Meter_table_at : List Str := ["self", "jumps", "turn"]
theorem sc_Meter_table_at : FnScope N_Meter_table_at ["self", "jumps"] d_Meter_table_at.scope := ⟨rfl, rfl, rfl, by decide +kernel, rfl, by decide +kernel, by decide +kernel⟩
theorem bd_Meter_table_at (kV doc pm : Value) (an : Option Addr) (cdv ct : Value) (us : List Value) (hl : us.length = (["self", "jumps"] : List Str).length) : bindArgs (PySem.W.fnOf d_Meter_table_at.name d_Meter_table_at.qual d_Meter_table_at.params d_Meter_table_at.body d_Meter_table_at.scope .none kV doc pm an cdv ct) ⟨us, []⟩ = pure ((["self", "jumps"] : List Str).zip us) := match us, hl with | [_, _], _ => rfl
abbrev N_Meter_jumps_at : List Str := ["self", "count", "first", "drop"]
theorem sc_Meter_jumps_at : FnScope N_Meter_jumps_at ["self", "count"] d_Meter_jumps_at.scope := ⟨rfl, rfl, rfl, by decide +kernel, rfl, by decide +kernel, by decide +kernel⟩
theorem bd_Meter_jumps_at (kV doc pm : Value) (an : Option Addr) (cdv ct : Value) (us : List Value) (hl : us.length = (["self", "count"] : List Str).length) : bindArgs (PySem.W.fnOf d_Meter_jumps_at.name d_Meter_jumps_at.qual d_Meter_jumps_at.params d_Meter_jumps_at.body d_Meter_jumps_at.scope .none kV doc pm an cdv ct) ⟨us, []⟩ = pure ((["self", "count"] : List Str).zip us) := match us, hl with | [_, _], _ => rfl
abbrev N_Meter_count_on : List Str := ["self", "count", "speed"]
theorem sc_Meter_count_on : FnScope N_Meter_count_on ["self", "count", "speed"] d_Meter_count_on.scope := ⟨rfl, rfl, rfl, by decide +kernel, rfl, by decide +kernel, by decide +kernel⟩
theorem bd_Meter_count_on (kV doc pm : Value) (an : Option Addr) (cdv ct : Value) (us : List Value) (hl : us.length = (["self", "count", "speed"] : List Str).length) : bindArgs (PySem.W.fnOf d_Meter_count_on.name d_Meter_count_on.qual d_Meter_count_on.params d_Meter_count_on.body d_Meter_count_on.scope .none kV doc pm an cdv ct) ⟨us, []⟩ = pure ((["self", "count", "speed"] : List Str).zip us) := match us, hl with | [_, _, _], _ => rfl
abbrev N_Meter_price_at : List Str := ["self", "count"]
theorem sc_Meter_price_at : FnScope N_Meter_price_at ["self", "count"] d_Meter_price_at.scope := ⟨rfl, rfl, rfl, by decide +kernel, rfl, by decide +kernel, by decide +kernel⟩
theorem bd_Meter_price_at (kV doc pm : Value) (an : Option Addr) (cdv ct : Value) (us : List Value) (hl : us.length = (["self", "count"] : List Str).length) : bindArgs (PySem.W.fnOf d_Meter_price_at.name d_Meter_price_at.qual d_Meter_price_at.params d_Meter_price_at.body d_Meter_price_at.scope .none kV doc pm an cdv ct) ⟨us, []⟩ = pure ((["self", "count"] : List Str).zip us) := match us, hl with | [_, _], _ => rfl
abbrev N_Meter_last_turn : List Str := ["self"]
theorem sc_Meter_last_turn : FnScope N_Meter_last_turn ["self"] d_Meter_last_turn.scope := ⟨rfl, rfl, rfl, by decide +kernel, rfl, by decide +kernel, by decide +kernel⟩
theorem bd_Meter_last_turn (kV doc pm : Value) (an : Option Addr) (cdv ct : Value) (us : List Value) (hl : us.length = (["self"] : List Str).length) : bindArgs (PySem.W.fnOf d_Meter_last_turn.name d_Meter_last_turn.qual d_Meter_last_turn.params d_Meter_last_turn.body d_Meter_last_turn.scope .none kV doc pm an cdv ct) ⟨us, []⟩ = pure ((["self"] : List Str).zip us) := match us, hl with | [_], _ => rfl
abbrev N_Meter_step_from : List Str := ["self", "stand", "speed", "stage", "left", "worth", "beyond", "many"]
theorem sc_Meter_step_from : FnScope N_Meter_step_from ["self", "stand", "speed"] d_Meter_step_from.scope := ⟨rfl, rfl, rfl, by decide +kernel, rfl, by decide +kernel, by decide +kernel⟩
theorem bd_Meter_step_from (kV doc pm : Value) (an : Option Addr) (cdv ct : Value) (us : List Value) (hl : us.length = (["self", "stand", "speed"] : List Str).length) : bindArgs (PySem.W.fnOf d_Meter_step_from.name d_Meter_step_from.qual d_Meter_step_from.params d_Meter_step_from.body d_Meter_step_from.scope .none kV doc pm an cdv ct) ⟨us, []⟩ = pure ((["self", "stand", "speed"] : List Str).zip us) := match us, hl with | [_, _, _], _ => rfl
abbrev N_RecordTrial_init : List Str := ["self", "record"]
theorem sc_RecordTrial_init : FnScope N_RecordTrial_init ["self", "record"] d_RecordTrial_init.scope := ⟨rfl, rfl, rfl, by decide +kernel, rfl, by decide +kernel, by decide +kernel⟩
theorem bd_RecordTrial_init (kV doc pm : Value) (an : Option Addr) (cdv ct : Value) (us : List Value) (hl : us.length = (["self", "record"] : List Str).length) : bindArgs (PySem.W.fnOf d_RecordTrial_init.name d_RecordTrial_init.qual d_RecordTrial_init.params d_RecordTrial_init.body d_RecordTrial_init.scope .none kV doc pm an cdv ct) ⟨us, []⟩ = pure ((["self", "record"] : List Str).zip us) := match us, hl with | [_, _], _ => rfl
abbrev N_RecordTrial_enter : List Str := ["self"]
theorem sc_RecordTrial_enter : FnScope N_RecordTrial_enter ["self"] d_RecordTrial_enter.scope := ⟨rfl, rfl, rfl, by decide +kernel, rfl, by decide +kernel, by decide +kernel⟩
theorem bd_RecordTrial_enter (kV doc pm : Value) (an : Option Addr) (cdv ct : Value) (us : List Value) (hl : us.length = (["self"] : List Str).length) : bindArgs (PySem.W.fnOf d_RecordTrial_enter.name d_RecordTrial_enter.qual d_RecordTrial_enter.params d_RecordTrial_enter.body d_RecordTrial_enter.scope .none kV doc pm an cdv ct) ⟨us, []⟩ = pure ((["self"] : List Str).zip us) := match us, hl with | [_], _ => rfl
abbrev N_RecordTrial_exit : List Str := ["self", "kind", "value", "trace"]
theorem sc_RecordTrial_exit : FnScope N_RecordTrial_exit ["self", "kind", "value", "trace"] d_RecordTrial_exit.scope := ⟨rfl, rfl, rfl, by decide +kernel, rfl, by decide +kernel, by decide +kernel⟩
theorem bd_RecordTrial_exit (kV doc pm : Value) (an : Option Addr) (cdv ct : Value) (us : List Value) (hl : us.length = (["self", "kind", "value", "trace"] : List Str).length) : bindArgs (PySem.W.fnOf d_RecordTrial_exit.name d_RecordTrial_exit.qual d_RecordTrial_exit.params d_RecordTrial_exit.body d_RecordTrial_exit.scope .none kV doc pm an cdv ct) ⟨us, []⟩ = pure ((["self", "kind", "value", "trace"] : List Str).zip us) := match us, hl with | [_, _, _, _], _ => rfl
abbrev N_Record_init : List Str := ["self", "meter", "ticks", "top"]
theorem sc_Record_init : FnScope N_Record_init ["self", "meter", "ticks", "top"] d_Record_init.scope := ⟨rfl, rfl, rfl, by decide +kernel, rfl, by decide +kernel, by decide +kernel⟩
abbrev N_Record_len : List Str := ["self"]
theorem sc_Record_len : FnScope N_Record_len ["self"] d_Record_len.scope := ⟨rfl, rfl, rfl, by decide +kernel, rfl, by decide +kernel, by decide +kernel⟩
theorem bd_Record_len (kV doc pm : Value) (an : Option Addr) (cdv ct : Value) (us : List Value) (hl : us.length = (["self"] : List Str).length) : bindArgs (PySem.W.fnOf d_Record_len.name d_Record_len.qual d_Record_len.params d_Record_len.body d_Record_len.scope .none kV doc pm an cdv ct) ⟨us, []⟩ = pure ((["self"] : List Str).zip us) := match us, hl with | [_], _ => rfl
abbrev N_Record_check_tick : List Str := ["self", "tick", "last"]
theorem sc_Record_check_tick : FnScope N_Record_check_tick ["self", "tick", "last"] d_Record_check_tick.scope := ⟨rfl, rfl, rfl, by decide +kernel, rfl, by decide +kernel, by decide +kernel⟩
theorem bd_Record_check_tick (kV doc pm : Value) (an : Option Addr) (cdv ct : Value) (us : List Value) (hl : us.length = (["self", "tick", "last"] : List Str).length) : bindArgs (PySem.W.fnOf d_Record_check_tick.name d_Record_check_tick.qual d_Record_check_tick.params d_Record_check_tick.body d_Record_check_tick.scope .none kV doc pm an cdv ct) ⟨us, []⟩ = pure ((["self", "tick", "last"] : List Str).zip us) := match us, hl with | [_, _, _], _ => rfl
abbrev N_Record_take_in : List Str := ["self", "fact"]
theorem sc_Record_take_in : FnScope N_Record_take_in ["self", "fact"] d_Record_take_in.scope := ⟨rfl, rfl, rfl, by decide +kernel, rfl, by decide +kernel, by decide +kernel⟩
theorem bd_Record_take_in (kV doc pm : Value) (an : Option Addr) (cdv ct : Value) (us : List Value) (hl : us.length = (["self", "fact"] : List Str).length) : bindArgs (PySem.W.fnOf d_Record_take_in.name d_Record_take_in.qual d_Record_take_in.params d_Record_take_in.body d_Record_take_in.scope .none kV doc pm an cdv ct) ⟨us, []⟩ = pure ((["self", "fact"] : List Str).zip us) := match us, hl with | [_, _], _ => rfl
abbrev N_Record_getitem : List Str := ["self", "tick", "left", "kind", "at", "told", "digit"]
theorem sc_Record_getitem : FnScope N_Record_getitem ["self", "tick"] d_Record_getitem.scope := ⟨rfl, rfl, rfl, by decide +kernel, rfl, by decide +kernel, by decide +kernel⟩
theorem bd_Record_getitem (kV doc pm : Value) (an : Option Addr) (cdv ct : Value) (us : List Value) (hl : us.length = (["self", "tick"] : List Str).length) : bindArgs (PySem.W.fnOf d_Record_getitem.name d_Record_getitem.qual d_Record_getitem.params d_Record_getitem.body d_Record_getitem.scope .none kV doc pm an cdv ct) ⟨us, []⟩ = pure ((["self", "tick"] : List Str).zip us) := match us, hl with | [_, _], _ => rfl
abbrev N_Record_only : List Str := ["self", "tick", "speeds"]
theorem sc_Record_only : FnScope N_Record_only ["self", "tick", "speeds"] d_Record_only.scope := ⟨rfl, rfl, rfl, by decide +kernel, rfl, by decide +kernel, by decide +kernel⟩
theorem bd_Record_only (kV doc pm : Value) (an : Option Addr) (cdv ct : Value) (us : List Value) (hl : us.length = (["self", "tick", "speeds"] : List Str).length) : bindArgs (PySem.W.fnOf d_Record_only.name d_Record_only.qual d_Record_only.params d_Record_only.body d_Record_only.scope .none kV doc pm an cdv ct) ⟨us, []⟩ = pure ((["self", "tick", "speeds"] : List Str).zip us) := match us, hl with | [_, _, _], _ => rfl
abbrev N_Record_passed : List Str := ["self", "tick", "way"]
theorem sc_Record_passed : FnScope N_Record_passed ["self", "tick", "way"] d_Record_passed.scope := ⟨rfl, rfl, rfl, by decide +kernel, rfl, by decide +kernel, by decide +kernel⟩
theorem bd_Record_passed (kV doc pm : Value) (an : Option Addr) (cdv ct : Value) (us : List Value) (hl : us.length = (["self", "tick", "way"] : List Str).length) : bindArgs (PySem.W.fnOf d_Record_passed.name d_Record_passed.qual d_Record_passed.params d_Record_passed.body d_Record_passed.scope .none kV doc pm an cdv ct) ⟨us, []⟩ = pure ((["self", "tick", "way"] : List Str).zip us) := match us, hl with | [_, _, _], _ => rfl
abbrev N_Record_showed : List Str := ["self", "tick", "price"]
theorem sc_Record_showed : FnScope N_Record_showed ["self", "tick", "price"] d_Record_showed.scope := ⟨rfl, rfl, rfl, by decide +kernel, rfl, by decide +kernel, by decide +kernel⟩
theorem bd_Record_showed (kV doc pm : Value) (an : Option Addr) (cdv ct : Value) (us : List Value) (hl : us.length = (["self", "tick", "price"] : List Str).length) : bindArgs (PySem.W.fnOf d_Record_showed.name d_Record_showed.qual d_Record_showed.params d_Record_showed.body d_Record_showed.scope .none kV doc pm an cdv ct) ⟨us, []⟩ = pure ((["self", "tick", "price"] : List Str).zip us) := match us, hl with | [_, _, _], _ => rfl
abbrev N_Record_jumped : List Str := ["self", "tick", "told"]
theorem sc_Record_jumped : FnScope N_Record_jumped ["self", "tick", "told"] d_Record_jumped.scope := ⟨rfl, rfl, rfl, by decide +kernel, rfl, by decide +kernel, by decide +kernel⟩
theorem bd_Record_jumped (kV doc pm : Value) (an : Option Addr) (cdv ct : Value) (us : List Value) (hl : us.length = (["self", "tick", "told"] : List Str).length) : bindArgs (PySem.W.fnOf d_Record_jumped.name d_Record_jumped.qual d_Record_jumped.params d_Record_jumped.body d_Record_jumped.scope .none kV doc pm an cdv ct) ⟨us, []⟩ = pure ((["self", "tick", "told"] : List Str).zip us) := match us, hl with | [_, _, _], _ => rfl
abbrev N_Record_agrees_at : List Str := ["self", "mark", "place", "kind", "at", "told"]
theorem sc_Record_agrees_at : FnScope N_Record_agrees_at ["self", "mark", "place"] d_Record_agrees_at.scope := ⟨rfl, rfl, rfl, by decide +kernel, rfl, by decide +kernel, by decide +kernel⟩
theorem bd_Record_agrees_at (kV doc pm : Value) (an : Option Addr) (cdv ct : Value) (us : List Value) (hl : us.length = (["self", "mark", "place"] : List Str).length) : bindArgs (PySem.W.fnOf d_Record_agrees_at.name d_Record_agrees_at.qual d_Record_agrees_at.params d_Record_agrees_at.body d_Record_agrees_at.scope .none kV doc pm an cdv ct) ⟨us, []⟩ = pure ((["self", "mark", "place"] : List Str).zip us) := match us, hl with | [_, _, _], _ => rfl
abbrev N_Record_agrees_in : List Str := ["self", "tick", "count", "goal", "jumps", "told", "fact", "tell"]
theorem sc_Record_agrees_in : FnScope N_Record_agrees_in ["self", "tick", "count", "goal"] d_Record_agrees_in.scope := ⟨rfl, rfl, rfl, by decide +kernel, rfl, by decide +kernel, by decide +kernel⟩
theorem bd_Record_agrees_in (kV doc pm : Value) (an : Option Addr) (cdv ct : Value) (us : List Value) (hl : us.length = (["self", "tick", "count", "goal"] : List Str).length) : bindArgs (PySem.W.fnOf d_Record_agrees_in.name d_Record_agrees_in.qual d_Record_agrees_in.params d_Record_agrees_in.body d_Record_agrees_in.scope .none kV doc pm an cdv ct) ⟨us, []⟩ = pure ((["self", "tick", "count", "goal"] : List Str).zip us) := match us, hl with | [_, _, _, _], _ => rfl
abbrev N_Record_steps_from : List Str := ["self", "tick", "place", "found", "digit", "goal"]
theorem sc_Record_steps_from : FnScope N_Record_steps_from ["self", "tick", "place"] d_Record_steps_from.scope := ⟨rfl, rfl, rfl, by decide +kernel, rfl, by decide +kernel, by decide +kernel⟩
theorem bd_Record_steps_from (kV doc pm : Value) (an : Option Addr) (cdv ct : Value) (us : List Value) (hl : us.length = (["self", "tick", "place"] : List Str).length) : bindArgs (PySem.W.fnOf d_Record_steps_from.name d_Record_steps_from.qual d_Record_steps_from.params d_Record_steps_from.body d_Record_steps_from.scope .none kV doc pm an cdv ct) ⟨us, []⟩ = pure ((["self", "tick", "place"] : List Str).zip us) := match us, hl with | [_, _, _], _ => rfl
abbrev N_Record_begins : List Str := ["self"]
theorem sc_Record_begins : FnScope N_Record_begins ["self"] d_Record_begins.scope := ⟨rfl, rfl, rfl, by decide +kernel, rfl, by decide +kernel, by decide +kernel⟩
theorem bd_Record_begins (kV doc pm : Value) (an : Option Addr) (cdv ct : Value) (us : List Value) (hl : us.length = (["self"] : List Str).length) : bindArgs (PySem.W.fnOf d_Record_begins.name d_Record_begins.qual d_Record_begins.params d_Record_begins.body d_Record_begins.scope .none kV doc pm an cdv ct) ⟨us, []⟩ = pure ((["self"] : List Str).zip us) := match us, hl with | [_], _ => rfl
abbrev N_Record_numbers_ahead : List Str := ["self", "found", "tick", "now", "place", "digit", "goal"]
theorem sc_Record_numbers_ahead : FnScope N_Record_numbers_ahead ["self"] d_Record_numbers_ahead.scope := ⟨rfl, rfl, rfl, by decide +kernel, rfl, by decide +kernel, by decide +kernel⟩
theorem bd_Record_numbers_ahead (kV doc pm : Value) (an : Option Addr) (cdv ct : Value) (us : List Value) (hl : us.length = (["self"] : List Str).length) : bindArgs (PySem.W.fnOf d_Record_numbers_ahead.name d_Record_numbers_ahead.qual d_Record_numbers_ahead.params d_Record_numbers_ahead.body d_Record_numbers_ahead.scope .none kV doc pm an cdv ct) ⟨us, []⟩ = pure ((["self"] : List Str).zip us) := match us, hl with | [_], _ => rfl
abbrev N_Record_numbers_behind : List Str := ["self", "ahead", "found", "tick", "now", "place", "number", "digit", "goal"]
theorem sc_Record_numbers_behind : FnScope N_Record_numbers_behind ["self"] d_Record_numbers_behind.scope := ⟨rfl, rfl, rfl, by decide +kernel, rfl, by decide +kernel, by decide +kernel⟩
theorem bd_Record_numbers_behind (kV doc pm : Value) (an : Option Addr) (cdv ct : Value) (us : List Value) (hl : us.length = (["self"] : List Str).length) : bindArgs (PySem.W.fnOf d_Record_numbers_behind.name d_Record_numbers_behind.qual d_Record_numbers_behind.params d_Record_numbers_behind.body d_Record_numbers_behind.scope .none kV doc pm an cdv ct) ⟨us, []⟩ = pure ((["self"] : List Str).zip us) := match us, hl with | [_], _ => rfl
abbrev N_Record_fits : List Str := ["self", "trip", "places", "tick", "place", "digit", "goal"]
theorem sc_Record_fits : FnScope N_Record_fits ["self", "trip"] d_Record_fits.scope := ⟨rfl, rfl, rfl, by decide +kernel, rfl, by decide +kernel, by decide +kernel⟩
theorem bd_Record_fits (kV doc pm : Value) (an : Option Addr) (cdv ct : Value) (us : List Value) (hl : us.length = (["self", "trip"] : List Str).length) : bindArgs (PySem.W.fnOf d_Record_fits.name d_Record_fits.qual d_Record_fits.params d_Record_fits.body d_Record_fits.scope .none kV doc pm an cdv ct) ⟨us, []⟩ = pure ((["self", "trip"] : List Str).zip us) := match us, hl with | [_, _], _ => rfl
abbrev N_Record_how_many : List Str := ["self"]
theorem sc_Record_how_many : FnScope N_Record_how_many ["self"] d_Record_how_many.scope := ⟨rfl, rfl, rfl, by decide +kernel, rfl, by decide +kernel, by decide +kernel⟩
theorem bd_Record_how_many (kV doc pm : Value) (an : Option Addr) (cdv ct : Value) (us : List Value) (hl : us.length = (["self"] : List Str).length) : bindArgs (PySem.W.fnOf d_Record_how_many.name d_Record_how_many.qual d_Record_how_many.params d_Record_how_many.body d_Record_how_many.scope .none kV doc pm an cdv ct) ⟨us, []⟩ = pure ((["self"] : List Str).zip us) := match us, hl with | [_], _ => rfl
abbrev N_Record_open_steps : List Str := ["self", "behind", "found", "tick", "steps", "place", "goes", "digit", "goal"]
theorem sc_Record_open_steps : FnScope N_Record_open_steps ["self"] d_Record_open_steps.scope := ⟨rfl, rfl, rfl, by decide +kernel, rfl, by decide +kernel, by decide +kernel⟩
theorem bd_Record_open_steps (kV doc pm : Value) (an : Option Addr) (cdv ct : Value) (us : List Value) (hl : us.length = (["self"] : List Str).length) : bindArgs (PySem.W.fnOf d_Record_open_steps.name d_Record_open_steps.qual d_Record_open_steps.params d_Record_open_steps.body d_Record_open_steps.scope .none kV doc pm an cdv ct) ⟨us, []⟩ = pure ((["self"] : List Str).zip us) := match us, hl with | [_], _ => rfl
abbrev N_Record_ways : List Str := ["self", "tick", "place"]
theorem sc_Record_ways : FnScope N_Record_ways ["self", "tick"] d_Record_ways.scope := ⟨rfl, rfl, rfl, by decide +kernel, rfl, by decide +kernel, by decide +kernel⟩
theorem bd_Record_ways (kV doc pm : Value) (an : Option Addr) (cdv ct : Value) (us : List Value) (hl : us.length = (["self", "tick"] : List Str).length) : bindArgs (PySem.W.fnOf d_Record_ways.name d_Record_ways.qual d_Record_ways.params d_Record_ways.body d_Record_ways.scope .none kV doc pm an cdv ct) ⟨us, []⟩ = pure ((["self", "tick"] : List Str).zip us) := match us, hl with | [_, _], _ => rfl
abbrev N_Record_prices : List Str := ["self", "tick", "place"]
theorem sc_Record_prices : FnScope N_Record_prices ["self", "tick"] d_Record_prices.scope := ⟨rfl, rfl, rfl, by decide +kernel, rfl, by decide +kernel, by decide +kernel⟩
theorem bd_Record_prices (kV doc pm : Value) (an : Option Addr) (cdv ct : Value) (us : List Value) (hl : us.length = (["self", "tick"] : List Str).length) : bindArgs (PySem.W.fnOf d_Record_prices.name d_Record_prices.qual d_Record_prices.params d_Record_prices.body d_Record_prices.scope .none kV doc pm an cdv ct) ⟨us, []⟩ = pure ((["self", "tick"] : List Str).zip us) := match us, hl with | [_, _], _ => rfl
abbrev N_Record_speeds : List Str := ["self", "tick", "place", "digit", "goal"]
theorem sc_Record_speeds : FnScope N_Record_speeds ["self", "tick"] d_Record_speeds.scope := ⟨rfl, rfl, rfl, by decide +kernel, rfl, by decide +kernel, by decide +kernel⟩
theorem bd_Record_speeds (kV doc pm : Value) (an : Option Addr) (cdv ct : Value) (us : List Value) (hl : us.length = (["self", "tick"] : List Str).length) : bindArgs (PySem.W.fnOf d_Record_speeds.name d_Record_speeds.qual d_Record_speeds.params d_Record_speeds.body d_Record_speeds.scope .none kV doc pm an cdv ct) ⟨us, []⟩ = pure ((["self", "tick"] : List Str).zip us) := match us, hl with | [_, _], _ => rfl
abbrev N_Record_trial : List Str := ["self"]
theorem sc_Record_trial : FnScope N_Record_trial ["self"] d_Record_trial.scope := ⟨rfl, rfl, rfl, by decide +kernel, rfl, by decide +kernel, by decide +kernel⟩
theorem bd_Record_trial (kV doc pm : Value) (an : Option Addr) (cdv ct : Value) (us : List Value) (hl : us.length = (["self"] : List Str).length) : bindArgs (PySem.W.fnOf d_Record_trial.name d_Record_trial.qual d_Record_trial.params d_Record_trial.body d_Record_trial.scope .none kV doc pm an cdv ct) ⟨us, []⟩ = pure ((["self"] : List Str).zip us) := match us, hl with | [_], _ => rfl
abbrev N_Record_tried : List Str := ["self", "deed", "result"]
theorem sc_Record_tried : FnScope N_Record_tried ["self", "deed"] d_Record_tried.scope := ⟨rfl, rfl, rfl, by decide +kernel, rfl, by decide +kernel, by decide +kernel⟩
theorem bd_Record_tried (kV doc pm : Value) (an : Option Addr) (cdv ct : Value) (us : List Value) (hl : us.length = (["self", "deed"] : List Str).length) : bindArgs (PySem.W.fnOf d_Record_tried.name d_Record_tried.qual d_Record_tried.params d_Record_tried.body d_Record_tried.scope .none kV doc pm an cdv ct) ⟨us, []⟩ = pure ((["self", "deed"] : List Str).zip us) := match us, hl with | [_, _], _ => rfl
abbrev N_Meter_drop : List Str := ["self"]
theorem sc_Meter_drop : FnScope N_Meter_drop ["self"] d_Meter_drop.scope := ⟨rfl, rfl, rfl, by decide +kernel, rfl, by decide +kernel, by decide +kernel⟩
theorem bd_Meter_drop (kV doc pm : Value) (an : Option Addr) (cdv ct : Value) (us : List Value) (hl : us.length = (["self"] : List Str).length) : bindArgs (PySem.W.fnOf d_Meter_drop.name d_Meter_drop.qual d_Meter_drop.params d_Meter_drop.body d_Meter_drop.scope .none kV doc pm an cdv ct) ⟨us, []⟩ = pure ((["self"] : List Str).zip us) := match us, hl with | [_], _ => rfl
abbrev N_Meter_flag : List Str := ["self"]
theorem sc_Meter_flag : FnScope N_Meter_flag ["self"] d_Meter_flag.scope := ⟨rfl, rfl, rfl, by decide +kernel, rfl, by decide +kernel, by decide +kernel⟩
theorem bd_Meter_flag (kV doc pm : Value) (an : Option Addr) (cdv ct : Value) (us : List Value) (hl : us.length = (["self"] : List Str).length) : bindArgs (PySem.W.fnOf d_Meter_flag.name d_Meter_flag.qual d_Meter_flag.params d_Meter_flag.body d_Meter_flag.scope .none kV doc pm an cdv ct) ⟨us, []⟩ = pure ((["self"] : List Str).zip us) := match us, hl with | [_], _ => rfl
abbrev N_Meter_each : List Str := ["self"]
theorem sc_Meter_each : FnScope N_Meter_each ["self"] d_Meter_each.scope := ⟨rfl, rfl, rfl, by decide +kernel, rfl, by decide +kernel, by decide +kernel⟩
theorem bd_Meter_each (kV doc pm : Value) (an : Option Addr) (cdv ct : Value) (us : List Value) (hl : us.length = (["self"] : List Str).length) : bindArgs (PySem.W.fnOf d_Meter_each.name d_Meter_each.qual d_Meter_each.params d_Meter_each.body d_Meter_each.scope .none kV doc pm an cdv ct) ⟨us, []⟩ = pure ((["self"] : List Str).zip us) := match us, hl with | [_], _ => rfl
abbrev N_Meter_start : List Str := ["self"]
theorem sc_Meter_start : FnScope N_Meter_start ["self"] d_Meter_start.scope := ⟨rfl, rfl, rfl, by decide +kernel, rfl, by decide +kernel, by decide +kernel⟩
theorem bd_Meter_start (kV doc pm : Value) (an : Option Addr) (cdv ct : Value) (us : List Value) (hl : us.length = (["self"] : List Str).length) : bindArgs (PySem.W.fnOf d_Meter_start.name d_Meter_start.qual d_Meter_start.params d_Meter_start.body d_Meter_start.scope .none kV doc pm an cdv ct) ⟨us, []⟩ = pure ((["self"] : List Str).zip us) := match us, hl with | [_], _ => rfl
abbrev N_Record_meter : List Str := ["self"]
theorem sc_Record_meter : FnScope N_Record_meter ["self"] d_Record_meter.scope := ⟨rfl, rfl, rfl, by decide +kernel, rfl, by decide +kernel, by decide +kernel⟩
theorem bd_Record_meter (kV doc pm : Value) (an : Option Addr) (cdv ct : Value) (us : List Value) (hl : us.length = (["self"] : List Str).length) : bindArgs (PySem.W.fnOf d_Record_meter.name d_Record_meter.qual d_Record_meter.params d_Record_meter.body d_Record_meter.scope .none kV doc pm an cdv ct) ⟨us, []⟩ = pure ((["self"] : List Str).zip us) := match us, hl with | [_], _ => rfl
abbrev N_Table_either : List Str := ["cls", "time", "way", "speed"]
theorem sc_Table_either : FnScope N_Table_either ["cls", "time", "way"] d_Table_either.scope := ⟨rfl, rfl, rfl, by decide +kernel, rfl, by decide +kernel, by decide +kernel⟩
theorem bd_Table_either (kV doc pm : Value) (an : Option Addr) (cdv ct : Value) (us : List Value) (hl : us.length = (["cls", "time", "way"] : List Str).length) : bindArgs (PySem.W.fnOf d_Table_either.name d_Table_either.qual d_Table_either.params d_Table_either.body d_Table_either.scope .none kV doc pm an cdv ct) ⟨us, []⟩ = pure ((["cls", "time", "way"] : List Str).zip us) := match us, hl with | [_, _, _], _ => rfl
abbrev N_Table_both : List Str := ["cls", "time", "way", "speed"]
theorem sc_Table_both : FnScope N_Table_both ["cls", "time", "way"] d_Table_both.scope := ⟨rfl, rfl, rfl, by decide +kernel, rfl, by decide +kernel, by decide +kernel⟩
theorem bd_Table_both (kV doc pm : Value) (an : Option Addr) (cdv ct : Value) (us : List Value) (hl : us.length = (["cls", "time", "way"] : List Str).length) : bindArgs (PySem.W.fnOf d_Table_both.name d_Table_both.qual d_Table_both.params d_Table_both.body d_Table_both.scope .none kV doc pm an cdv ct) ⟨us, []⟩ = pure ((["cls", "time", "way"] : List Str).zip us) := match us, hl with | [_, _, _], _ => rfl
abbrev N_Table_changing : List Str := ["cls", "time", "way", "speed", "own"]
theorem sc_Table_changing : FnScope N_Table_changing ["cls", "time", "way", "speed"] d_Table_changing.scope := ⟨rfl, rfl, rfl, by decide +kernel, rfl, by decide +kernel, by decide +kernel⟩
theorem bd_Table_changing (kV doc pm : Value) (an : Option Addr) (cdv ct : Value) (us : List Value) (hl : us.length = (["cls", "time", "way", "speed"] : List Str).length) : bindArgs (PySem.W.fnOf d_Table_changing.name d_Table_changing.qual d_Table_changing.params d_Table_changing.body d_Table_changing.scope .none kV doc pm an cdv ct) ⟨us, []⟩ = pure ((["cls", "time", "way", "speed"] : List Str).zip us) := match us, hl with | [_, _, _, _], _ => rfl
abbrev N_Table_read : List Str := ["cls", "text", "words", "worths", "word", "worth"]
theorem sc_Table_read : FnScope N_Table_read ["cls", "text"] d_Table_read.scope := ⟨rfl, rfl, rfl, by decide +kernel, rfl, by decide +kernel, by decide +kernel⟩
theorem bd_Table_read (kV doc pm : Value) (an : Option Addr) (cdv ct : Value) (us : List Value) (hl : us.length = (["cls", "text"] : List Str).length) : bindArgs (PySem.W.fnOf d_Table_read.name d_Table_read.qual d_Table_read.params d_Table_read.body d_Table_read.scope .none kV doc pm an cdv ct) ⟨us, []⟩ = pure ((["cls", "text"] : List Str).zip us) := match us, hl with | [_, _], _ => rfl
end Cab
/-! text Cab1 -/
set_option Elab.async false
set_option linter.all false
set_option maxRecDepth 100000
set_option maxHeartbeats 2000000
namespace Cab
open PySem PySem.Spec PyProof.Rows L2 He

/-! ### texts of digits -/
def dg (n : Nat) : Str := ⟨#[48 + n]⟩
def tx (l : List Nat) : Str := ⟨(l.map (48 + ·)).toArray⟩
theorem tx_len (l : List Nat) : (tx l).length = l.length := by show ((l.map (48 + ·)).toArray).size = _; simp
theorem tx_size (l : List Nat) : (tx l).cps.size = l.length := tx_len l
theorem tx_at (l : List Nat) (i c : Nat) (h : (tx l).cps[i]? = some c) : ∃ n, l[i]? = some n ∧ c = 48 + n := by
  have h1 : ((l.map (48 + ·)).toArray)[i]? = some c := h
  rw [List.getElem?_toArray, List.getElem?_map] at h1
  cases e : l[i]? with
  | none => rw [e] at h1; cases h1
  | some n => rw [e] at h1; exact ⟨n, rfl, (Option.some.inj h1).symm⟩
theorem digits_list : (Str.ofString "0123456789").cps.toList = [48, 49, 50, 51, 52, 53, 54, 55, 56, 57] := by decide +kernel
theorem dig_in {n : Nat} (h : n < 10) : decide (48 + n ∈ (Str.ofString "0123456789").cps.toList) = true := by
  rw [digits_list]
  have : n = 0 ∨ n = 1 ∨ n = 2 ∨ n = 3 ∨ n = 4 ∨ n = 5 ∨ n = 6 ∨ n = 7 ∨ n = 8 ∨ n = 9 := by omega
  rcases this with h | h | h | h | h | h | h | h | h | h <;> subst h <;> decide
theorem map_rep {α β : Type} (f : α → β) (n : Nat) (a : α) : (List.replicate n a).map f = List.replicate n (f a) := by simp
theorem all_rep (n : Nat) : (List.replicate n true).all id = true := by simp

section
variable {P : Program} {w : World} {K : PySem.W.Frag} {mg : Str → Option Value} {base : Heap}
theorem ws_guard {X : Cx} {c : Expr} {sa : List Stmt} {D : Ends} {σ : L2.St} {H : Hp} {pos : Pos} (h : WT X c σ H fun b H1 => b = false ∧ D.nx σ H1) : WS X (.If c sa [] pos) D σ H :=
  ws_if (WT.mono h fun b H1 ⟨e, q⟩ => by subst e; exact iteF (wb_nil q))
def spWhole : Sp := sp1 fun v H Q => ∃ i : Int, v = .int i ∧ Q (.bl true) H
theorem ok_is_whole (T : TX K mg) : FnP P w K mg base d_is_whole 1 ["value"] spWhole [] := by
  refine fn1 (T.d D_is_whole) rfl sc_is_whole bd_is_whole fun cdv A outer s H Q E a hr h => ?_
  obtain ⟨i, rfl, q⟩ := h
  refine wb_cons (ws_ret (we_and ?_))
  refine we_isi "int" (T.fr f_isinstance) (T.fr f_int) (by decide +kernel) (we_var 0 rfl ⟨"int", true, .base (.int i), by decide +kernel, true, rfl, iteT (we_one (we_not ?_))⟩)
  exact we_isi "bool" (T.fr f_isinstance) (T.fr f_bool) (by decide +kernel) (we_var 0 rfl ⟨"int", false, .base (.int i), by decide +kernel, false, rfl, q⟩)
def spBetween : Sp := sp3 fun v a b H Q => ∃ i l m : Int, v = .int i ∧ a = .int l ∧ b = .int m ∧ Q (.bl (decide (l ≤ i ∧ i ≤ m))) H
theorem ok_is_between (T : TX K mg) : FnP P w K mg base d_is_between 2 ["value", "least", "most"] spBetween [] := by
  refine fn3 (T.d D_is_between) rfl sc_is_between bd_is_between fun cdv A outer s H Q E v a b hr h => ?_
  obtain ⟨i, l, m, rfl, rfl, rfl, q⟩ := h
  refine wb_cons (ws_ret (we_and ?_))
  refine we_call (ok_is_whole T) (T.g g_is_whole) hr (wa_cons (we_var 0 rfl (wa_nil ⟨_, rfl, i, rfl, true, rfl, iteT (we_one ?_)⟩)))
  refine we_chain op_le op_le (we_var 1 rfl (we_var 0 rfl ⟨l, i, rfl, rfl, _, rfl, ?_⟩))
  by_cases h1 : l ≤ i
  · rw [decide_eq_true h1]
    refine iteT (we_var 2 rfl ⟨i, m, rfl, rfl, ?_⟩)
    have e : decide (l ≤ i ∧ i ≤ m) = decide (i ≤ m) := by simp [h1]
    rw [e] at q
    exact q
  · rw [decide_eq_false h1]
    have e : decide (l ≤ i ∧ i ≤ m) = false := by simp [h1]
    rw [e] at q
    exact iteF q
def spSpeed : Sp := sp1 fun v H Q => ∃ i : Int, v = .int i ∧ Q (.bl (decide (0 ≤ i ∧ i ≤ 9))) H
theorem ok_is_speed (T : TX K mg) : FnP P w K mg base d_is_speed 3 ["value"] spSpeed [] := by
  refine fn1 (T.d D_is_speed) rfl sc_is_speed bd_is_speed fun cdv A outer s H Q E a hr h => ?_
  obtain ⟨i, rfl, q⟩ := h
  obtain ⟨u, mu, ru⟩ := T.i i_GREATEST_SPEED
  refine wb_cons (ws_ret ?_)
  exact we_call (ok_is_between T) (T.g g_is_between) hr (wa_cons (we_var 0 rfl (wa_cons (we_int (wa_cons (we_glob mu ru (wa_nil ⟨_, _, _, rfl, i, 0, 9, rfl, rfl, rfl, q⟩)))))))
/-- a trip's text -/
def spTrip : Sp := sp1 fun v H Q => ∃ l : List Nat, v = .str (tx l) ∧ (∀ n ∈ l, n < 10) ∧ l.length ≤ 2000 ∧ ∀ H', Same H H' → Q (.bl true) H'
theorem ok_is_trip (T : TX K mg) : FnP P w K mg base d_is_trip 1 ["value"] spTrip [] := by
  refine fn1 (T.d D_is_trip) rfl sc_is_trip bd_is_trip fun cdv A outer s H Q E a hr h => ?_
  obtain ⟨l, rfl, hl, hz, q⟩ := h
  obtain ⟨u, mu, ru⟩ := T.i i_MOST_TICKS
  obtain ⟨u2, mu2, ru2⟩ := T.s s_DIGITS
  refine wb_cons (ws_guard (wt_W (ww_or (wt_not (wt_val ?_)))))
  refine we_isi "str" (T.fr f_isinstance) (T.fr f_str) (by decide +kernel) (we_var 0 rfl ⟨"str", true, .base (.str _), by decide +kernel, true, rfl, iteF (ww_or1 ?_)⟩)
  refine wt_cmp op_gt (we_blt call_len_str (T.fr f_len) boot_len (wa_cons (we_var 0 rfl (wa_nil ⟨_, rfl, by rw [tx_len]; exact sz_le (by omega), ?_⟩))))
  refine we_glob mu ru ⟨_, _, rfl, rfl, _, rfl, ?_, ?_⟩
  · rw [tx_len]
    exact decide_eq_false (by omega)
  refine wb_cons (ws_ret (we_blt (cr_all rfl) (T.fr f_all) (by decide +kernel) (wa_cons ?_)))
  refine we_lc sc_is_trip [("digit", 1)] (wi_str (we_var 0 rfl ⟨_, rfl, _, _, _, walk_str, fun D hD => ⟨fun i acc H' => acc = List.replicate i (.bl true) ∧ Same H H', fun H' s' _ => ⟨rfl, s'⟩, fun _ _ _ _ _ _ => trivial, ?_, by rw [tx_size]; omega, ?_⟩⟩))
  · rintro i acc x H1 H2 hi hacc ⟨ea, s1⟩ hDl ⟨rfl, c, hc, rfl⟩
    obtain ⟨n, hn, rfl⟩ := tx_at l i c hc
    intro s0 H0 C cl fp
    refine wg_name 1 ⟨rfl, fun s0 H0 C cl fp => wts_nil (iteT fun s0 H0 C cl fp => ?_)⟩ sc_is_trip.nd
    refine we_cmp op_in_sign (we_var 1 rfl (we_glob mu2 ru2 ⟨_, _, rfl, rfl, ?_⟩))
    rw [dig_in (hl n (List.mem_of_getElem? hn))]
    refine ⟨hDl, fun H5 b5 e5 => ⟨?_, But.of_new s1 hD b5⟩⟩
    rw [ea, List.replicate_succ']
  · rintro acc H1 hacc ⟨ea, s1⟩ hDl
    refine wa_nil ⟨D, List.replicate l.length true, rfl, SqL.of (by rw [map_rep, hDl, ea, tx_size]), ?_⟩
    rw [all_rep]
    exact q H1 s1
def spCheckTrip : Sp := sp1 fun v H Q => ∃ l : List Nat, v = .str (tx l) ∧ (∀ n ∈ l, n < 10) ∧ l.length ≤ 2000 ∧ ∀ H', Same H H' → Q .non H'
theorem ok_check_trip (T : TX K mg) : FnP P w K mg base d_check_trip 2 ["trip"] spCheckTrip [] := by
  refine fn1 (T.d D_check_trip) rfl sc_check_trip bd_check_trip fun cdv A outer s H Q E a hr h => ?_
  obtain ⟨l, rfl, hl, hz, q⟩ := h
  refine wb_cons (ws_guard (wt_not (wt_val ?_)))
  exact we_call (ok_is_trip T) (T.g g_is_trip) hr (wa_cons (we_var 0 rfl (wa_nil ⟨_, rfl, l, rfl, hl, hz, fun H' s' => ⟨true, rfl, rfl, wb_nil (q H' s')⟩⟩)))
end
end Cab
/-! text Cab2 -/
set_option Elab.async false
set_option linter.all false
set_option maxRecDepth 100000
set_option maxHeartbeats 2000000
namespace Cab
open PySem PySem.Spec PyProof.Rows L2 He
local macro_rules | `(tactic| walk_at "hp") => `(tactic| first | assumption | (refine Same.at (by assumption) ?_; walk_at "hp"))

/-- ten worths -/
def okRow (r : List Int) : Prop := r.length = 10 ∧ ∀ x ∈ r, 0 ≤ x ∧ x ≤ 60
/-- a Table with the row r at p -/
def TabAt (K : PySem.W.Frag) (H : Hp) (p : Addr) (r : List Int) : Prop := ∃ dx q, H p = some (.ins (ga K "Table") dx [("row", .ref q)]) ∧ H q = some (.tup (r.map V.int))
theorem TabAt.mono {K : PySem.W.Frag} {H H' : Hp} {p : Addr} {r : List Int} (s : Same H H') (t : TabAt K H p r) : TabAt K H' p r := let ⟨dx, q, a, b⟩ := t; ⟨dx, q, s _ _ a, s _ _ b⟩
theorem lk_row {v : V} : List.lookup ("row" : Str) [("row", v)] = some v := by simp [List.lookup]
theorem lk_row' {v : V} {f : Str} (h : f ≠ "row") : List.lookup f [(("row" : Str), v)] = none := by
  have e : (f == ("row" : Str)) = false := beq_eq_false_iff_ne.mpr h
  simp [List.lookup, e]
theorem map_get {α β : Type} {f : α → β} {l : List α} {i : Nat} {y : β} (h : (l.map f)[i]? = some y) : ∃ x, l[i]? = some x ∧ y = f x := by
  rw [List.getElem?_map] at h
  cases e : l[i]? with
  | none => rw [e] at h; cases h
  | some x => rw [e] at h; exact ⟨x, rfl, (Option.some.inj h).symm⟩
theorem take_map_succ {α β : Type} {f : α → β} {l : List α} {i : Nat} {x : α} (h : l[i]? = some x) : (l.take i).map f ++ [f x] = (l.take (i + 1)).map f := by
  have hi := (List.getElem?_eq_some_iff.mp h)
  obtain ⟨h1, h2⟩ := hi
  rw [List.take_succ_eq_append_getElem h1, List.map_append, h2]
  rfl

section
variable {P : Program} {w : World} {K : PySem.W.Frag} {mg : Str → Option Value} {base : Heap}
def spWorths : Sp := sp1 fun v H Q => ∃ (a : Addr) (r : List Int), v = .ref a ∧ H a = some (.lst (r.map V.int)) ∧ okRow r ∧ ∀ H', Same H H' → Q (.bl true) H'
theorem ok_are_worths (T : TX K mg) : FnP P w K mg base d_are_worths 3 ["value"] spWorths [] := by
  refine fn1 (T.d D_are_worths) rfl sc_are_worths bd_are_worths fun cdv A outer s H Q E v hr h => ?_
  obtain ⟨a, r, rfl, ha, ⟨hl, hr10⟩, q⟩ := h
  obtain ⟨u, mu, ru⟩ := T.i i_GREATEST_SPEED
  obtain ⟨u2, mu2, ru2⟩ := T.i i_GREATEST_WORTH
  refine wb_cons (ws_guard (wt_W (ww_or (wt_not (wt_val ?_)))))
  refine we_isi "list" (T.fr f_isinstance) (T.fr f_list) (by decide +kernel) (we_var 0 rfl ⟨"list", true, .base (.lst ha), by decide +kernel, true, rfl, iteF (ww_or1 ?_)⟩)
  refine wt_cmp op_ne (we_blt call_len_seq (T.fr f_len) boot_len (wa_cons (we_var 0 rfl (wa_nil ⟨a, _, rfl, .inl (SqL.of ha), ?_⟩))))
  refine we_add (we_glob mu ru (we_int ⟨_, _, rfl, rfl, rfl, _, rfl, ?_, ?_⟩))
  · rw [List.length_map, hl]; rfl
  refine wb_cons (ws_ret (we_blt (cr_all rfl) (T.fr f_all) (by decide +kernel) (wa_cons ?_)))
  refine we_lc sc_are_worths [("item", 1)] (wi_list (we_var 0 rfl ⟨a, _, rfl, SqL.of ha, _, _, _, walk_list, fun D hD => ⟨fun i acc H' => acc = List.replicate i (.bl true) ∧ Same H H', fun H' s' _ => ⟨rfl, s'⟩, fun i acc H1 _ p _ => p.2.seq (SqL.of ha), ?_, by rw [List.length_map]; omega, ?_⟩⟩))
  · rintro i acc x H1 H2 hi hacc ⟨ea, s1⟩ hDl ⟨rfl, hx⟩
    obtain ⟨z, hz, rfl⟩ := map_get hx
    have hz2 := hr10 z (List.mem_of_getElem? hz)
    intro s0 H0 C cl fp
    refine wg_name 1 ⟨rfl, fun s0 H0 C cl fp => wts_nil (iteT fun s0 H0 C cl fp => ?_)⟩ sc_are_worths.nd
    refine we_call (ok_is_between T) (T.g g_is_between) hr (wa_cons (we_var 1 rfl (wa_cons (we_int (wa_cons (we_glob mu2 ru2 (wa_nil ⟨_, _, _, rfl, z, 0, 60, rfl, rfl, rfl, ?_⟩)))))))
    rw [decide_eq_true hz2]
    refine ⟨hDl, fun H5 b5 e5 => ⟨?_, But.of_new s1 hD b5⟩⟩
    rw [ea, List.replicate_succ']
  · rintro acc H1 hacc ⟨ea, s1⟩ hDl
    refine wa_nil ⟨D, List.replicate 10 true, rfl, SqL.of (by rw [map_rep, hDl, ea, List.length_map, hl]), ?_⟩
    rw [all_rep]
    exact q H1 s1
def spNumbers : Sp := sp2 fun a b H Q => ∃ i j : Int, a = .int i ∧ b = .int j ∧ 0 ≤ i ∧ 0 ≤ j ∧ ∀ H', Same H H' → Q .non H'
theorem ok_check_numbers (T : TX K mg) : FnP P w K mg base d_check_numbers 2 ["time", "way"] spNumbers [] := by
  refine fn2 (T.d D_check_numbers) rfl sc_check_numbers bd_check_numbers fun cdv A outer s H Q E a b hr h => ?_
  obtain ⟨i, j, rfl, rfl, hi, hj, q⟩ := h
  refine wb_cons (ws_forW PassesOwn.never rfl (fun _ => rfl) (wi_tup (we_tup (wa_cons (we_var 0 rfl (wa_cons (we_var 1 rfl (wa_nil ⟨by show 2 ≤ sizeLine; decide, ?_⟩))))))))
  intro p H2 hp s2 e2
  refine ⟨p, [V.int i, V.int j], rfl, SqT.of e2, _, _, _, walk_tup (xs := [V.int i, V.int j]), fun n σ H' => (∃ v, σ = [some (.int i), some (.int j), v]) ∧ H' = H2, ⟨⟨_, rfl⟩, rfl⟩, ?_, ?_, ?_⟩
  · rintro n σ H' _ ⟨_, rfl⟩
    exact SqT.of e2
  · rintro n x σ H' H3 hn ⟨⟨v, rfl⟩, rfl⟩ ⟨rfl, hx⟩
    obtain ⟨k, rfl, hk⟩ : ∃ k : Int, x = .int k ∧ 0 ≤ k := by
      match n, hx with
      | 0, hx => exact ⟨i, (Option.some.inj hx).symm, hi⟩
      | 1, hx => exact ⟨j, (Option.some.inj hx).symm, hj⟩
      | n + 2, hx => cases hx
    refine wg_name 2 (wb_cons (ws_guard (wt_W (ww_or (wt_not (wt_val ?_)))))) sc_check_numbers.nd
    refine we_call (ok_is_whole T) (T.g g_is_whole) hr (wa_cons (we_var 2 rfl (wa_nil ⟨_, rfl, k, rfl, true, rfl, iteF (ww_or1 ?_)⟩)))
    exact wt_cmp op_lt (we_var 2 rfl (we_int ⟨_, _, rfl, rfl, _, rfl, decide_eq_false (by omega), wb_nil ⟨⟨_, rfl⟩, rfl⟩⟩))
  · rintro σ H' ⟨⟨v, rfl⟩, rfl⟩
    exact wb_nil (q _ s2)
def spTableInit : Sp := sp2 fun x y H Q => ∃ (p dx a : Addr) (r : List Int), x = .ref p ∧ H p = some (.ins (ga K "Table") dx []) ∧ y = .ref a ∧ H a = some (.lst (r.map V.int)) ∧ okRow r ∧
  ∀ H', But p H H' → TabAt K H' p r → Q .non H'
theorem ok_Table_init (T : TX K mg) : FnP P w K mg base d_Table_init 4 ["self", "worths"] (spTableInit (K := K)) [] := by
  refine fn2 (T.d D_Table_init) rfl sc_Table_init bd_Table_init fun cdv A outer s H Q E x y hr h => ?_
  obtain ⟨p, dx, a, r, rfl, hp, rfl, ha, hrow, q⟩ := h
  refine wb_cons (ws_guard (wt_not (wt_val ?_)))
  refine we_call (ok_are_worths T) (T.g g_are_worths) hr (wa_cons (we_var 1 rfl (wa_nil ⟨_, rfl, a, r, rfl, ha, hrow, fun H1 s1 => ⟨true, rfl, rfl, wb_cons ?_⟩⟩)))
  refine ws_fld (T.c c_Table) (T.n n_Table_row) (we_ty call_tuple_of (T.fr f_tuple) (by decide +kernel) (wa_cons (we_var 1 rfl (wa_nil ⟨a, _, rfl, .inl ⟨SqL.of (s1 _ _ ha), fun l hl => ?_⟩⟩))))
  have npl : p ≠ l := ne_of_none (s1 _ _ hp) hl
  refine we_var 0 rfl ⟨p, dx, [], rfl, by rw [upd_ne npl]; exact s1 _ _ hp, by decide, fun H3 b3 e3 => wb_nil (q H3 (fun b o e n => b3 b o ?_ n) ⟨dx, l, e3, ?_⟩)⟩
  · rw [upd_ne (ne_of_none (s1 _ _ e) hl)]
    exact s1 _ _ e
  · exact b3 _ _ upd_same npl.symm
def spTableGet : Sp := sp2 fun x y H Q => ∃ (p : Addr) (r : List Int) (i : Int), x = .ref p ∧ TabAt K H p r ∧ r.length = 10 ∧ y = .int i ∧ 0 ≤ i ∧ i ≤ 9 ∧ Q (.int (r.getD i.toNat 0)) H
theorem ok_Table_getitem (T : TX K mg) : FnP P w K mg base d_Table_getitem 4 ["self", "speed"] (spTableGet (K := K)) [] := by
  refine fn2 (T.d D_Table_getitem) rfl sc_Table_getitem bd_Table_getitem fun cdv A outer s H Q E x y hr h => ?_
  obtain ⟨p, r, i, rfl, ⟨dx, t, hp, ht⟩, hl, rfl, h0, h9, q⟩ := h
  refine wb_cons (ws_guard (wt_not (wt_val ?_)))
  refine we_call (ok_is_speed T) (T.g g_is_speed) hr (wa_cons (we_var 1 rfl (wa_nil ⟨_, rfl, i, rfl, true, ?_, rfl, ?_⟩)))
  · rw [decide_eq_true (show 0 ≤ i ∧ i ≤ 9 from ⟨h0, h9⟩)]
  refine wb_cons (ws_ret (we_ix ix_tup (we_fld' (T.c c_Table) (T.n n_Table_row) (we_var 0 rfl ⟨p, dx, _, _, rfl, hp, lk_row, we_var 1 rfl ⟨t, _, i, _, rfl, rfl, SqT.of ht, at_of (j := i.toNat) (v := .int (r.getD i.toNat 0)) (by omega) ?_, q⟩⟩))))
  have hlt : i.toNat < r.length := by omega
  rw [List.getElem?_map, List.getElem?_eq_getElem hlt]
  simp [hlt]
end
end Cab
/-! text Cab3 -/
set_option Elab.async false
set_option linter.all false
set_option maxRecDepth 100000
set_option maxHeartbeats 2000000
namespace Cab
open PySem PySem.Spec PyProof.Rows L2 He
def mx (i j : Int) : Int := if j > i then j else i
def mn (i j : Int) : Int := if j < i then j else i
def rowEither (t w : Int) : List Int := (List.range 10).map fun (s : Nat) => mx t (w * (0 + (s : Int)))
def rowBoth (t w : Int) : List Int := (List.range 10).map fun (s : Nat) => t + w * (0 + (s : Int))
def rowChanging (t w z : Int) : List Int := (List.range 10).map fun (s : Nat) => if 0 + (s : Int) < z then t else w * (0 + (s : Int))
section
variable {P : Program} {w : World} {K : PySem.W.Frag} {mg : Str → Option Value} {base : Heap}
theorem mk_table {H1 : Hp} {a : Addr} {r : List Int} {Q : VK} (ha : H1 a = some (.lst (r.map V.int))) (hr : okRow r) (q : ∀ y H', H1 y = none → Same H1 H' → TabAt K H' y r → Q (.ref y) H') :
    ∀ y dx H2, H1 y = none → H1 dx = none → dx ≠ y → Same H1 H2 → H2 y = some (.ins (ga K "Table") dx []) → (spTableInit (K := K)) (V.ref y :: ([V.ref a] ++ [])) H2 (fun v H3 => v = .non ∧ Q (.ref y) H3) E0 :=
  fun y dx H2 n1 n2 n3 s2 e2 => ⟨_, _, rfl, y, dx, a, r, rfl, e2, rfl, s2 _ _ ha, hr, fun H' b' t' => ⟨rfl, q y H' n1 (But.of_new s2 n1 b') t'⟩⟩
theorem mul_le {X : Cx} : OpR X (binaryOp .Mult) (rI CMul fun i j => .int (i * j)) := op_mul
/-- way * speed, the speed small -/
theorem ws_nd {N ps : List Str} {sc : Scope} (S : FnScope N ps sc) : N.Nodup := S.nd
def spEither (K : PySem.W.Frag) (row : Int → Int → List Int) : Sp := sp3 fun c a b H Q => ∃ i j : Int, c = .ref (ga K "Table") ∧ a = .int i ∧ b = .int j ∧ 0 ≤ i ∧ 0 ≤ j ∧ okRow (row i j) ∧ ∀ y H', Same H H' → TabAt K H' y (row i j) → Q (.ref y) H'
theorem small_mul {i : Nat} (h : i < 10) : -(2 ^ 64) < (0 + (i : Int)) ∧ (0 + (i : Int)) < 2 ^ 64 := by omega
theorem ok_Table_either (T : TX K mg) : FnP P w K mg base d_Table_either 6 ["cls", "time", "way"] (spEither K rowEither) [] := by
  refine fn3 (T.d D_Table_either) rfl sc_Table_either bd_Table_either fun cdv A outer s H Q E c a b hr h => ?_
  obtain ⟨i, j, rfl, rfl, rfl, hi, hj, hrow, q⟩ := h
  obtain ⟨u, mu, ru⟩ := T.i i_GREATEST_SPEED
  refine wb_cons (ws_expr (we_call (ok_check_numbers T) (T.g g_check_numbers) hr (wa_cons (we_var 1 rfl (wa_cons (we_var 2 rfl (wa_nil ⟨_, _, rfl, i, j, rfl, rfl, hi, hj, fun H1 s1 => ?_⟩)))))))
  refine wb_cons (ws_ret (we_makeL 0 (ok_Table_init T) (T.k k_Table) hr rfl (wa_cons ?_)))
  refine we_lc sc_Table_either [("speed", 3)] (wi_rng1 (T.fr f_range) (we_add (we_glob mu ru (we_int ⟨_, _, rfl, rfl, 10, rfl, by decide, by decide, ?_⟩))))
  refine lcMap (fun s => V.int (mx i (j * (0 + (s : Int))))) (walk_range (lo := 0) (n := 10)) (fun _ _ _ _ y => y.1) (by decide) (fun _ _ => trivial) ?_ ?_
  · rintro n x H2 hn s2 ⟨_, rfl⟩ s0 H0 C cl fp
    refine wg_name 3 ⟨rfl, fun s0 H0 C cl fp => ?_⟩ sc_Table_either.nd
    refine we_blt (call_max2 rfl) (T.fr f_max) (by decide +kernel) (wa_cons (we_var 1 rfl (wa_cons (we_op op_mul (we_var 2 rfl (we_var 3 rfl ⟨_, _, rfl, rfl, .inr (small_mul hn), wa_nil ⟨_, _, rfl, rfl, fun _ _ e => e⟩⟩))))))
  · intro D H2 hD s2 hDl
    refine wa_nil (mk_table (r := rowEither i j) (by rw [hDl]; unfold rowEither; rw [List.map_map]; rfl) hrow fun y H' _ s' t' => q y H' (Same.trans s1 (Same.trans s2 s')) t')
theorem ok_Table_both (T : TX K mg) : FnP P w K mg base d_Table_both 6 ["cls", "time", "way"] (spEither K rowBoth) [] := by
  refine fn3 (T.d D_Table_both) rfl sc_Table_both bd_Table_both fun cdv A outer s H Q E c a b hr h => ?_
  obtain ⟨i, j, rfl, rfl, rfl, hi, hj, hrow, q⟩ := h
  obtain ⟨u, mu, ru⟩ := T.i i_GREATEST_SPEED
  refine wb_cons (ws_expr (we_call (ok_check_numbers T) (T.g g_check_numbers) hr (wa_cons (we_var 1 rfl (wa_cons (we_var 2 rfl (wa_nil ⟨_, _, rfl, i, j, rfl, rfl, hi, hj, fun H1 s1 => ?_⟩)))))))
  refine wb_cons (ws_ret (we_makeL 0 (ok_Table_init T) (T.k k_Table) hr rfl (wa_cons ?_)))
  refine we_lc sc_Table_both [("speed", 3)] (wi_rng1 (T.fr f_range) (we_add (we_glob mu ru (we_int ⟨_, _, rfl, rfl, 10, rfl, by decide, by decide, ?_⟩))))
  refine lcMap (fun s => V.int (i + j * (0 + (s : Int)))) (walk_range (lo := 0) (n := 10)) (fun _ _ _ _ y => y.1) (by decide) (fun _ _ => trivial) ?_ ?_
  · rintro n x H2 hn s2 ⟨_, rfl⟩ s0 H0 C cl fp
    refine wg_name 3 ⟨rfl, fun s0 H0 C cl fp => ?_⟩ sc_Table_both.nd
    exact we_add (we_var 1 rfl (we_op op_mul (we_var 2 rfl (we_var 3 rfl ⟨_, _, rfl, rfl, .inr (small_mul hn), _, _, rfl, rfl, rfl, fun _ _ e => e⟩))))
  · intro D H2 hD s2 hDl
    refine wa_nil (mk_table (r := rowBoth i j) (by rw [hDl]; unfold rowBoth; rw [List.map_map]; rfl) hrow fun y H' _ s' t' => q y H' (Same.trans s1 (Same.trans s2 s')) t')
def spChanging (K : PySem.W.Frag) : Sp := sp4 fun c a b z H Q => ∃ i j n : Int, c = .ref (ga K "Table") ∧ a = .int i ∧ b = .int j ∧ z = .int n ∧ 0 ≤ i ∧ 0 ≤ j ∧ 0 ≤ n ∧ n ≤ 9 ∧ okRow (rowChanging i j n) ∧ ∀ y H', Same H H' → TabAt K H' y (rowChanging i j n) → Q (.ref y) H'
theorem ok_Table_changing (T : TX K mg) : FnP P w K mg base d_Table_changing 6 ["cls", "time", "way", "speed"] (spChanging K) [] := by
  refine fn4 (T.d D_Table_changing) rfl sc_Table_changing bd_Table_changing fun cdv A outer s H Q E c a b z hr h => ?_
  obtain ⟨i, j, n, rfl, rfl, rfl, rfl, hi, hj, hn0, hn9, hrow, q⟩ := h
  obtain ⟨u, mu, ru⟩ := T.i i_GREATEST_SPEED
  refine wb_cons (ws_expr (we_call (ok_check_numbers T) (T.g g_check_numbers) hr (wa_cons (we_var 1 rfl (wa_cons (we_var 2 rfl (wa_nil ⟨_, _, rfl, i, j, rfl, rfl, hi, hj, fun H1 s1 => ?_⟩)))))))
  refine wb_cons (ws_guard (wt_not (wt_val (we_call (ok_is_speed T) (T.g g_is_speed) hr (wa_cons (we_var 3 rfl (wa_nil ⟨_, rfl, n, rfl, true, ?_, rfl, ?_⟩)))))))
  · rw [decide_eq_true (show 0 ≤ n ∧ n ≤ 9 from ⟨hn0, hn9⟩)]
  refine wb_cons (ws_ret (we_makeL 0 (ok_Table_init T) (T.k k_Table) hr rfl (wa_cons ?_)))
  refine we_lc sc_Table_changing [("own", 4)] (wi_rng1 (T.fr f_range) (we_add (we_glob mu ru (we_int ⟨_, _, rfl, rfl, 10, rfl, by decide, by decide, ?_⟩))))
  refine lcMap (fun s => V.int (if 0 + (s : Int) < n then i else j * (0 + (s : Int)))) (walk_range (lo := 0) (n := 10)) (fun _ _ _ _ y => y.1) (by decide) (fun _ _ => trivial) ?_ ?_
  · rintro m x H2 hm s2 ⟨_, rfl⟩ s0 H0 C cl fp
    refine wg_name 4 ⟨rfl, fun s0 H0 C cl fp => ?_⟩ sc_Table_changing.nd
    refine we_ifExp (wt_cmp op_lt (we_var 4 rfl (we_var 3 rfl ⟨_, _, rfl, rfl, _, rfl, ?_⟩)))
    by_cases hc : 0 + (m : Int) < n
    · rw [decide_eq_true hc]
      refine iteT (we_var 1 rfl ⟨?_, fun _ _ e => e⟩)
      rw [if_pos hc]
    · rw [decide_eq_false hc]
      refine iteF (we_op op_mul (we_var 2 rfl (we_var 4 rfl ⟨_, _, rfl, rfl, .inr (small_mul hm), ?_, fun _ _ e => e⟩)))
      rw [if_neg hc]
  · intro D H2 hD s2 hDl
    refine wa_nil (mk_table (r := rowChanging i j n) (by rw [hDl]; unfold rowChanging; rw [List.map_map]; rfl) hrow fun y H' _ s' t' => q y H' (Same.trans s1 (Same.trans s2 s')) t')
end
end Cab
/-! text Cab4 -/
set_option Elab.async false
set_option linter.all false
set_option maxRecDepth 100000
set_option maxHeartbeats 2000000
namespace Cab
open PySem PySem.Spec PyProof.Rows L2 He
theorem str60 : (Str.ofString (toString (60 : Int))).length = 2 := by decide +kernel
theorem lg60 : (60 : Int).natAbs.log2 < 1920 := by decide +kernel
theorem atI_zero {α : Type} {l : List α} {c : α} (h : l[0]? = some c) : atI l 0 = some c := atI_nat (j := 0) h
theorem sign_ne {c : Nat} (h : c ≠ 48) : decide (V.str ⟨#[c]⟩ = V.str (Str.ofString "0")) = false := by
  refine decide_eq_false fun e => h ?_
  have e1 : (⟨#[c]⟩ : Str) = Str.ofString "0" := V.str.inj e
  have e2 : (Str.ofString "0") = ⟨#[48]⟩ := by decide +kernel
  rw [e2] at e1
  have e3 := congrArg (fun z : Str => z.cps.toList) e1
  simpa using e3
section
variable {P : Program} {w : World} {K : PySem.W.Frag} {mg : Str → Option Value} {base : Heap}
def spNumberIn : Sp := sp2 fun a b H Q => ∃ n : Nat, a = .str (wd n) ∧ b = .int 60 ∧ 0 < n ∧ n ≤ 60 ∧ ∀ H', Same H H' → Q (.int n) H'
theorem ok_number_in (T : TX K mg) : FnP P w K mg base d_number_in 1 ["word", "most"] spNumberIn [] := by
  refine fn2 (T.d D_number_in) rfl sc_number_in bd_number_in fun cdv A outer s H Q E a b hr h => ?_
  obtain ⟨n, rfl, rfl, h0, h60, q⟩ := h
  have W := wd_ok h60
  have hne : ¬ n = 0 := by omega
  obtain ⟨u2, mu2, ru2⟩ := T.s s_DIGITS
  refine wb_cons (ws_guard (wt_W (ww_or (wt_not (wt_chain op_le op_le (we_int ?_))))))
  refine we_blt call_len_str (T.fr f_len) boot_len (wa_cons (we_var 0 rfl (wa_nil ⟨_, rfl, sz_le (by have := W.l2; omega), _, _, rfl, rfl, _, rfl, ?_⟩)))
  rw [decide_eq_true (show (1 : Int) ≤ ((wd n).length : Nat) by have := W.l1; omega)]
  refine iteT (we_blt call_len_str (T.fr f_len) boot_len (wa_cons (we_ty call_str_int (T.fr f_str) (by decide +kernel) (wa_cons (we_var 1 rfl (wa_nil ⟨60, rfl, lg60, wa_nil ⟨_, rfl, by rw [str60]; exact sz_le (by decide), _, _, rfl, rfl, ?_⟩⟩))))))
  rw [str60]
  refine ⟨true, ?_, iteF (ww_or (wt_not (wt_val (we_blt (cr_all rfl) (T.fr f_all) (by decide +kernel) (wa_cons ?_)))))⟩
  · show V.bl (decide (((wd n).length : Int) ≤ (2 : Nat))) = V.bl true
    rw [decide_eq_true (show (((wd n).length : Nat) : Int) ≤ (2 : Nat) by have := W.l2; omega)]
  refine we_lc sc_number_in [("sign", 2)] (wi_str (we_var 0 rfl ⟨_, rfl, ?_⟩))
  refine lcMap (fun _ => V.bl true) walk_str (fun _ _ _ _ y => y.1) (by have := W.l2; exact Nat.le_trans this (by decide)) (fun _ _ => trivial) ?_ ?_
  · rintro i x H2 hi s2 ⟨_, c, hc, rfl⟩ s0 H0 C cl fp
    refine wg_name 2 ⟨rfl, fun s0 H0 C cl fp => ?_⟩ sc_number_in.nd
    refine we_cmp op_in_sign (we_var 2 rfl (we_glob mu2 ru2 ⟨_, _, rfl, rfl, ?_, fun _ _ e => e⟩))
    rw [decide_eq_true (W.dig c (by rw [← Array.getElem?_toList] at hc; exact List.mem_of_getElem? hc))]
  intro D H2 hD s2 hDl
  refine wa_nil ⟨D, List.replicate (wd n).cps.size true, rfl, SqL.of (by rw [hDl, map_rep]; simp [List.map_const']), true, ?_, iteF (ww_or1 ?_)⟩
  · rw [all_rep]
  obtain ⟨c, hc⟩ : ∃ c, (wd n).cps.toList[0]? = some c := by
    have := W.l1
    have h2 : 0 < (wd n).cps.toList.length := by rw [Array.length_toList]; exact this
    exact ⟨_, List.getElem?_eq_getElem h2⟩
  have hc48 : c ≠ 48 := fun e => by
    rcases W.hd with z | z
    · exact hne z
    · exact z (by rw [hc, e])
  refine wt_cmp op_eq (we_ix ix_str (we_var 0 rfl (we_int ⟨_, _, c, rfl, rfl, sz_le (by have := W.l2; omega), atI_zero hc, we_str ⟨rfl, _, rfl, sign_ne hc48, ?_⟩⟩)))
  refine wb_cons (ws_ret (we_ifExp (wt_cmp op_le (we_ty call_int_str (T.fr f_int) (by decide +kernel) (wa_cons (we_var 0 rfl (wa_nil ⟨_, _, rfl, W.rd, by have := W.l2; omega, we_var 1 rfl ⟨_, _, rfl, rfl, _, rfl, ?_⟩⟩)))))))
  rw [decide_eq_true (show ((n : Nat) : Int) ≤ 60 by omega)]
  exact iteT (we_ty call_int_str (T.fr f_int) (by decide +kernel) (wa_cons (we_var 0 rfl (wa_nil ⟨_, _, rfl, W.rd, by have := W.l2; omega, q H2 s2⟩))))
/-- ten numbers up to 60 -/
def okNats (r : List Nat) : Prop := r.length = 10 ∧ ∀ x ∈ r, x ≤ 60
theorem okNats.row {r : List Nat} (h : okNats r) : okRow (r.map fun (n : Nat) => (n : Int)) := ⟨by rw [List.length_map]; exact h.1, fun x hx => by
  obtain ⟨n, hn, rfl⟩ := List.mem_map.mp hx
  have := h.2 n hn
  omega⟩
theorem spl_nats {r : List Nat} (h : okNats r) : Txt.split (Txt.join (Str.ofString " ") (r.map wd)) (Str.ofString " ") = r.map wd := by
  refine TL.split_join (s := 32) (S := []) (by decide +kernel) (by decide +kernel) (fun e => ?_) fun p hp => ?_
  · have h1 := h.1
    rw [List.map_eq_nil_iff.mp e] at h1
    cases h1
  · obtain ⟨n, hn, rfl⟩ := List.mem_map.mp hp
    intro h32
    have h2 := (wd_ok (h.2 n hn)).dig 32 h32
    rw [digits_list] at h2
    revert h2
    decide
def spRead (K : PySem.W.Frag) : Sp := sp2 fun c t H Q => ∃ r : List Nat, c = .ref (ga K "Table") ∧ t = .str (Txt.join (Str.ofString " ") (r.map wd)) ∧ okNats r ∧ (Txt.join (Str.ofString " ") (r.map wd)).length ≤ 1000 ∧ ∀ y H', Same H H' → TabAt K H' y (r.map fun (n : Nat) => (n : Int)) → Q (.ref y) H'
theorem ok_Table_read (T : TX K mg) : FnP P w K mg base d_Table_read 6 ["cls", "text"] (spRead K) [] := by
  refine fn2 (T.d D_Table_read) rfl sc_Table_read bd_Table_read fun cdv A outer s H Q E c t hr h => ?_
  obtain ⟨r, rfl, rfl, hrow, hlen, q⟩ := h
  obtain ⟨u, mu, ru⟩ := T.i i_GREATEST_WORTH
  refine wb_cons (ws_guard (wt_not (wt_val (we_isi "str" (T.fr f_isinstance) (T.fr f_str) (by decide +kernel) (we_var 1 rfl ⟨"str", true, .base (.str _), by decide +kernel, true, rfl, rfl, ?_⟩)))))
  refine wb_cons (ws_set 2 (wE (pe_split pE pE) (we_var 1 rfl ⟨⟨_, rfl⟩, we_str ⟨_, _, rfl, rfl, by decide +kernel, sz_le (by omega), ?_⟩⟩)) sc_Table_read.nd)
  rw [spl_nats hrow]
  intro p hp
  have s1 : Same H (upd H p (.lst ((r.map wd).map V.str))) := Same.new hp
  generalize hH1 : upd H p (.lst ((r.map wd).map V.str)) = H1 at s1
  have e1 : H1 p = some (.lst ((r.map wd).map V.str)) := by rw [← hH1]; exact upd_same
  refine wb_cons (ws_setLc sc_Table_read 3 [("word", 4)] (wi_list (we_var 2 rfl ⟨p, _, rfl, SqL.of e1, ?_⟩)))
  refine lcMap (fun i => V.int ((r.getD i 0 : Nat) : Int)) (walk_list (xs := (r.map wd).map V.str)) (fun _ _ _ _ y => y.1) (by rw [List.length_map, List.length_map, hrow.1]; decide) (fun _ s' => s'.seq (SqL.of e1)) ?_ ?_
  · rintro i x H2 hi s2 ⟨_, hx⟩ s0 H0 C cl fp
    obtain ⟨z, hz, rfl⟩ := map_get hx
    obtain ⟨n, hn, rfl⟩ := map_get hz
    have hn60 := hrow.2 n (List.mem_of_getElem? hn)
    have e3 : r.getD i 0 = n := by rw [List.getD_eq_getElem?_getD, hn]; rfl
    refine wg_name 4 ⟨rfl, fun s0 H0 C cl fp => ?_⟩ sc_Table_read.nd
    refine we_ifExp (wt_cmp op_eq (we_var 4 rfl (we_str ⟨rfl, _, rfl, ?_⟩)))
    by_cases h0 : n = 0
    · rw [decide_eq_true (show V.str (wd n) = V.str (Str.ofString "0") by rw [h0, wd_zero])]
      exact iteT (we_int ⟨by rw [e3, h0]; rfl, fun _ _ e => e⟩)
    · rw [decide_eq_false fun e => ((wd_ok hn60).nz.resolve_left h0) (V.str.inj e)]
      exact iteF (we_call (ok_number_in T) (T.g g_number_in_trips) hr (wa_cons (we_var 4 rfl (wa_cons (we_glob mu ru (wa_nil ⟨_, _, rfl, n, rfl, rfl, by omega, hn60, fun H' s' => ⟨by rw [e3], s'⟩⟩))))))
  intro D H2 hD s2 hDl
  have eD : H2 D = some (.lst ((r.map fun (n : Nat) => (n : Int)).map V.int)) := by
    rw [hDl, List.length_map, List.length_map, map_range_get (fun n : Nat => V.int (n : Int)) 0 r, List.map_map]
    rfl
  refine wb_cons (ws_guard (wt_W (ww_or (wt_cmp (op_neD hr.units) ?_))))
  refine we_lc sc_Table_read [("worth", 5)] (wi_list (we_var 3 rfl ⟨D, _, rfl, SqL.of eD, ?_⟩))
  refine lcMap (fun i => V.str (wd (r.getD i 0))) (walk_list (xs := (r.map fun (n : Nat) => (n : Int)).map V.int)) (fun _ _ _ _ y => y.1) (by rw [List.length_map, List.length_map, hrow.1]; decide) (fun _ s' => s'.seq (SqL.of eD)) ?_ ?_
  · rintro i x H3 hi s3 ⟨_, hx⟩ s0 H0 C cl fp
    obtain ⟨z, hz, rfl⟩ := map_get hx
    obtain ⟨n, hn, rfl⟩ := map_get hz
    have hn60 := hrow.2 n (List.mem_of_getElem? hn)
    have e3 : r.getD i 0 = n := by rw [List.getD_eq_getElem?_getD, hn]; rfl
    refine wg_name 5 ⟨rfl, fun s0 H0 C cl fp => ?_⟩ sc_Table_read.nd
    exact we_ty call_str_int (T.fr f_str) (by decide +kernel) (wa_cons (we_var 5 rfl (wa_nil ⟨_, rfl, (wd_ok hn60).lg, by rw [e3]; rfl, fun _ _ e => e⟩)))
  intro D2 H3 hD2 s3 hDl2
  have eD2 : H3 D2 = some (.lst ((r.map wd).map V.str)) := by
    rw [hDl2, List.length_map, List.length_map, map_range_get (fun n : Nat => V.str (wd n)) 0 r, List.map_map]
    rfl
  have hok : ∀ x ∈ r.map wd, PyData.strOk x = true := fun x hx => by
    obtain ⟨n, hn, rfl⟩ := List.mem_map.mp hx
    exact (wd_ok (hrow.2 n hn)).ok
  have lay := lay_strs (r.map wd) hok
  refine we_var 2 rfl ⟨_, _, dp_strs (SqL.of eD2), dp_strs (SqL.of (s3 _ _ (s2 _ _ e1))), sh_list lay, sh_list lay, false, ?_, iteF (ww_or1 (wt_not (wt_val ?_)))⟩
  · rw [SeqAt.eqv_refl _ (by simp only [PyData.canLay0]; exact lay.1)]
    rfl
  refine we_call (ok_are_worths T) (T.g g_are_worths) hr (wa_cons (we_var 3 rfl (wa_nil ⟨_, rfl, D, _, rfl, s3 _ _ eD, hrow.row, fun H4 s4 => ⟨true, rfl, rfl, ?_⟩⟩)))
  refine wb_cons (ws_ret (we_makeL 0 (ok_Table_init T) (T.k k_Table) hr rfl (wa_cons (we_var 3 rfl (wa_nil ?_)))))
  exact mk_table (s4 _ _ (s3 _ _ eD)) hrow.row fun y H' _ s' t' => q y H' (Same.trans s1 (Same.trans s2 (Same.trans s3 (Same.trans s4 s')))) t'
end
end Cab
/-! text Cab5 -/
set_option Elab.async false
set_option linter.all false
set_option maxRecDepth 100000
set_option maxHeartbeats 2000000
namespace Cab
open PySem PySem.Spec PyProof.Rows L2 He
/-! ### a meter -/
structure Met where
  first : Int
  drop : Int
  flag : Int
  each : Int
  tabs : List (List Int)
  turns : List Int
structure okMet (M : Met) : Prop where
  f1 : 1 ≤ M.first
  f2 : M.first ≤ 60
  d1 : 1 ≤ M.drop
  d2 : M.drop ≤ 60
  g1 : 0 ≤ M.flag
  g2 : M.flag ≤ 1000
  e1 : 1 ≤ M.each
  e2 : M.each ≤ 100
  len : M.tabs.length = M.turns.length + 1
  len3 : M.tabs.length ≤ 3
  rows : ∀ r ∈ M.tabs, okRow r
  tu : ∀ t ∈ M.turns, 1 ≤ t ∧ t ≤ 9
def Met.idx (M : Met) (j : Int) : Nat := (M.turns.filter fun t => decide (t ≤ j)).length
def Met.worth (M : Met) (j : Int) (s : Nat) : Int := (M.tabs.getD (M.idx j) []).getD s 0
def Met.jumpsAt (M : Met) (c : Int) : Int := if c < M.first then 0 else 1 + (c - M.first) / M.drop
def Met.countOn (M : Met) (c : Int) (s : Nat) : Int := c + M.worth (M.jumpsAt c) s
def Met.price (M : Met) (c : Int) : Int := M.flag + M.each * M.jumpsAt c
def Met.last (M : Met) : Int := M.turns.getLastD 0
theorem okMet.idx_lt {M : Met} (ok : okMet M) (j : Int) : M.idx j < M.tabs.length := by
  unfold Met.idx
  have := List.length_filter_le (fun t => decide (t ≤ j)) M.turns
  rw [ok.len]
  omega
theorem okMet.row {M : Met} (ok : okMet M) (j : Int) : okRow (M.tabs.getD (M.idx j) []) := by
  have h := ok.idx_lt j
  rw [List.getD_eq_getElem?_getD, List.getElem?_eq_getElem h]
  exact ok.rows _ (List.getElem_mem h)
theorem okMet.worth0 {M : Met} (ok : okMet M) (j : Int) {s : Nat} (hs : s < 10) : 0 ≤ M.worth j s ∧ M.worth j s ≤ 60 := by
  obtain ⟨h1, h2⟩ := ok.row j
  unfold Met.worth
  have hl : s < (M.tabs.getD (M.idx j) []).length := by omega
  rw [List.getD_eq_getElem?_getD, List.getElem?_eq_getElem hl]
  exact h2 _ (List.getElem_mem hl)
theorem okMet.jumps0 {M : Met} (ok : okMet M) {c : Int} : 0 ≤ M.jumpsAt c := by
  unfold Met.jumpsAt
  split
  · omega
  · have h1 := ok.d1
    have : 0 ≤ (c - M.first) / M.drop := Int.ediv_nonneg (by omega) (by omega)
    omega
theorem okMet.last9 {M : Met} (ok : okMet M) : 0 ≤ M.last ∧ M.last ≤ 9 := by
  unfold Met.last
  cases h : M.turns with
  | nil => simp
  | cons a l =>
    have h2 := ok.tu ((a :: l).getLast (by simp)) (by rw [h]; exact List.getLast_mem _)
    have e : (a :: l).getLastD 0 = (a :: l).getLast (by simp) := by rw [List.getLastD_eq_getLast?, List.getLast?_eq_some_getLast (by simp)]; rfl
    rw [e]
    omega
def mFs (n t u : Addr) (v : V) : List (Str × V) := [("own_numbers", .ref n), ("own_tables", .ref t), ("own_turns", .ref u), ("own_steps", v)]
theorem mFs_n {n t u : Addr} {v : V} : (mFs n t u v).lookup ("own_numbers" : Str) = some (.ref n) := by kernel_rfl
theorem mFs_t {n t u : Addr} {v : V} : (mFs n t u v).lookup ("own_tables" : Str) = some (.ref t) := by kernel_rfl
theorem mFs_u {n t u : Addr} {v : V} : (mFs n t u v).lookup ("own_turns" : Str) = some (.ref u) := by kernel_rfl
theorem mFs_s {n t u : Addr} {v : V} : (mFs n t u v).lookup ("own_steps" : Str) = some v := by kernel_rfl
def TabsAt (K : PySem.W.Frag) (H : Hp) : List Addr → List (List Int) → Prop := Paired (TabAt K H)
structure MetAt (K : PySem.W.Frag) (H : Hp) (p : Addr) (M : Met) : Prop where
  ex : ∃ dx n t u v ps, H p = some (.ins (ga K "Meter") dx (mFs n t u v)) ∧ H n = some (.tup [.int M.first, .int M.drop, .int M.flag, .int M.each]) ∧ H t = some (.tup (ps.map V.ref)) ∧ H u = some (.tup (M.turns.map V.int)) ∧ TabsAt K H ps M.tabs
theorem Paired.imp' {α β : Type} {F G : α → β → Prop} {l : List α} {m : List β} (h : Paired F l m) (k : ∀ a b, F a b → G a b) : Paired G l m := Paired.mapP h k
theorem TabsAt.mono {K : PySem.W.Frag} {H H' : Hp} {ps : List Addr} {rs : List (List Int)} (s : Same H H') (h : TabsAt K H ps rs) : TabsAt K H' ps rs := Paired.mapP h fun _ _ t => t.mono s
theorem MetAt.mono {K : PySem.W.Frag} {H H' : Hp} {p : Addr} {M : Met} (s : Same H H') (h : MetAt K H p M) : MetAt K H' p M := by
  obtain ⟨dx, n, t, u, v, ps, h1, h2, h3, h4, h5⟩ := h.ex
  exact ⟨dx, n, t, u, v, ps, s _ _ h1, s _ _ h2, s _ _ h3, s _ _ h4, h5.mono s⟩
theorem paired_get {α β : Type} {F : α → β → Prop} : ∀ {l : List α} {m : List β} {i : Nat} {y : β}, Paired F l m → m[i]? = some y → ∃ x, l[i]? = some x ∧ F x y
  | _, _, _, _, .nil, h => by cases h
  | _, _, 0, _, .cons r _, h => ⟨_, rfl, by rw [← Option.some.inj h]; exact r⟩
  | _, _, i + 1, _, .cons _ t, h => paired_get (i := i) t h
theorem filter_len (l : List Int) (j : Int) : ((List.range l.length).filter fun i => decide (l.getD i 0 ≤ j)).length = (l.filter fun t => decide (t ≤ j)).length := by
  have h := fil_range_get (fun t : Int => decide (t ≤ j)) (fun t => t) 0 l
  have h2 := congrArg List.length h
  simpa using h2
section
variable {P : Program} {w : World} {K : PySem.W.Frag} {mg : Str → Option Value} {base : Heap}
def spCheckNumber : Sp := sp3 fun v a b H Q => ∃ i l m : Int, v = .int i ∧ a = .int l ∧ b = .int m ∧ l ≤ i ∧ i ≤ m ∧ Q .non H
theorem ok_check_number (T : TX K mg) : FnP P w K mg base d_check_number 3 ["value", "least", "most"] spCheckNumber [] := by
  refine fn3 (T.d D_check_number) rfl sc_check_number bd_check_number fun cdv A outer s H Q E v a b hr h => ?_
  obtain ⟨i, l, m, rfl, rfl, rfl, h1, h2, q⟩ := h
  refine wb_cons (ws_guard (wt_not (wt_val (we_call (ok_is_between T) (T.g g_is_between) hr (wa_cons (we_var 0 rfl (wa_cons (we_var 1 rfl (wa_cons (we_var 2 rfl (wa_nil ⟨_, _, _, rfl, i, l, m, rfl, rfl, rfl, true, ?_, rfl, wb_nil q⟩)))))))))))
  rw [decide_eq_true (show l ≤ i ∧ i ≤ m from ⟨h1, h2⟩)]
def spCheckTop : Sp := sp1 fun v H Q => ∃ i : Int, v = .int i ∧ 0 ≤ i ∧ i ≤ 9 ∧ Q .non H
theorem ok_check_top (T : TX K mg) : FnP P w K mg base d_check_top 3 ["top"] spCheckTop [] := by
  refine fn1 (T.d D_check_top) rfl sc_check_top bd_check_top fun cdv A outer s H Q E v hr h => ?_
  obtain ⟨i, rfl, h1, h2, q⟩ := h
  obtain ⟨u, mu, ru⟩ := T.i i_SPEEDS
  refine wb_cons (ws_guard (wt_not (wt_val (we_call (ok_is_between T) (T.g g_is_between) hr (wa_cons (we_var 0 rfl (wa_cons (we_int (wa_cons (we_sub (we_glob mu ru (we_int ⟨_, _, rfl, rfl, wa_nil ⟨_, _, _, rfl, i, 0, 10 - 1, rfl, rfl, rfl, true, ?_, rfl, wb_nil q⟩⟩))))))))))))
  rw [decide_eq_true (show 0 ≤ i ∧ i ≤ 10 - 1 by omega)]
/-- the list of turns as a list or a tuple -/
def TurnsAt (H : Hp) (a : Addr) (l : List Int) : Prop := H a = some (.lst (l.map V.int)) ∨ H a = some (.tup (l.map V.int))
theorem TurnsAt.mono {H H' : Hp} {a : Addr} {l : List Int} (s : Same H H') (h : TurnsAt H a l) : TurnsAt H' a l := h.imp (s _ _) (s _ _)
def asc (l : List Int) : Prop := ∀ (i : Nat) (x y : Int), l[i]? = some x → l[i + 1]? = some y → x < y
def spAreTurns : Sp := sp2 fun a b H Q => ∃ (p : Addr) (l : List Int), a = .ref p ∧ TurnsAt H p l ∧ b = .int (l.length : Nat) ∧ l.length ≤ 2 ∧ (∀ t ∈ l, 1 ≤ t ∧ t ≤ 9) ∧ asc l ∧ ∀ H', Same H H' → Q (.bl true) H'
theorem ok_are_turns (T : TX K mg) : FnP P w K mg base d_are_turns 3 ["turns", "many"] spAreTurns [] := by
  refine fn2 (T.d D_are_turns) rfl sc_are_turns bd_are_turns fun cdv A outer s H Q E a b hr h => ?_
  obtain ⟨p, l, rfl, hp, rfl, hl, ht, ha, q⟩ := h
  obtain ⟨u, mu, ru⟩ := T.i i_GREATEST_TURN
  have hseq : ∀ {H'}, Same H H' → SqL K H' p (l.map V.int) ∨ SqT K H' p (l.map V.int) := fun {H'} s' => (hp.mono s').imp SqL.of SqT.of
  -- isinstance(turns, (list, tuple))
  refine wb_cons (ws_guard (wt_W (ww_or (wt_not (wt_val ?_)))))
  refine we_blt call_isiT (T.fr f_isinstance) (by decide +kernel) (wa_cons (we_var 0 rfl (wa_cons (we_tup (wa_cons (we_bltn (v := .ty "list") (T.fr f_list) (by decide +kernel) rfl (wa_cons (we_bltn (v := .ty "tuple") (T.fr f_tuple) (by decide +kernel) rfl (wa_nil ⟨by show 2 ≤ sizeLine; decide, fun tp H1 ntp s1 e1 => wa_nil ?_⟩)))))))))
  have fin : WW (XC P w K mg base d_are_turns N_are_turns (d_are_turns.path K) cdv A outer s H E) (.BoolOp .Or [(match d_are_turns.body with | .If (.BoolOp _ (_ :: e :: _) _) _ _ _ :: _ => e | _ => .Constant .none 0 default)] (match d_are_turns.body with | .If (.BoolOp _ _ ps) _ _ _ :: _ => ps | _ => default)) (L2.start N_are_turns [.ref p, .int (l.length : Nat)]) H1 fun b H2 => b = false ∧ WB (XC P w K mg base d_are_turns N_are_turns (d_are_turns.path K) cdv A outer s H E) d_are_turns.body.tail { nx := fun _ H' => Q .non H', rt := Q } (L2.start N_are_turns [.ref p, .int (l.length : Nat)]) H2 := by
    refine ww_or1 (wt_cmp op_ne (we_blt call_len_seq (T.fr f_len) boot_len (wa_cons (we_var 0 rfl (wa_nil ⟨p, _, rfl, hseq s1, we_var 1 rfl ⟨rfl, _, rfl, ?_, ?_⟩⟩)))))
    · rw [List.length_map, decide_eq_true rfl]; rfl
    refine wb_cons (ws_guard (wt_not (wt_val (we_blt (cr_all rfl) (T.fr f_all) (by decide +kernel) (wa_cons ?_)))))
    have walkIt : ∀ (tg : Expr) (ps : Pos) (R : It → Hp → Prop), (∀ J, (∃ G, Walk J l.length G (YAt (l.map V.int)) ∧ ∀ H', Same H1 H' → G H') → R J H1) → WI (XC P w K mg base d_are_turns N_are_turns (d_are_turns.path K) cdv A outer s H E) tg (.Name "turns" ps) (L2.start N_are_turns [.ref p, .int (l.length : Nat)]) H1 R := by
      intro tg ps R k
      rcases hp.mono s1 with h1 | h1
      · exact wi_list (we_var 0 rfl ⟨p, _, rfl, SqL.of h1, k _ ⟨_, by have := walk_list (K := K) (a := p) (xs := l.map V.int); rw [List.length_map] at this; exact this, fun H' s' => s'.seq (SqL.of h1)⟩⟩)
      · exact wi_tup (we_var 0 rfl ⟨p, _, rfl, SqT.of h1, k _ ⟨_, by have := walk_tup (K := K) (a := p) (xs := l.map V.int); rw [List.length_map] at this; exact this, fun H' s' => Cab.Same.seqT s' (SqT.of h1)⟩⟩)
    refine we_lc sc_are_turns [("turn", 2)] (walkIt _ _ _ fun J ⟨G, wk, hG⟩ => ?_)
    refine lcMap (fun _ => V.bl true) wk (fun _ _ _ _ y => y.1) (by omega) hG ?_ ?_
    · rintro i x H2 hi s2 ⟨_, hx⟩ s0 H0 C cl fp
      obtain ⟨z, hz, rfl⟩ := map_get hx
      have hz2 := ht z (List.mem_of_getElem? hz)
      refine wg_name 2 ⟨rfl, fun s0 H0 C cl fp => ?_⟩ sc_are_turns.nd
      refine we_call (ok_is_between T) (T.g g_is_between) hr (wa_cons (we_var 2 rfl (wa_cons (we_int (wa_cons (we_glob mu ru (wa_nil ⟨_, _, _, rfl, z, 1, 9, rfl, rfl, rfl, ?_, fun _ _ e => e⟩)))))))
      rw [decide_eq_true hz2]
    intro D H2 hD s2 hDl
    refine wa_nil ⟨D, List.replicate l.length true, rfl, SqL.of (by rw [hDl, map_rep]; simp [List.map_const']), true, by rw [all_rep], rfl, ?_⟩
    refine wb_cons (ws_ret (we_blt (cr_all rfl) (T.fr f_all) (by decide +kernel) (wa_cons ?_)))
    refine we_lc sc_are_turns [("place", 3)] (wi_rng1 (T.fr f_range) (we_sub (we_var 1 rfl (we_int ⟨_, _, rfl, rfl, ((l.length : Nat) : Int) - 1, rfl, by omega, by omega, ?_⟩))))
    refine lcMap (fun _ => V.bl true) (walk_range (lo := 0)) (fun _ _ _ _ y => y.1) (by omega) (fun _ _ => trivial) ?_ ?_
    · rintro i x H3 hi s3 ⟨_, rfl⟩ s0 H0 C cl fp
      have s13 : Same H H3 := Same.trans s1 (Same.trans s2 s3)
      refine wg_name 3 ⟨rfl, fun s0 H0 C cl fp => ?_⟩ sc_are_turns.nd
      have hi1 : i + 1 < l.length := by omega
      have e1 : (l.map V.int)[i]? = some (V.int (l[i]'(by omega))) := by rw [List.getElem?_map, List.getElem?_eq_getElem (by omega)]; rfl
      have e2 : (l.map V.int)[i + 1]? = some (V.int (l[i + 1]'hi1)) := by rw [List.getElem?_map, List.getElem?_eq_getElem hi1]; rfl
      have lt : l[i]'(by omega) < l[i + 1]'hi1 := ha i _ _ (List.getElem?_eq_getElem (by omega)) (List.getElem?_eq_getElem hi1)
      have at1 : atI (l.map V.int) (0 + (i : Int)) = some (V.int (l[i]'(by omega))) := at_of (j := i) (by omega) e1
      have at2 : atI (l.map V.int) (0 + (i : Int) + 1) = some (V.int (l[i + 1]'hi1)) := at_of (j := i + 1) (by omega) e2
      have fin2 : ((V.bl (decide (l[i]'(by omega) < l[i + 1]'hi1))) = V.bl true) := by rw [decide_eq_true lt]
      rcases hp.mono s13 with h3 | h3
      · exact we_cmp op_lt (we_ix ix_list (we_var 0 rfl (we_var 3 rfl ⟨p, _, _, _, rfl, rfl, SqL.of h3, at1, we_ix ix_list (we_var 0 rfl (we_add (we_var 3 rfl (we_int ⟨_, _, rfl, rfl, p, _, _, _, rfl, rfl, SqL.of h3, at2, _, _, rfl, rfl, fin2, fun _ _ e => e⟩))))⟩)))
      · exact we_cmp op_lt (we_ix ix_tup (we_var 0 rfl (we_var 3 rfl ⟨p, _, _, _, rfl, rfl, SqT.of h3, at1, we_ix ix_tup (we_var 0 rfl (we_add (we_var 3 rfl (we_int ⟨_, _, rfl, rfl, p, _, _, _, rfl, rfl, SqT.of h3, at2, _, _, rfl, rfl, fin2, fun _ _ e => e⟩))))⟩)))
    intro D2 H3 hD2 s3 hDl2
    refine wa_nil ⟨D2, List.replicate (((l.length : Nat) : Int) - 1).toNat true, rfl, SqL.of (by rw [hDl2, map_rep]; simp [List.map_const']), ?_⟩
    rw [all_rep]
    exact q H3 (Same.trans s1 (Same.trans s2 s3))
  rcases hp.mono s1 with h1 | h1
  · exact ⟨_, tp, [.ty "list", .ty "tuple"], .type "list", [.type "list", .type "tuple"], true, rfl, e1, .cons (.ty _) (.cons (.ty _) .nil), .base (.lst h1), by first | rfl | kernel_rfl, true, rfl, iteF fin⟩
  · exact ⟨_, tp, [.ty "list", .ty "tuple"], .type "tuple", [.type "list", .type "tuple"], true, rfl, e1, .cons (.ty _) (.cons (.ty _) .nil), .base (.tup h1), by first | rfl | kernel_rfl, true, rfl, iteF fin⟩
end
end Cab
/-! text Cab6 -/
set_option Elab.async false
set_option linter.all false
set_option maxRecDepth 100000
set_option maxHeartbeats 2000000
namespace Cab
open PySem PySem.Spec PyProof.Rows L2 He
theorem cut2 {a b c d : V} : cutV [a, b, c, d] none (some 2) = [a, b] := by rw [cutV_to (by decide) (by show (2 : Int) ≤ 4; decide)]; rfl
section
variable {P : Program} {w : World} {K : PySem.W.Frag} {mg : Str → Option Value} {base : Heap}
/-- reading a meter's field through a name -/
theorem we_mfld {X : Cx} {T : TX X.K X.mg} {e : Expr} {f : Str} {pos : Pos} {σ : L2.St} {H : Hp} {Q : VK} {p dx n t u : Addr} {v x : V} (na : NoAttr X.K (ga X.K "Meter") f) (hp : H p = some (.ins (ga X.K "Meter") dx (mFs n t u v))) (hl : (mFs n t u v).lookup f = some x)
    (h : WE X e σ H fun y H1 => y = .ref p ∧ H1 = H) (q : Q x H) (hb : attributeBase e f X.env (eval e X.env) = eval e X.env := by rfl) : WE X (.Attribute e f pos) σ H Q :=
  we_fld' (T.c c_Meter) na (WE.mono h fun y H1 ⟨ey, eH⟩ => ⟨p, dx, _, x, ey, by rw [eH]; exact hp, hl, by rw [eH]; exact q⟩) hb
def spTableAt (K : PySem.W.Frag) : Sp := sp2 fun a b H Q => ∃ (p : Addr) (M : Met) (j : Int), a = .ref p ∧ MetAt K H p M ∧ okMet M ∧ b = .int j ∧ ∀ q H', Same H H' → TabAt K H' q (M.tabs.getD (M.idx j) []) → Q (.ref q) H'
theorem ok_Meter_table_at (T : TX K mg) : FnP P w K mg base d_Meter_table_at 1 ["self", "jumps"] (spTableAt K) [] := by
  refine fn2 (T.d D_Meter_table_at) rfl sc_Meter_table_at bd_Meter_table_at fun cdv A outer s H Q E a b hr h => ?_
  obtain ⟨p, M, j, rfl, hM, ok, rfl, q⟩ := h
  obtain ⟨dx, n, t, u, v, ps, h1, h2, h3, h4, h5⟩ := hM.ex
  refine wb_cons (ws_ret (we_ix ix_tup (we_mfld (T := T) (T.n n_Meter_own_tables) h1 mFs_t (we_var 0 rfl ⟨rfl, rfl⟩) ?_)))
  refine we_blt call_len_seq (T.fr f_len) boot_len (wa_cons ?_)
  refine we_lc sc_Meter_table_at [("turn", 2)] (wi_tup (we_mfld (T := T) (T.n n_Meter_own_turns) h1 mFs_u (we_var 0 rfl ⟨rfl, rfl⟩) ⟨u, _, rfl, SqT.of h4, ?_⟩))
  refine lcFil (fun i => decide (M.turns.getD i 0 ≤ j)) (fun i => V.int (M.turns.getD i 0)) (walk_tup (xs := M.turns.map V.int)) (fun _ _ _ _ y => y.1) (by rw [List.length_map]; have := ok.len; have := ok.len3; omega) (fun _ s' => Same.seqT s' (SqT.of h4)) ?_ ?_
  · rintro i x H2 hi s2 ⟨_, hx⟩ s0 H0 C cl fp
    obtain ⟨z, hz, rfl⟩ := map_get hx
    have e3 : M.turns.getD i 0 = z := by rw [List.getD_eq_getElem?_getD, hz]; rfl
    refine wg_name 2 ⟨rfl, fun s0 H0 C cl fp => ?_⟩ sc_Meter_table_at.nd
    refine wt_cmp op_le (we_var 2 rfl (we_var 1 rfl ⟨_, _, rfl, rfl, _, rfl, by rw [e3], fun _ _ e => e, fun _ s0 H0 C cl fp => we_var 2 rfl ⟨by rw [e3], fun _ _ e => e⟩⟩))
  intro D H2 hD s2 hDl
  have hix := ok.idx_lt j
  obtain ⟨r, hr1⟩ : ∃ r, M.tabs[M.idx j]? = some r := ⟨_, List.getElem?_eq_getElem hix⟩
  obtain ⟨y, hy, ty⟩ := paired_get h5 hr1
  refine wa_nil ⟨D, _, rfl, .inl (SqL.of hDl), t, _, _, _, rfl, rfl, SqT.of (s2 _ _ h3), at_of (j := M.idx j) (v := .ref y) ?_ ?_, ?_⟩
  · rw [List.length_map, List.length_map, filter_len]
    rfl
  · rw [List.getElem?_map, hy]; rfl
  · refine q y H2 s2 ?_
    rw [List.getD_eq_getElem?_getD, hr1]
    exact ty.mono s2
def spJumpsAt (K : PySem.W.Frag) : Sp := sp2 fun a b H Q => ∃ (p : Addr) (M : Met) (c : Int), a = .ref p ∧ MetAt K H p M ∧ okMet M ∧ b = .int c ∧ ∀ H', Same H H' → Q (.int (M.jumpsAt c)) H'
theorem ok_Meter_jumps_at (T : TX K mg) : FnP P w K mg base d_Meter_jumps_at 1 ["self", "count"] (spJumpsAt K) [] := by
  refine fn2 (T.d D_Meter_jumps_at) rfl sc_Meter_jumps_at bd_Meter_jumps_at fun cdv A outer s H Q E a b hr h => ?_
  obtain ⟨p, M, c, rfl, hM, ok, rfl, q⟩ := h
  obtain ⟨dx, n, t, u, v, ps, h1, h2, h3, h4, h5⟩ := hM.ex
  refine wb_cons (ws_asg (we_cut sl_tup (we_mfld (T := T) (T.n n_Meter_own_numbers) h1 mFs_n (we_var 0 rfl ⟨rfl, rfl⟩) (we_int ⟨2, rfl, n, _, rfl, SqT.of h2, ?_, ?_⟩))))
  · rintro ⟨_, h⟩
    revert h
    show ¬ (HT.sIx 4 4 (some 2) = 4)
    decide
  intro l hl
  rw [cut2]
  refine wg_tup2 2 3 (SqT.of upd_same) ?_ rfl sc_Meter_jumps_at.nd
  refine wb_cons (ws_ret (we_ifExp (wt_cmp op_lt (we_var 1 rfl (we_var 2 rfl ⟨_, _, rfl, rfl, _, rfl, ?_⟩)))))
  have d1 := ok.d1
  have d2 := ok.d2
  by_cases hc : c < M.first
  · rw [decide_eq_true hc]
    have e : M.jumpsAt c = 0 := by unfold Met.jumpsAt; rw [if_pos hc]
    rw [e] at q
    exact iteT (we_int (q _ (Same.new hl)))
  · rw [decide_eq_false hc]
    have e : M.jumpsAt c = 1 + (c - M.first) / M.drop := by unfold Met.jumpsAt; rw [if_neg hc]
    rw [e] at q
    exact iteF (we_add (we_int (we_op op_fdiv (we_sub (we_var 1 rfl (we_var 2 rfl ⟨_, _, rfl, rfl, we_var 3 rfl ⟨_, _, rfl, rfl, ⟨by omega, by omega⟩, _, _, rfl, rfl, q _ (Same.new hl)⟩⟩))))))
def spCountOn (K : PySem.W.Frag) : Sp := sp3 fun a b z H Q => ∃ (p : Addr) (M : Met) (c : Int) (n : Nat), a = .ref p ∧ MetAt K H p M ∧ okMet M ∧ b = .int c ∧ z = .int (n : Int) ∧ n < 10 ∧ ∀ H', Same H H' → Q (.int (M.countOn c n)) H'
theorem ok_Meter_count_on (T : TX K mg) : FnP P w K mg base d_Meter_count_on 6 ["self", "count", "speed"] (spCountOn K) [] := by
  refine fn3 (T.d D_Meter_count_on) rfl sc_Meter_count_on bd_Meter_count_on fun cdv A outer s H Q E a b z hr h => ?_
  obtain ⟨p, M, c, n, rfl, hM, ok, rfl, rfl, hn, q⟩ := h
  obtain ⟨dx, n', t, u, v, ps, h1, h2, h3, h4, h5⟩ := hM.ex
  refine wb_cons (ws_ret (we_add (we_var 1 rfl (we_getitem (ok_Table_getitem T) (T.m m_Table_getitem) (T.x gi_Table) hr ?_))))
  refine we_meth (ok_Meter_table_at T) (T.c c_Meter) (T.m m_Meter_table_at) hr (we_var 0 rfl ⟨p, dx, _, rfl, h1, by kernel_rfl, wa_cons ?_⟩)
  refine we_meth (ok_Meter_jumps_at T) (T.c c_Meter) (T.m m_Meter_jumps_at) hr (we_var 0 rfl ⟨p, dx, _, rfl, h1, by kernel_rfl, wa_cons (we_var 1 rfl (wa_nil ⟨_, _, rfl, p, M, c, rfl, hM, ok, rfl, fun H1 s1 => wa_nil ⟨_, _, rfl, p, M, _, rfl, hM.mono s1, ok, rfl, fun q2 H2 s2 t2 => ?_⟩⟩))⟩)
  obtain ⟨dx2, r2, e2, e3⟩ := id t2
  have row := ok.row (M.jumpsAt c)
  refine ⟨q2, dx2, _, rfl, we_var 2 rfl ⟨e2, _, _, rfl, q2, _, _, rfl, t2, row.1, rfl, by omega, by omega, _, _, rfl, rfl, ?_⟩⟩
  exact q H2 (Same.trans s1 s2)
def spGetter (K : PySem.W.Frag) (f : Met → Int) : Sp := sp1 fun a H Q => ∃ (p : Addr) (M : Met), a = .ref p ∧ MetAt K H p M ∧ Q (.int (f M)) H
theorem ok_Meter_drop (T : TX K mg) : FnP P w K mg base d_Meter_drop 1 ["self"] (spGetter K Met.drop) [] := by
  refine fn1 (T.d D_Meter_drop) rfl sc_Meter_drop bd_Meter_drop fun cdv A outer s H Q E a hr h => ?_
  obtain ⟨p, M, rfl, hM, q⟩ := h
  obtain ⟨dx, n, t, u, v, ps, h1, h2, h3, h4, h5⟩ := hM.ex
  exact wb_cons (ws_ret (we_ix ix_tup (we_mfld (T := T) (T.n n_Meter_own_numbers) h1 mFs_n (we_var 0 rfl ⟨rfl, rfl⟩) (we_int ⟨n, _, 1, _, rfl, rfl, SqT.of h2, by kernel_rfl, q⟩))))
theorem ok_Meter_flag (T : TX K mg) : FnP P w K mg base d_Meter_flag 1 ["self"] (spGetter K Met.flag) [] := by
  refine fn1 (T.d D_Meter_flag) rfl sc_Meter_flag bd_Meter_flag fun cdv A outer s H Q E a hr h => ?_
  obtain ⟨p, M, rfl, hM, q⟩ := h
  obtain ⟨dx, n, t, u, v, ps, h1, h2, h3, h4, h5⟩ := hM.ex
  exact wb_cons (ws_ret (we_ix ix_tup (we_mfld (T := T) (T.n n_Meter_own_numbers) h1 mFs_n (we_var 0 rfl ⟨rfl, rfl⟩) (we_int ⟨n, _, 2, _, rfl, rfl, SqT.of h2, by kernel_rfl, q⟩))))
theorem ok_Meter_each (T : TX K mg) : FnP P w K mg base d_Meter_each 1 ["self"] (spGetter K Met.each) [] := by
  refine fn1 (T.d D_Meter_each) rfl sc_Meter_each bd_Meter_each fun cdv A outer s H Q E a hr h => ?_
  obtain ⟨p, M, rfl, hM, q⟩ := h
  obtain ⟨dx, n, t, u, v, ps, h1, h2, h3, h4, h5⟩ := hM.ex
  exact wb_cons (ws_ret (we_ix ix_tup (we_mfld (T := T) (T.n n_Meter_own_numbers) h1 mFs_n (we_var 0 rfl ⟨rfl, rfl⟩) (we_int ⟨n, _, 3, _, rfl, rfl, SqT.of h2, by kernel_rfl, q⟩))))
def spStart (K : PySem.W.Frag) : Sp := sp1 fun a H Q => ∃ (p : Addr) (M : Met), a = .ref p ∧ MetAt K H p M ∧ ∀ q H', Same H H' → H q = none → H' q = some (.tup [.int 0, .int M.first]) → Q (.ref q) H'
theorem ok_Meter_start (T : TX K mg) : FnP P w K mg base d_Meter_start 1 ["self"] (spStart K) [] := by
  refine fn1 (T.d D_Meter_start) rfl sc_Meter_start bd_Meter_start fun cdv A outer s H Q E a hr h => ?_
  obtain ⟨p, M, rfl, hM, q⟩ := h
  obtain ⟨dx, n, t, u, v, ps, h1, h2, h3, h4, h5⟩ := hM.ex
  refine wb_cons (ws_ret (we_tup (wa_cons (we_int (wa_cons (we_ix ix_tup (we_mfld (T := T) (T.n n_Meter_own_numbers) h1 mFs_n (we_var 0 rfl ⟨rfl, rfl⟩) (we_int ⟨n, _, 0, _, rfl, rfl, SqT.of h2, by kernel_rfl, wa_nil ⟨by show 2 ≤ sizeLine; decide, fun z H2 hz s2 e2 => q z H2 s2 hz e2⟩⟩))))))))
def spPriceAt (K : PySem.W.Frag) : Sp := sp2 fun a b H Q => ∃ (p : Addr) (M : Met) (c : Int), a = .ref p ∧ MetAt K H p M ∧ okMet M ∧ b = .int c ∧ 0 ≤ c ∧ ∀ H', Same H H' → Q (.int (M.price c)) H'
theorem ok_Meter_price_at (T : TX K mg) : FnP P w K mg base d_Meter_price_at 3 ["self", "count"] (spPriceAt K) [] := by
  refine fn2 (T.d D_Meter_price_at) rfl sc_Meter_price_at bd_Meter_price_at fun cdv A outer s H Q E a b hr h => ?_
  obtain ⟨p, M, c, rfl, hM, ok, rfl, hc, q⟩ := h
  obtain ⟨dx, n, t, u, v, ps, h1, h2, h3, h4, h5⟩ := hM.ex
  refine wb_cons (ws_guard (wt_W (ww_or (wt_not (wt_val ?_)))))
  refine we_call (ok_is_whole T) (T.g g_is_whole) hr (wa_cons (we_var 1 rfl (wa_nil ⟨_, rfl, c, rfl, true, rfl, iteF (ww_or1 ?_)⟩)))
  refine wt_cmp op_lt (we_var 1 rfl (we_int ⟨_, _, rfl, rfl, _, rfl, decide_eq_false (by omega), ?_⟩))
  refine wb_cons (ws_ret (we_add (we_prop (ok_Meter_flag T) (T.c c_Meter) (propB_ok (T.x p_Meter_flag)) hr (we_var 0 rfl ⟨p, dx, _, rfl, h1, _, rfl, p, M, rfl, hM, ?_⟩))))
  refine we_op op_mul (we_prop (ok_Meter_each T) (T.c c_Meter) (propB_ok (T.x p_Meter_each)) hr (we_var 0 rfl ⟨p, dx, _, rfl, h1, _, rfl, p, M, rfl, hM, ?_⟩))
  refine we_meth (ok_Meter_jumps_at T) (T.c c_Meter) (T.m m_Meter_jumps_at) hr (we_var 0 rfl ⟨p, dx, _, rfl, h1, by kernel_rfl, wa_cons (we_var 1 rfl (wa_nil ⟨_, _, rfl, p, M, c, rfl, hM, ok, rfl, fun H1 s1 => ⟨_, _, rfl, rfl, .inl ⟨?_, ?_⟩, _, _, rfl, rfl, q H1 s1⟩⟩))⟩)
  · have := ok.e1; omega
  · have := ok.e2; omega
end
end Cab
/-! text Cab7 -/
set_option Elab.async false
set_option linter.all false
set_option maxRecDepth 100000
set_option maxHeartbeats 2000000
namespace Cab
open PySem PySem.Spec PyProof.Rows L2 He
theorem atI_back (l : List Int) (h : l ≠ []) : atI (l.map V.int) (-1) = some (.int (l.getLastD 0)) := by
  have e1 : l = l.dropLast ++ [l.getLast h] := (List.dropLast_concat_getLast h).symm
  have e2 : l.getLastD 0 = l.getLast h := by rw [List.getLastD_eq_getLast?, List.getLast?_eq_some_getLast h]; rfl
  have e3 : l.map V.int = l.dropLast.map V.int ++ [V.int (l.getLast h)] := by
    conv => lhs; rw [e1]
    rw [List.map_append]
    rfl
  rw [e2, e3]
  exact atI_last _ _
section
variable {P : Program} {w : World} {K : PySem.W.Frag} {mg : Str → Option Value} {base : Heap}
def spLast (K : PySem.W.Frag) : Sp := sp1 fun a H Q => ∃ (p : Addr) (M : Met), a = .ref p ∧ MetAt K H p M ∧ ∀ H', Same H H' → Q (.int M.last) H'
theorem ok_Meter_last_turn (T : TX K mg) : FnP P w K mg base d_Meter_last_turn 1 ["self"] (spLast K) [] := by
  refine fn1 (T.d D_Meter_last_turn) rfl sc_Meter_last_turn bd_Meter_last_turn fun cdv A outer s H Q E a hr h => ?_
  obtain ⟨p, M, rfl, hM, q⟩ := h
  obtain ⟨dx, n, t, u, v, ps, h1, h2, h3, h4, h5⟩ := hM.ex
  refine wb_cons (ws_ret (we_ifExp (wt_cmp (op_eqD hr.units) (we_mfld (T := T) (T.n n_Meter_own_turns) h1 mFs_u (we_var 0 rfl ⟨rfl, rfl⟩) (we_tup (wa_nil ⟨Nat.zero_le _, fun z H2 hz s2 e2 => ?_⟩))))))
  refine ⟨_, _, dpT_ints (SqT.of (s2 _ _ h4)), dpT_ints (l := []) (SqT.of e2), sh_tup (lay_ints _), sh_tup (lay_ints _), _, rfl, ?_⟩
  rw [eqvT_ints]
  by_cases hc : M.turns = []
  · rw [decide_eq_true hc]
    have e : M.last = 0 := by unfold Met.last; rw [hc]; rfl
    rw [e] at q
    exact iteT (we_int (q H2 s2))
  · rw [decide_eq_false hc]
    exact iteF (we_ix ix_tup (we_mfld (T := T) (T.n n_Meter_own_turns) (s2 _ _ h1) mFs_u (we_var 0 rfl ⟨rfl, rfl⟩) (we_un un_neg (we_int ⟨1, rfl, u, _, -1, _, rfl, rfl, SqT.of (s2 _ _ h4), atI_back _ hc, q H2 s2⟩))))
/-- a stand: two numbers in bounds -/
def StandAt (H : Hp) (g : Addr) : Prop := ∃ st l : Int, H g = some (.tup [.int st, .int l]) ∧ 0 ≤ st ∧ st ≤ 9 ∧ 1 ≤ l ∧ l ≤ 60
theorem StandAt.mono {H H' : Hp} {g : Addr} (s : Same H H') (h : StandAt H g) : StandAt H' g := let ⟨a, b, e, r⟩ := h; ⟨a, b, s _ _ e, r⟩
def spStepFrom (K : PySem.W.Frag) : Sp := sp3 fun a b z H Q => ∃ (p q : Addr) (M : Met) (n : Nat), a = .ref p ∧ MetAt K H p M ∧ okMet M ∧ b = .ref q ∧ StandAt H q ∧ z = .int (n : Int) ∧ n < 10 ∧
  ∀ t g many H', Same H H' → H' t = some (.tup [.ref g, .int many]) → StandAt H' g → Q (.ref t) H'
theorem ok_Meter_step_from (T : TX K mg) : FnP P w K mg base d_Meter_step_from 6 ["self", "stand", "speed"] (spStepFrom K) [] := by
  refine fn3 (T.d D_Meter_step_from) rfl sc_Meter_step_from bd_Meter_step_from fun cdv A outer s H Q E a b z hr h => ?_
  obtain ⟨p, q, M, n, rfl, hM, ok, rfl, ⟨st, l, hq, st0, st9, l1, l60⟩, rfl, hn, k⟩ := h
  obtain ⟨dx, n', t, u, v, ps, h1, h2, h3, h4, h5⟩ := hM.ex
  have wr := ok.worth0 st hn
  have d1 := ok.d1
  have d2 := ok.d2
  have l9 := ok.last9
  refine wb_cons (ws_asg (we_var 1 rfl (wg_tup2 3 4 (SqT.of hq) ?_ rfl sc_Meter_step_from.nd)))
  refine wb_cons (ws_set 5 (we_getitem (ok_Table_getitem T) (T.m m_Table_getitem) (T.x gi_Table) hr ?_) sc_Meter_step_from.nd)
  refine we_meth (ok_Meter_table_at T) (T.c c_Meter) (T.m m_Meter_table_at) hr (we_var 0 rfl ⟨p, dx, _, rfl, h1, by kernel_rfl, wa_cons (we_var 3 rfl (wa_nil ⟨_, _, rfl, p, M, _, rfl, hM, ok, rfl, fun q2 H2 s2 t2 => ?_⟩))⟩)
  obtain ⟨dx2, r2, e2, e3⟩ := id t2
  have row := ok.row st
  refine ⟨q2, dx2, _, rfl, we_var 2 rfl ⟨e2, _, _, rfl, q2, _, n, rfl, t2, row.1, rfl, by omega, by omega, ?_⟩⟩
  have ew : (M.tabs.getD (M.idx st) []).getD (n : Int).toNat 0 = M.worth st n := rfl
  rw [ew]
  generalize hw : M.worth st n = wo at *
  refine wb_cons (ws_if (wt_cmp op_lt (we_var 5 rfl (we_var 4 rfl ⟨_, _, rfl, rfl, _, rfl, ?_⟩))))
  by_cases hc : wo < l
  · rw [decide_eq_true hc]
    refine iteT <| wb_cons <| ws_ret <| we_tup <| wa_cons <| we_tup <| wa_cons <| we_var 3 rfl <| wa_cons <| we_sub <| we_var 4 rfl <| we_var 5 rfl ⟨_, _, rfl, rfl, wa_nil ⟨by show 2 ≤ sizeLine; decide, fun g H3 hg s3 e3 => wa_cons <| we_int <| wa_nil ⟨by show 2 ≤ sizeLine; decide, fun t' H4 ht s4 e4 => ?_⟩⟩⟩
    exact k t' g 0 H4 (Same.trans s2 (Same.trans s3 s4)) e4 ⟨st, l - wo, s4 _ _ e3, st0, st9, by omega, by omega⟩
  · rw [decide_eq_false hc]
    refine iteF (wb_nil (wb_cons (ws_set 6 (we_sub (we_var 5 rfl (we_var 4 rfl ⟨_, _, rfl, rfl, ?_⟩))) sc_Meter_step_from.nd)))
    have hM2 := hM.mono s2
    refine wb_cons (ws_set 7 (we_add (we_int (we_op op_fdiv (we_var 6 rfl (we_prop (ok_Meter_drop T) (T.c c_Meter) (propB_ok (T.x p_Meter_drop)) hr (we_var 0 rfl ⟨p, dx, _, rfl, s2 _ _ h1, _, rfl, p, M, rfl, hM2, _, _, rfl, rfl, ⟨by omega, by omega⟩, _, _, rfl, rfl, ?_⟩)))))) sc_Meter_step_from.nd)
    have m0 : 0 ≤ (wo - l) / M.drop := Int.ediv_nonneg (by omega) (by omega)
    have r0 : 0 ≤ (wo - l) % M.drop := Int.emod_nonneg _ (by omega)
    have r1 : (wo - l) % M.drop < M.drop := Int.emod_lt_of_pos _ (by omega)
    refine wb_cons <| ws_ret <| we_tup <| wa_cons <| we_tup <| wa_cons <| we_blt (call_min2 rfl) (T.fr f_min) (by decide +kernel) <| wa_cons <| we_add <| we_var 3 rfl <| we_var 7 rfl ⟨_, _, rfl, rfl, wa_cons ?_⟩
    refine we_meth0 (ok_Meter_last_turn T) (T.c c_Meter) (T.m m_Meter_last_turn) hr (we_var 0 rfl ⟨p, dx, _, rfl, s2 _ _ h1, by kernel_rfl, _, rfl, p, M, rfl, hM2, fun H3 s3 => wa_nil ⟨_, _, rfl, ?_⟩⟩)
    refine wa_cons (we_sub (we_prop (ok_Meter_drop T) (T.c c_Meter) (propB_ok (T.x p_Meter_drop)) hr (we_var 0 rfl ⟨p, dx, _, rfl, s3 _ _ (s2 _ _ h1), _, rfl, p, M, rfl, hM2.mono s3, ?_⟩)))
    refine we_op op_mod (we_var 6 rfl (we_prop (ok_Meter_drop T) (T.c c_Meter) (propB_ok (T.x p_Meter_drop)) hr (we_var 0 rfl ⟨p, dx, _, rfl, s3 _ _ (s2 _ _ h1), _, rfl, p, M, rfl, hM2.mono s3, _, _, rfl, rfl, by show 0 < M.drop; omega, _, _, rfl, rfl, wa_nil ⟨by show 2 ≤ sizeLine; decide, fun g H4 hg s4 e4 => wa_cons (we_var 7 rfl (wa_nil ⟨by show 2 ≤ sizeLine; decide, fun t' H5 ht s5 e5 => ?_⟩))⟩⟩)))
    refine k t' g _ H5 (Same.trans s2 (Same.trans s3 (Same.trans s4 s5))) e5 ⟨_, _, s5 _ _ e4, ?_, ?_, by omega, by omega⟩
    · split <;> omega
    · split <;> omega
end
end Cab
/-! text Cab8 -/
set_option Elab.async false
set_option linter.all false
set_option maxRecDepth 100000
set_option maxHeartbeats 4000000
namespace Cab
open PySem PySem.Spec PyProof.Rows L2 He
theorem nodup_le {α : Type} [DecidableEq α] : ∀ (l m : List α), l.Nodup → (∀ x ∈ l, x ∈ m) → l.length ≤ m.length
  | [], _, _, _ => Nat.zero_le _
  | a :: l, m, hn, hs => by
    obtain ⟨h1, h2⟩ := List.nodup_cons.mp hn
    have ha := hs a List.mem_cons_self
    have ih := nodup_le l (m.erase a) h2 fun x hx => (List.mem_erase_of_ne fun e => h1 (by rw [← e]; exact hx)).mpr (hs x (List.mem_cons_of_mem _ hx))
    rw [List.length_erase_of_mem ha] at ih
    have : 0 < m.length := List.length_pos_of_mem ha
    simp
    omega
/-- all stands there can be -/
def allStands : List (List Key) := (List.range 10).flatMap fun a => (List.range 60).map fun b => [Sum.inl ((a : Nat) : Int), Sum.inl (((b + 1 : Nat)) : Int)]
theorem allStands_len : allStands.length = 600 := by decide +kernel
theorem mem_allStands {st l : Int} (h0 : 0 ≤ st) (h9 : st ≤ 9) (h1 : 1 ≤ l) (h60 : l ≤ 60) : ([Sum.inl st, Sum.inl l] : List Key) ∈ allStands := by
  unfold allStands
  rw [List.mem_flatMap]
  refine ⟨st.toNat, List.mem_range.mpr (by omega), List.mem_map.mpr ⟨(l - 1).toNat, List.mem_range.mpr (by omega), ?_⟩⟩
  have e1 : ((st.toNat : Nat) : Int) = st := by omega
  have e2 : (((l - 1).toNat + 1 : Nat) : Int) = l := by omega
  rw [e1, e2]
theorem putK_has {κ : Type} [DecidableEq κ] {kvs : List (κ × V)} {k : κ} {v : V} (h : valV kvs k = none) : putK kvs k v = kvs ++ [(k, v)] := putK_new v h
theorem mFs_eq {n t u : Addr} {v : V} : putF "own_steps" v (putF "own_turns" (.ref u) (putF "own_tables" (.ref t) (putF "own_numbers" (.ref n) []))) = mFs n t u v := by kernel_rfl
theorem mFs_l {n t u : Addr} {v : V} : (putF "own_turns" (.ref u) (putF "own_tables" (.ref t) (putF "own_numbers" (.ref n) ([] : List (Str × V))))).length < 1000 := by
  have e : putF "own_turns" (.ref u) (putF "own_tables" (.ref t) (putF "own_numbers" (.ref n) ([] : List (Str × V)))) = [(Str.ofString "own_numbers", V.ref n), (Str.ofString "own_tables", V.ref t), (Str.ofString "own_turns", V.ref u)] := by kernel_rfl
  rw [e]
  show 3 < 1000
  decide
def TI : HO → Prop
  | .tup _ => True
  | .ins _ _ _ => True
  | _ => False
theorem But.ti {q a : Addr} {H H' : Hp} {o o' : HO} (b : But q H H') (hq : H q = some o') (no : ¬ TI o') (e : H a = some o) (ti : TI o) : H' a = some o := b a o e (fun z => by
  subst z
  rw [hq] at e
  cases e
  exact no ti)
theorem StandAt.but {q g : Addr} {H H' : Hp} {o' : HO} (b : But q H H') (hq : H q = some o') (no : ¬ TI o') (h : StandAt H g) : StandAt H' g := let ⟨x, y, e, r⟩ := h; ⟨x, y, b.ti hq no e trivial, r⟩
theorem TabAt.but {K : PySem.W.Frag} {q p : Addr} {r : List Int} {H H' : Hp} {o' : HO} (b : But q H H') (hq : H q = some o') (no : ¬ TI o') (t : TabAt K H p r) : TabAt K H' p r := let ⟨dx, z, e1, e2⟩ := t; ⟨dx, z, b.ti hq no e1 trivial, b.ti hq no e2 trivial⟩
def MetV (K : PySem.W.Frag) (H : Hp) (p : Addr) (M : Met) (v : V) : Prop :=
  ∃ dx n t u ps, H p = some (.ins (ga K "Meter") dx (mFs n t u v)) ∧ H n = some (.tup [.int M.first, .int M.drop, .int M.flag, .int M.each]) ∧ H t = some (.tup (ps.map V.ref)) ∧ H u = some (.tup (M.turns.map V.int)) ∧ TabsAt K H ps M.tabs
theorem MetV.at {K : PySem.W.Frag} {H : Hp} {p : Addr} {M : Met} {v : V} (h : MetV K H p M v) : MetAt K H p M := let ⟨dx, n, t, u, ps, h⟩ := h; ⟨dx, n, t, u, v, ps, h⟩
theorem MetV.mono {K : PySem.W.Frag} {H H' : Hp} {p : Addr} {M : Met} {v : V} (s : Same H H') (h : MetV K H p M v) : MetV K H' p M v := by
  obtain ⟨dx, n, t, u, ps, h1, h2, h3, h4, h5⟩ := h
  exact ⟨dx, n, t, u, ps, s _ _ h1, s _ _ h2, s _ _ h3, s _ _ h4, h5.mono s⟩
theorem MetV.but {K : PySem.W.Frag} {q p : Addr} {M : Met} {v : V} {H H' : Hp} {o' : HO} (b : But q H H') (hq : H q = some o') (no : ¬ TI o') (h : MetV K H p M v) : MetV K H' p M v := by
  obtain ⟨dx, n, t, u, ps, h1, h2, h3, h4, h5⟩ := h
  exact ⟨dx, n, t, u, ps, b.ti hq no h1 trivial, b.ti hq no h2 trivial, b.ti hq no h3 trivial, b.ti hq no h4 trivial, Paired.mapP h5 fun _ _ t => t.but b hq no⟩
theorem MetAt.but {K : PySem.W.Frag} {q p : Addr} {M : Met} {H H' : Hp} {o' : HO} (b : But q H H') (hq : H q = some o') (no : ¬ TI o') (h : MetAt K H p M) : MetAt K H' p M := by
  obtain ⟨dx, n, t, u, v, ps, h1, h2, h3, h4, h5⟩ := h.ex
  exact ⟨dx, n, t, u, v, ps, b.ti hq no h1 trivial, b.ti hq no h2 trivial, b.ti hq no h3 trivial, b.ti hq no h4 trivial, Paired.mapP h5 fun _ _ t => t.but b hq no⟩
/-- one of step_from's answers -/
def GoStep (H : Hp) (x : V) : Prop := ∃ t g many, x = .ref t ∧ H t = some (.tup [.ref g, .int many]) ∧ StandAt H g
theorem GoStep.mono {H H' : Hp} {x : V} (s : Same H H') (h : GoStep H x) : GoStep H' x := let ⟨t, g, m, e, e1, e2⟩ := h; ⟨t, g, m, e, s _ _ e1, e2.mono s⟩
theorem GoStep.but {q : Addr} {H H' : Hp} {o' : HO} {x : V} (b : But q H H') (hq : H q = some o') (no : ¬ TI o') (h : GoStep H x) : GoStep H' x := let ⟨t, g, m, e, e1, e2⟩ := h; ⟨t, g, m, e, b.ti hq no e1 trivial, e2.but b hq no⟩
structure InitInv (K : PySem.W.Frag) (H0 : Hp) (p d L : Addr) (M : Met) (kvs : List (List Key × V)) (gs : List Addr) (H : Hp) : Prop where
  but : But p H0 H
  met : MetV K H p M (.ref d)
  dct : H d = some (.dT kvs)
  nd : (kvs.map (·.1)).Nodup
  ks : ∀ k ∈ kvs.map (·.1), k ∈ allStands
  lin : H L = some (.lst (gs.map V.ref))
  st : ∀ g ∈ gs, StandAt H g
  sz : gs.length ≤ 1 + 10 * kvs.length
theorem InitInv.k600 {K : PySem.W.Frag} {H0 H : Hp} {p d L : Addr} {M : Met} {kvs : List (List Key × V)} {gs : List Addr} (I : InitInv K H0 p d L M kvs gs H) : kvs.length ≤ 600 := by
  have h := nodup_le _ _ I.nd I.ks
  rw [List.length_map, allStands_len] at h
  exact h
def muI (d L : Addr) (H : Hp) : Nat := (match H d with
  | some (.dT kvs) => 11 * (601 - kvs.length)
  | _ => 0) + (match H L with
  | some (.lst xs) => xs.length
  | _ => 0)
theorem muI_eq {d L : Addr} {H : Hp} {kvs : List (List Key × V)} {xs : List V} (h1 : H d = some (.dT kvs)) (h2 : H L = some (.lst xs)) : muI d L H = 11 * (601 - kvs.length) + xs.length := by
  unfold muI
  rw [h1, h2]
theorem last_get {α : Type} {l : List α} {a : α} {r : List α} (h : l = r ++ [a]) : l[l.length - 1]? = some a ∧ l.dropLast = r := by
  subst h
  simp
/-! ### the loop of Meter.__init__ -/
section
variable {P : Program} {w : World} {K : PySem.W.Frag} {mg : Str → Option Value} {base : Heap}
def spMeterInit (K : PySem.W.Frag) : Sp := fun vs H Q _ => ∃ (p dx a b : Addr) (M : Met) (ps : List Addr), vs = [.ref p, .int M.first, .int M.drop, .ref a, .ref b, .int M.flag, .int M.each] ∧ H p = some (.ins (ga K "Meter") dx []) ∧ H a = some (.lst (ps.map V.ref)) ∧ TabsAt K H ps M.tabs ∧
  TurnsAt H b M.turns ∧ okMet M ∧ asc M.turns ∧ ∀ H', But p H H' → MetAt K H' p M → Q .non H'
abbrev XI (P : Program) (w : World) (K : PySem.W.Frag) (mg : Str → Option Value) (base : Heap) (cdv : Value) (A : Around) (outer : List Env) (s : Shared) (H : Hp) (E : XK) : Cx := XC P w K mg base d_Meter_init N_Meter_init (d_Meter_init.path K) cdv A outer s H E
/-- the while and what stands in it -/
def initWhile : Stmt := d_Meter_init.body.getD 12 (.Pass default)
theorem initWhile_ok (T : TX K mg) {cdv : Value} {A : Around} {outer : List Env} {s : Shared} {H0 H1 : Hp} {E : XK} (hr : Room 7 (XI P w K mg base cdv A outer s H0 E).A) {p d L : Addr} {M : Met} {a b : Addr} {kvs : List (List Key × V)} {gs : List Addr} {D : Ends} {v8 : Option V} (ok : okMet M)
    (nd : H0 d = none) (nL : H0 L = none) (I0 : InitInv K H0 p d L M kvs gs H1) (q : ∀ σ H', But p H0 H' → MetAt K H' p M → D.nx σ H') :
    WS (XI P w K mg base cdv A outer s H0 E) initWhile D [some (.ref p), some (.int M.first), some (.int M.drop), some (.ref a), some (.ref b), some (.int M.flag), some (.int M.each), some (.ref L), v8, none, none, none, none] H1 := by
  refine ws_while PassesOwn.never (fun σ H => ∃ kvs gs v8, σ = [some (.ref p), some (.int M.first), some (.int M.drop), some (.ref a), some (.ref b), some (.int M.flag), some (.int M.each), some (.ref L), v8, none, none, none, none] ∧ InitInv K H0 p d L M kvs gs H) (fun _ H => muI d L H) ⟨kvs, gs, v8, rfl, I0⟩ ?_
  rintro σ H ⟨kvs, gs, v8, rfl, I⟩
  refine wt_truth (we_var 7 rfl ⟨_, .inl ⟨_, SqL.of I.lin, rfl⟩, ?_⟩)
  cases hg : gs with
  | nil => exact iteF (q _ H I.but I.met.at)
  | cons g0 gr =>
    rw [← hg]
    have hne : gs ≠ [] := by rw [hg]; simp
    have e0 : (!(gs.map V.ref).isEmpty) = true := by rw [hg]; rfl
    rw [e0]
    obtain ⟨gi, g, hgi⟩ : ∃ gi g, gs = gi ++ [g] := ⟨gs.dropLast, gs.getLast hne, (List.dropLast_concat_getLast hne).symm⟩
    have hgm : gs.map V.ref = gi.map V.ref ++ [V.ref g] := by rw [hgi, List.map_append]; rfl
    obtain ⟨l1, l2⟩ := last_get hgm
    obtain ⟨st, l, eg, st0, st9, ln1, ln60⟩ := I.st g (by rw [hgi]; simp)
    -- stand = line.pop()
    refine iteT <| wb_cons <| ws_set 8 (wE (pe_bm0 PySem.F.plainAttrs_list PySem.F.slot_list_pop PySem.F.type_list_pop mt_pop pE) <| we_var 7 rfl ⟨.inl ⟨rfl, _, SqL.of I.lin⟩, L, _, _, rfl, rfl, I.lin, l1, ?_⟩) sc_Meter_init.nd
    rw [l2]
    have bL : But L H (upd H L (.lst (gi.map V.ref))) := But.upd
    generalize hH2 : upd H L (.lst (gi.map V.ref)) = H2 at bL
    have eL2 : H2 L = some (.lst (gi.map V.ref)) := by rw [← hH2]; exact upd_same
    have nLd : d ≠ L := ne_of I.dct I.lin (by intro z; cases z)
    have ed2 : H2 d = some (.dT kvs) := bL _ _ I.dct nLd
    have eg2 : H2 g = some (.tup [.int st, .int l]) := bL.ti I.lin (fun z => z) eg trivial
    have met2 := I.met.but bL I.lin (fun z => z)
    obtain ⟨dx, n', t', u', ps, m1, m2, m3, m4, m5⟩ := id met2
    have k600 := I.k600
    have hgl : gs.length = gi.length + 1 := by rw [hgi]; simp
    have sz := I.sz
    have st2 : ∀ x ∈ gi, StandAt H2 x := fun x hx => (I.st x (by rw [hgi]; exact List.mem_append_left _ hx)).but bL I.lin (fun z => z)
    have but2 : But p H0 H2 := fun c o e n => bL _ _ (I.but c o e n) (ne_of_none e nL)
    have kin : ([Sum.inl st, Sum.inl l] : List Key) ∈ allStands := mem_allStands st0 st9 ln1 ln60
    have mu1 : muI d L H = 11 * (601 - kvs.length) + (gs.map V.ref).length := muI_eq I.dct I.lin
    rw [List.length_map] at mu1
    refine wb_cons <| ws_if <| wt_dnotin hr <| we_var 8 rfl <| we_fld' (T.c c_Meter) (T.n n_Meter_own_steps) <| we_var 0 rfl ⟨p, dx, _, _, rfl, m1, mFs_s, d, _, rfl, DGet.t (k := [Sum.inl st, Sum.inl l]) ed2 eg2, ?_⟩
    cases hv : valV kvs ([Sum.inl st, Sum.inl l] : List Key) with
    | some v =>
      refine iteF <| wb_nil <| wb_nil ⟨⟨kvs, gi, _, rfl, but2, met2, ed2, I.nd, I.ks, eL2, st2, by omega⟩, ?_⟩
      rw [mu1, muI_eq ed2 eL2, List.length_map]
      omega
    | none =>
      refine iteT <| wb_cons <| ws_dput hr ?_
      -- [self.step_from(stand, speed) for speed in range(SPEEDS)]
      obtain ⟨u, mu, ru⟩ := T.i i_SPEEDS
      refine we_lc sc_Meter_init [("speed", 10)] <| wi_rng1 (T.fr f_range) <| we_glob mu ru ⟨10, rfl, by decide, by decide, ?_⟩
      refine ⟨10, _, _, walk_range (lo := 0) (n := 10), fun D1 hD1 => ⟨fun i acc H' => Same H2 H' ∧ ∀ x ∈ acc, GoStep H' x, fun H' s' _ => ⟨s', fun x hx => by cases hx⟩, fun _ _ _ _ _ _ => trivial, ?_, by decide, ?_⟩⟩
      · rintro i acc x H3 H4 hi hacc ⟨s3, hst⟩ hDl ⟨rfl, rfl⟩ s0 H0' C cl fp
        refine wg_name 10 ⟨rfl, fun s0 H0' C cl fp => wts_nil <| iteT fun s0 H0' C cl fp => ?_⟩ sc_Meter_init.nd
        refine we_meth (ok_Meter_step_from T) (T.c c_Meter) (T.m m_Meter_step_from) hr <| we_var 0 rfl ⟨p, dx, _, rfl, s3 _ _ m1, by kernel_rfl, wa_cons <| we_var 8 rfl <| wa_cons <| we_var 10 rfl <| wa_nil ⟨_, _, _, rfl, p, g, M, i, rfl, (met2.mono s3).at, ok, rfl, ⟨st, l, s3 _ _ eg2, st0, st9, ln1, ln60⟩, by simp, hi, ?_⟩⟩
        intro t1 g1 many H5 s5 e5 sg5
        refine ⟨s5 _ _ hDl, fun H6 b6 e6 => ⟨But.of_new (Same.trans s3 s5) hD1 b6, fun x hx => ?_⟩⟩
        have nD : ∀ y, GoStep H5 y → GoStep H6 y := fun y hy => hy.but b6 (s5 _ _ hDl) (fun z => z)
        rcases List.mem_append.mp hx with hx | hx
        · exact nD x ((hst x hx).mono s5)
        · rw [List.mem_singleton.mp hx]
          exact nD _ ⟨t1, g1, many, rfl, e5, sg5⟩
      · rintro acc H3 hacc ⟨s3, hst⟩ hDl
        refine we_fld' (T.c c_Meter) (T.n n_Meter_own_steps) <| we_var 0 rfl ⟨p, dx, _, _, rfl, s3 _ _ m1, mFs_s, we_var 8 rfl ⟨d, kvs, [Sum.inl st, Sum.inl l], g, rfl, rfl, s3 _ _ ed2, s3 _ _ eg2, sz_lt (by omega), ?_⟩⟩
        intro H4 b4 e4
        have e4' : H4 d = some (.dT (kvs ++ [([Sum.inl st, Sum.inl l], V.ref D1)])) := by rw [e4, putK_new _ hv]
        have nDd : D1 ≠ d := ne_of hDl (s3 _ _ ed2) (by intro z; cases z)
        have nLd' : L ≠ d := nLd.symm
        have eD4 : H4 D1 = some (.lst acc) := b4 _ _ hDl nDd
        have eL4 : H4 L = some (.lst (gi.map V.ref)) := b4 _ _ (s3 _ _ eL2) nLd'
        have ed3 := s3 _ _ ed2
        have met4 := (met2.mono s3).but b4 ed3 (fun z => z)
        obtain ⟨dx4, n4, t4, u4, ps4, q1, _⟩ := id met4
        have eg4 : H4 g = some (.tup [.int st, .int l]) := b4.ti ed3 (fun z => z) (s3 _ _ eg2) trivial
        have hst4 : ∀ x ∈ acc, GoStep H4 x := fun x hx => (hst x hx).but b4 ed3 (fun z => z)
        have gv : valV (kvs ++ [([Sum.inl st, Sum.inl l], V.ref D1)]) ([Sum.inl st, Sum.inl l] : List Key) = some (.ref D1) := by
          rw [← putK_new _ hv, valV_put, if_pos rfl]
        have but4 : But p H0 H4 := fun c o e n => b4 _ _ (s3 _ _ (but2 c o e n)) (ne_of_none e nd)
        have hg4 : DGet H4 d (.ref g) (some (.ref D1)) := by
          rw [← gv]
          exact DGet.t e4' eg4
        -- line.extend([goal for goal, many in self.own_steps[stand]])
        refine wb_cons <| ws_expr <| wE (pe_bm PySem.F.plainAttrs_list PySem.F.slot_list_extend PySem.F.type_list_extend mt_extend pE (pa_cons pE pa_nil)) <| we_var 7 rfl ⟨.inl ⟨rfl, _, SqL.of eL4⟩, ?_⟩
        refine we_lc sc_Meter_init [("goal", 11), ("many", 12)] <| wi_list <| we_dget hr <| we_fld' (T.c c_Meter) (T.n n_Meter_own_steps) <| we_var 0 rfl ⟨p, dx4, _, _, rfl, q1, mFs_s, we_var 8 rfl ⟨d, _, rfl, hg4, ?_⟩⟩
        refine ⟨D1, acc, rfl, SqL.of eD4, acc.length, _, _, walk_list (xs := acc), fun D2 hD2 => ⟨fun i bcc H' => Same H4 H' ∧ ∃ gs : List Addr, bcc = gs.map V.ref ∧ ∀ g ∈ gs, StandAt H' g, fun H' s' _ => ⟨s', [], rfl, fun g hg => by cases hg⟩, fun _ _ _ _ p _ => p.1.seq (SqL.of eD4), ?_, by omega, ?_⟩⟩
        · rintro i bcc x H5 H6 hi hbcc ⟨s5, gs5, rfl, hst5⟩ hDl2 ⟨rfl, hx⟩ s0 H0' C cl fp
          obtain ⟨t1, g1, m1, rfl, et1, sg1⟩ := hst4 x (List.mem_of_getElem? hx)
          refine wg_tup2 11 12 (SqT.of (s5 _ _ et1)) ⟨rfl, fun s0 H0' C cl fp => wts_nil <| iteT fun s0 H0' C cl fp => we_var 11 rfl ⟨hDl2, fun H7 b7 e7 => ⟨But.of_new s5 hD2 b7, gs5 ++ [g1], by rw [List.map_append]; rfl, fun g' hg' => ?_⟩⟩⟩ rfl sc_Meter_init.nd
          rcases List.mem_append.mp hg' with hg' | hg'
          · exact (hst5 g' hg').but b7 hDl2 (fun z => z)
          · rw [List.mem_singleton.mp hg']
            exact (sg1.mono s5).but b7 hDl2 (fun z => z)
        · rintro bcc H5 hbcc ⟨s5, gs5, rfl, hst5⟩ hDl2
          have eL5 := s5 _ _ eL4
          rw [List.length_map] at hbcc
          refine ⟨L, D2, gi.map V.ref, gs5.map V.ref, rfl, rfl, eL5, hDl2, sz_le (by rw [List.length_map, List.length_map]; omega), ?_⟩
          have b6 : But L H5 (upd H5 L (.lst (gi.map V.ref ++ gs5.map V.ref))) := But.upd
          have eL6 : (upd H5 L (.lst (gi.map V.ref ++ gs5.map V.ref))) L = some (.lst (gi.map V.ref ++ gs5.map V.ref)) := upd_same
          generalize upd H5 L (.lst (gi.map V.ref ++ gs5.map V.ref)) = H6 at b6 eL6
          have eL6' : H6 L = some (.lst ((gi ++ gs5).map V.ref)) := by rw [eL6, List.map_append]
          have ed6 : H6 d = some (.dT (kvs ++ [([Sum.inl st, Sum.inl l], V.ref D1)])) := b6 _ _ (s5 _ _ e4') nLd
          refine wb_nil <| wb_nil ⟨⟨kvs ++ [([Sum.inl st, Sum.inl l], V.ref D1)], gi ++ gs5, _, rfl, ⟨fun c o e n => b6 _ _ (s5 _ _ (but4 c o e n)) (ne_of_none e nL), (met4.mono s5).but b6 eL5 (fun z => z), ed6, ?_, ?_, eL6', ?_, ?_⟩⟩, ?_⟩
          · have h := nd_putK (k := ([Sum.inl st, Sum.inl l] : List Key)) (v := V.ref D1) I.nd
            rw [putK_new _ hv] at h
            exact h hv
          · intro k hk
            rw [List.map_append] at hk
            rcases List.mem_append.mp hk with hk | hk
            · exact I.ks k hk
            · rw [List.mem_singleton.mp hk]
              exact kin
          · intro x hx
            rcases List.mem_append.mp hx with hx | hx
            · have h1 := (st2 x hx).mono s3
              exact ((h1.but b4 ed3 (fun z => z)).mono s5).but b6 eL5 (fun z => z)
            · exact (hst5 x hx).but b6 eL5 (fun z => z)
          · rw [List.length_append, List.length_append]
            show gi.length + gs5.length ≤ 1 + 10 * (kvs.length + 1)
            omega
          · rw [mu1, muI_eq ed6 eL6', List.length_map, List.length_append, List.length_append]
            show 11 * (601 - (kvs.length + 1)) + (gi.length + gs5.length) < _
            omega
end
end Cab
/-! text Cab9 -/
set_option Elab.async false
set_option linter.all false
set_option maxRecDepth 100000
set_option maxHeartbeats 4000000
namespace Cab
open PySem PySem.Spec PyProof.Rows L2 He
section
variable {P : Program} {w : World} {K : PySem.W.Frag} {mg : Str → Option Value} {base : Heap}
theorem tab_ty (T : TX K mg) {H : Hp} {a : Addr} {r : List Int} (t : TabAt K H a r) : TyX K H (.ref a) (.ref (ga K "Table")) := by
  obtain ⟨dx, q, e, _⟩ := t
  exact .base (.ins e (T.c c_Table) (eqO_ok (T.x ty1_Table)) (eqO_ok (T.x ty2_Table)) (of_decide_eq_true (T.x ty3_Table)) (of_decide_eq_true (T.x ty4_Table)))
theorem TabAt.butI {K : PySem.W.Frag} {q p : Addr} {r : List Int} {H H' : Hp} {C dx : Addr} {fs : List (Str × V)} (b : But q H H') (hq : H q = some (.ins C dx fs)) (hf : fs.lookup ("row" : Str) = none) (t : TabAt K H p r) : TabAt K H' p r := by
  obtain ⟨dx', z, e1, e2⟩ := t
  refine ⟨dx', z, b _ _ e1 (fun h => ?_), b _ _ e2 (ne_of e2 hq (by intro z; cases z))⟩
  subst h
  rw [hq] at e1
  cases e1
  rw [lk_row] at hf
  cases hf
theorem MetAt.butI {K : PySem.W.Frag} {q p : Addr} {M : Met} {H H' : Hp} {C dx : Addr} {fs : List (Str × V)} (b : But q H H') (hq : H q = some (.ins C dx fs)) (hf : fs.lookup ("row" : Str) = none) (hf2 : fs.lookup ("own_tables" : Str) = none) (h : MetAt K H p M) : MetAt K H' p M := by
  obtain ⟨dx, n, t, u, v, ps, h1, h2, h3, h4, h5⟩ := h.ex
  refine ⟨dx, n, t, u, v, ps, b _ _ h1 (fun h => ?_), b _ _ h2 (ne_of h2 hq (by intro z; cases z)), b _ _ h3 (ne_of h3 hq (by intro z; cases z)), b _ _ h4 (ne_of h4 hq (by intro z; cases z)), Paired.mapP h5 fun _ _ t => t.butI b hq hf⟩
  subst h
  rw [hq] at h1
  cases h1
  rw [mFs_t] at hf2
  cases hf2
theorem TabsAt.len {H : Hp} : ∀ {ps : List Addr} {rs : List (List Int)}, TabsAt K H ps rs → ps.length = rs.length
  | _, _, .nil => rfl
  | _, _, .cons _ t => congrArg (· + 1) (TabsAt.len t)
theorem TabsAt.butI {q : Addr} {H H' : Hp} {C dx : Addr} {fs : List (Str × V)} {ps : List Addr} {rs : List (List Int)} (b : But q H H') (hq : H q = some (.ins C dx fs)) (hf : fs.lookup ("row" : Str) = none) (h : TabsAt K H ps rs) : TabsAt K H' ps rs := Paired.mapP h fun _ _ t => t.butI b hq hf
theorem putF1 {n : Addr} : putF "own_numbers" (.ref n) ([] : List (Str × V)) = [(Str.ofString "own_numbers", V.ref n)] := by kernel_rfl
theorem putF2 {n t : Addr} : putF "own_tables" (.ref t) (putF "own_numbers" (.ref n) ([] : List (Str × V))) = [(Str.ofString "own_numbers", V.ref n), (Str.ofString "own_tables", V.ref t)] := by kernel_rfl
theorem body_Meter_init (T : TX K mg) : Body P w K mg base d_Meter_init N_Meter_init 7 (spMeterInit K) := by
  intro cdv A outer s H vs Q E hr h
  obtain ⟨p, dx, a, b, M, ps, rfl, hp, ha, htabs, htu, ok, asc, q⟩ := h
  obtain ⟨u1, mu1, ru1⟩ := T.i i_GREATEST_DROP
  obtain ⟨u2, mu2, ru2⟩ := T.i i_MOST_TABLES
  obtain ⟨u3, mu3, ru3⟩ := T.i i_GREATEST_FLAG
  obtain ⟨u4, mu4, ru4⟩ := T.i i_GREATEST_EACH
  have pl := htabs.len
  have okl := ok.len
  have ok3 := ok.len3
  refine wb_cons <| ws_expr <| we_call (ok_check_number T) (T.g g_check_number) hr <| wa_cons <| we_var 1 rfl <| wa_cons <| we_int <| wa_cons <| we_glob mu1 ru1 <| wa_nil ⟨_, _, _, rfl, M.first, 1, 60, rfl, rfl, rfl, ok.f1, ok.f2, ?_⟩
  refine wb_cons <| ws_expr <| we_call (ok_check_number T) (T.g g_check_number) hr <| wa_cons <| we_var 2 rfl <| wa_cons <| we_int <| wa_cons <| we_glob mu1 ru1 <| wa_nil ⟨_, _, _, rfl, M.drop, 1, 60, rfl, rfl, rfl, ok.d1, ok.d2, ?_⟩
  refine wb_cons <| ws_guard <| wt_W <| ww_or <| wt_not <| wt_val <| we_isi "list" (T.fr f_isinstance) (T.fr f_list) (by decide +kernel) <| we_var 3 rfl ⟨"list", true, .base (.lst ha), by decide +kernel, true, rfl, iteF <| ww_or1 <| wt_not ?_⟩
  refine wt_chain op_le op_le <| we_int <| we_blt call_len_seq (T.fr f_len) boot_len <| wa_cons <| we_var 3 rfl <| wa_nil ⟨a, _, rfl, .inl (SqL.of ha), 1, _, rfl, rfl, _, rfl, ?_⟩
  have l1 : (1 : Int) ≤ (((ps.map V.ref).length : Nat) : Int) := by rw [List.length_map]; omega
  rw [decide_eq_true l1]
  refine iteT <| we_glob mu2 ru2 ⟨_, _, rfl, rfl, true, ?_, rfl, ?_⟩
  · show V.bl (decide ((((ps.map V.ref).length : Nat) : Int) ≤ 3)) = V.bl true
    rw [decide_eq_true (by rw [List.length_map]; omega)]
  refine wb_cons <| ws_guard <| wt_not <| wt_val <| we_blt (cr_all rfl) (T.fr f_all) (by decide +kernel) <| wa_cons ?_
  refine we_lc sc_Meter_init [("table", 9)] <| wi_list <| we_var 3 rfl ⟨a, _, rfl, SqL.of ha, ?_⟩
  refine lcMap (fun _ => V.bl true) (walk_list (xs := ps.map V.ref)) (fun _ _ _ _ y => y.1) (by rw [List.length_map]; omega) (fun _ s' => s'.seq (SqL.of ha)) ?_ ?_
  · rintro i x H2 hi s2 ⟨_, hx⟩ s0 H0 C cl fp
    obtain ⟨z, hz, rfl⟩ := map_get hx
    have hlt : i < M.tabs.length := by rw [← pl]; exact (List.getElem?_eq_some_iff.mp hz).1
    obtain ⟨y, hy, ty⟩ := paired_get htabs (List.getElem?_eq_getElem hlt)
    rw [hz] at hy
    cases hy
    refine wg_name 9 ⟨rfl, fun s0 H0 C cl fp => ?_⟩ sc_Meter_init.nd
    refine we_blt call_isi (T.fr f_isinstance) (by decide +kernel) <| wa_cons <| we_var 9 rfl <| wa_cons <| we_glob (v := .ref (ga K "Table")) (T.g g_Table) rfl <| wa_nil ⟨_, _, _, _, true, rfl, .own _, tab_ty T (ty.mono s2), of_decide_eq_true (T.x isi_Table), rfl, fun _ _ e => e⟩
  intro D H1 hD s1 hDl
  refine wa_nil ⟨D, List.replicate M.tabs.length true, rfl, SqL.of (by rw [hDl, map_rep, List.length_map, pl]; simp [List.map_const']), true, by rw [all_rep], rfl, ?_⟩
  have ha1 := s1 _ _ ha
  refine wb_cons <| ws_guard <| wt_not <| wt_val <| we_call (ok_are_turns T) (T.g g_are_turns) hr <| wa_cons <| we_var 4 rfl <| wa_cons <| we_sub <| we_blt call_len_seq (T.fr f_len) boot_len <| wa_cons <| we_var 3 rfl <| wa_nil ⟨a, _, rfl, .inl (SqL.of ha1), we_int ⟨_, _, rfl, rfl, wa_nil ⟨_, _, rfl, b, M.turns, rfl, htu.mono s1, ?_, by omega, ok.tu, asc, fun H2 s2 => ⟨true, rfl, rfl, ?_⟩⟩⟩⟩
  · rw [List.length_map]
    congr 1
    omega
  refine wb_cons <| ws_expr <| we_call (ok_check_number T) (T.g g_check_number) hr <| wa_cons <| we_var 5 rfl <| wa_cons <| we_int <| wa_cons <| we_glob mu3 ru3 <| wa_nil ⟨_, _, _, rfl, M.flag, 0, 1000, rfl, rfl, rfl, ok.g1, ok.g2, ?_⟩
  refine wb_cons <| ws_expr <| we_call (ok_check_number T) (T.g g_check_number) hr <| wa_cons <| we_var 6 rfl <| wa_cons <| we_int <| wa_cons <| we_glob mu4 ru4 <| wa_nil ⟨_, _, _, rfl, M.each, 1, 100, rfl, rfl, rfl, ok.e1, ok.e2, ?_⟩
  have s12 : Same H H2 := Same.trans s1 s2
  -- self.own_numbers = ..
  refine wb_cons <| ws_fld (T.c c_Meter) (T.n n_Meter_own_numbers) <| we_tup <| wa_cons <| we_var 1 rfl <| wa_cons <| we_var 2 rfl <| wa_cons <| we_var 5 rfl <| wa_cons <| we_var 6 rfl <| wa_nil ⟨by show 4 ≤ sizeLine; decide, fun n H3 hn s3 e3 => we_var 0 rfl ⟨p, dx, [], rfl, s3 _ _ (s12 _ _ hp), by decide, fun H4 b4 e4 => ?_⟩⟩
  have hp3 : H3 p = some (.ins (ga K "Meter") dx []) := s3 _ _ (s12 _ _ hp)
  have np : n ≠ p := ne_of e3 hp3 (by intro z; cases z)
  have en4 : H4 n = some (.tup [.int M.first, .int M.drop, .int M.flag, .int M.each]) := b4 _ _ e3 np
  have ha4 : H4 a = some (.lst (ps.map V.ref)) := b4 _ _ (s3 _ _ (s12 _ _ ha)) (ne_of (s3 _ _ (s12 _ _ ha)) hp3 (by intro z; cases z))
  have ht4 : TabsAt K H4 ps M.tabs := (htabs.mono (Same.trans s12 s3)).butI b4 hp3 rfl
  have hb3 := htu.mono (Same.trans s12 s3)
  have hb4 : TurnsAt H4 b M.turns := hb3.elim (fun e => .inl (b4 _ _ e (ne_of e hp3 (by intro z; cases z)))) (fun e => .inr (b4 _ _ e (ne_of e hp3 (by intro z; cases z))))
  have bt4 : But p H H4 := But.trans (But.same (Same.trans s12 s3)) b4
  -- self.own_tables = tuple(tables)
  refine wb_cons <| ws_fld (T.c c_Meter) (T.n n_Meter_own_tables) <| we_ty call_tuple_of (T.fr f_tuple) (by decide +kernel) <| wa_cons <| we_var 3 rfl <| wa_nil ⟨a, _, rfl, .inl ⟨SqL.of ha4, fun t ht => ?_⟩⟩
  have s5 : Same H4 (upd H4 t (.tup (ps.map V.ref))) := Same.new ht
  have et5 : (upd H4 t (.tup (ps.map V.ref))) t = some (.tup (ps.map V.ref)) := upd_same
  generalize upd H4 t (.tup (ps.map V.ref)) = H5 at s5 et5
  refine we_var 0 rfl ⟨p, dx, _, rfl, s5 _ _ e4, by rw [putF1]; show 1 < 1000; decide, fun H6 b6 e6 => ?_⟩
  have hp5 := s5 _ _ e4
  have et6 : H6 t = some (.tup (ps.map V.ref)) := b6 _ _ et5 (ne_of et5 hp5 (by intro z; cases z))
  have en6 := b6 _ _ (s5 _ _ en4) np
  have hb6 : TurnsAt H6 b M.turns := (hb4.mono s5).elim (fun e => .inl (b6 _ _ e (ne_of e hp5 (by intro z; cases z)))) (fun e => .inr (b6 _ _ e (ne_of e hp5 (by intro z; cases z))))
  have ht6 : TabsAt K H6 ps M.tabs := (ht4.mono s5).butI b6 hp5 (by rw [putF1]; rfl)
  have bt6 : But p H H6 := But.trans bt4 (But.trans (But.same s5) b6)
  -- self.own_turns = tuple(turns)
  have cnt : ∀ (R : List V → Prop), R [V.ref b] → R [V.ref b] := fun _ r => r
  refine wb_cons <| ws_fld (T.c c_Meter) (T.n n_Meter_own_turns) <| we_ty call_tuple_of (T.fr f_tuple) (by decide +kernel) <| wa_cons <| we_var 4 rfl <| wa_nil ?_
  have after : ∀ (u : Addr) (H7 : Hp), Same H6 H7 → H7 u = some (.tup (M.turns.map V.int)) → WE (XC P w K mg base d_Meter_init N_Meter_init (d_Meter_init.path K) cdv A outer s H E) (.Name "self" (match d_Meter_init.body with | _ :: _ :: _ :: _ :: _ :: _ :: _ :: _ :: _ :: .Assign (.Attribute (.Name _ p) _ _ :: _) _ _ :: _ => p | _ => default)) [some (.ref p), some (.int M.first), some (.int M.drop), some (.ref a), some (.ref b), some (.int M.flag), some (.int M.each), none, none, none, none, none, none] H7 fun x H2 => ∃ q dx fs, x = .ref q ∧ H2 q = some (.ins (ga K "Meter") dx fs) ∧ fs.length < 1000 ∧ ∀ H3, But q H2 H3 → H3 q = some (.ins (ga K "Meter") dx (putF "own_turns" (.ref u) fs)) → WB (XC P w K mg base d_Meter_init N_Meter_init (d_Meter_init.path K) cdv A outer s H E) (d_Meter_init.body.drop 10) { nx := fun _ H' => Q .non H', rt := Q } [some (.ref p), some (.int M.first), some (.int M.drop), some (.ref a), some (.ref b), some (.int M.flag), some (.int M.each), none, none, none, none, none, none] H3 := by
    intro u H7 s7 eu7
    refine we_var 0 rfl ⟨p, dx, _, rfl, s7 _ _ e6, by rw [putF2]; show 2 < 1000; decide, fun H8 b8 e8 => ?_⟩
    have hp7 := s7 _ _ e6
    have eu8 := b8 _ _ eu7 (ne_of eu7 hp7 (by intro z; cases z))
    have et8 := b8 _ _ (s7 _ _ et6) (ne_of (s7 _ _ et6) hp7 (by intro z; cases z))
    have en8 := b8 _ _ (s7 _ _ en6) np
    have ht8 : TabsAt K H8 ps M.tabs := (ht6.mono s7).butI b8 hp7 (by rw [putF2]; rfl)
    have bt8 : But p H H8 := But.trans bt6 (But.trans (But.same s7) b8)
    -- self.own_steps = {}
    refine wb_cons <| ws_fld (T.c c_Meter) (T.n n_Meter_own_steps) <| wE pe_dnewT fun d hd => ?_
    have s9 : Same H8 (upd H8 d (.dT [])) := Same.new hd
    have ed9 : (upd H8 d (.dT [])) d = some (.dT []) := upd_same
    have nd : H d = none := by
      cases hx : H d with
      | none => rfl
      | some o =>
        have : d = p := Classical.byContradiction fun n => by
          rw [bt8 _ _ hx n] at hd
          cases hd
        rw [this, e8] at hd
        cases hd
    generalize upd H8 d (.dT []) = H9 at s9 ed9
    refine we_var 0 rfl ⟨p, dx, _, rfl, s9 _ _ e8, mFs_l (v := .non), fun H10 b10 e10 => ?_⟩
    have hp9 := s9 _ _ e8
    have ed10 := b10 _ _ ed9 (ne_of ed9 hp9 (by intro z; cases z))
    have ht10 : TabsAt K H10 ps M.tabs := (ht8.mono s9).butI b10 hp9 (by kernel_rfl)
    have met10 : MetV K H10 p M (.ref d) := by
      rw [mFs_eq] at e10
      exact ⟨dx, n, t, u, ps, e10, b10 _ _ (s9 _ _ en8) np, b10 _ _ (s9 _ _ et8) (ne_of (s9 _ _ et8) hp9 (by intro z; cases z)), b10 _ _ (s9 _ _ eu8) (ne_of (s9 _ _ eu8) hp9 (by intro z; cases z)), ht10⟩
    have bt10 : But p H H10 := But.trans bt8 (But.trans (But.same s9) b10)
    -- line = [self.start]
    obtain ⟨dx', n', t', u', ps', m1, _⟩ := id met10
    refine wb_cons <| ws_set 7 (we_lst <| wa_cons <| we_prop (ok_Meter_start T) (T.c c_Meter) (propB_ok (T.x p_Meter_start)) hr <| we_var 0 rfl ⟨p, dx', _, rfl, m1, _, rfl, p, M, rfl, met10.at, fun g H11 s11 hg eg => wa_nil ⟨by show 1 ≤ sizeLine; decide, fun L H12 hL s12' eL => ?_⟩⟩) sc_Meter_init.nd
    have nL : H L = none := by
      cases hx : H L with
      | none => rfl
      | some o =>
        by_cases n : L = p
        · subst n
          rw [s11 _ _ m1] at hL
          cases hL
        · rw [s11 _ _ (bt10 _ _ hx n)] at hL
          cases hL
    refine wb_cons <| initWhile_ok T hr (kvs := []) (gs := [g]) ok nd nL ⟨But.trans bt10 (But.same (Same.trans s11 s12')), met10.mono (Same.trans s11 s12'), s12' _ _ (s11 _ _ ed10), List.nodup_nil, (fun k hk => by cases hk), eL, ?_, Nat.le_of_eq rfl⟩ fun σ H' bb mm => wb_nil (q H' bb mm)
    intro g' hg'
    rw [List.mem_singleton.mp hg']
    exact ⟨0, M.first, s12' _ _ eg, by decide, by decide, ok.f1, ok.f2⟩
  rcases hb6 with e | e
  · exact ⟨b, _, rfl, .inl ⟨SqL.of e, fun u hu => after u _ (Same.new hu) upd_same⟩⟩
  · exact ⟨b, _, rfl, .inr ⟨SqT.of e, after b H6 (fun _ _ e => e) e⟩⟩
theorem ok_Meter_init (T : TX K mg) : ∃ (fd : FuncData) (its mv : List Value), FnOk P w K mg base CX0 8 (d_Meter_init.path K) fd ["self", "first", "drop", "tables", "turns", "flag", "each"] (spMeterInit K) ∧
    KBn K fd ["self", "first", "drop", "tables", "turns", "flag", "each"] 5 ["flag", "each"] (fun us ws => us ++ ws) (fun vs zs => vs ++ zs) := by
  obtain ⟨fd, F⟩ := T.d D_Meter_init
  obtain ⟨its, mv, kb⟩ := F.kbinds (ps := ["self", "first", "drop", "tables", "turns", "flag", "each"]) 5 ["flag", "each"] [] (fun us _ _ ws => us ++ ws) (by intro z; cases z) (by intro z; cases z) (fun q hq => by cases hq) (fun r1 _ _ r4 => r1.append r4) fun T D doc pm an cdv ct us its mv ws l1 l2 l3 l4 => by
    match us, l1 with
    | [a0, a1, a2, a3, a4], _ =>
      match ws, l4 with
      | [b0, b1], _ =>
        match its, l2 with
        | [d0], _ => exact ⟨_, rfl, rfl⟩
  refine ⟨fd, its, mv, fn_ok' F sc_Meter_init (fun vs H Q E h => ?_) (body_Meter_init T), kb⟩
  obtain ⟨p, dx, a, b, M, ps, rfl, _⟩ := h
  rfl
end
/-- Meter(first, drop, tables, turns, flag = .., each = ..) -/
theorem we_Meter {X : Cx} (T : TX X.K X.mg) {j : Nat} (hr : Room j X.A) {σ : L2.St} {H : Hp} {Q : VK} {e f g : Expr} {es : List Expr} {p pos p1 p2 : Pos} (hcall : ∀ (F G : TE), True)
    (h : WA X (e :: es) σ H fun vs H1 => WE X f σ H1 fun y H2 => WE X g σ H2 fun z H3 => ∃ (a b : Addr) (M : Met) (ps : List Addr), vs = [.int M.first, .int M.drop, .ref a, .ref b] ∧ y = .int M.flag ∧ z = .int M.each ∧ H3 a = some (.lst (ps.map V.ref)) ∧ TabsAt X.K H3 ps M.tabs ∧
      TurnsAt H3 b M.turns ∧ okMet M ∧ asc M.turns ∧ ∀ q H4, Same H3 H4 → MetAt X.K H4 q M → Q (.ref q) H4) (hk : 9 ≤ j := by decide) (hg : Gl X "Meter" := by rfl)
    (hall : (backToKw pos (keywordEach [⟨some "flag", f, p1⟩, ⟨some "each", g, p2⟩] X.env)).all (·.1.isSome) = true := by rfl) (hks : (backToKw pos (keywordEach [⟨some "flag", f, p1⟩, ⟨some "each", g, p2⟩] X.env)).filterMap (·.1) = ([Str.ofString "flag", Str.ofString "each"] : List Str) := by rfl)
    (he : starEach (e :: es) X.env = (false, eval e X.env) :: starEach es X.env := by rfl) (hpl : ((backTo pos (starEach (e :: es) X.env)).any (·.1) || (backToKw pos (keywordEach [⟨some "flag", f, p1⟩, ⟨some "each", g, p2⟩] X.env)).any (·.1.isNone)) = false := by rfl) :
    WE X (.Call (.Name "Meter" p) (e :: es) [⟨some "flag", f, p1⟩, ⟨some "each", g, p2⟩] pos) σ H Q := by
  obtain ⟨fd, its, mv, F, kb⟩ := ok_Meter_init (P := X.prog) (w := X.w) (base := X.base) T
  refine wE (pe_makeK (n := 4) (T.k k_Meter) F (hr.mono hk) hg (T.g g_Meter) kb pass0 pA (pk_cons pE (pk_cons pE pk_nil)) hall hks (by decide) he hpl) (WA.mono h fun vs H1 k => ?_)
  refine WE.mono k fun y H2 k => WE.mono k fun z H3 ⟨a, b, M, ps, e1, e2, e3, ha, ht, hu, ok, as, q⟩ => ?_
  subst e1 e2 e3
  refine ⟨rfl, rfl, fun x dx n1 n2 n3 => ?_⟩
  have s1 : Same H3 (upd (upd H3 dx (.own x)) x (.ins (ga X.K "Meter") dx [])) := fun b o q => by
    rw [upd_ne (ne_of_none q n1), upd_ne (ne_of_none q n2)]
    exact q
  refine ⟨x, dx, a, b, M, ps, rfl, upd_same, s1 _ _ ha, ht.mono s1, hu.mono s1, ok, as, fun H' bb mm => ⟨rfl, q x H' (But.of_new s1 n1 bb) mm⟩⟩
end Cab
/-! text CabQ2 -/
set_option Elab.async false
set_option linter.all false
set_option maxRecDepth 100000
set_option maxHeartbeats 2000000
/-! dicts by places: mirror, comprehension over a walk, locks -/
namespace Cab
open PySem PySem.Spec PyProof.Rows L2 He
/-! ### the mirror of a dict -/
abbrev Pl := Int × Int
def kp (p : Pl) : List Key := [Sum.inl p.1, Sum.inl p.2]
theorem kp_inj {p q : Pl} : kp p = kp q ↔ p = q := by
  obtain ⟨a, b⟩ := p
  obtain ⟨c, d⟩ := q
  unfold kp
  simp
theorem kp_map (p : Pl) : (kp p).map kV = [V.int p.1, V.int p.2] := rfl
def putD {α : Type} (D : List (Pl × α)) (k : Pl) (v : α) : List (Pl × α) := if (D.any fun e => decide (e.1 = k)) = true then D.map (fun e => if e.1 = k then (e.1, v) else e) else D ++ [(k, v)]
def getD? {α : Type} (D : List (Pl × α)) (k : Pl) : Option α := (D.find? fun e => decide (e.1 = k)).map (·.2)
def enc {α : Type} (f : α → V) (D : List (Pl × α)) : List (List Key × V) := D.map fun e => (kp e.1, f e.2)
theorem enc_len {α : Type} {f : α → V} {D : List (Pl × α)} : (enc f D).length = D.length := List.length_map _
theorem enc_any {α : Type} (f : α → V) (D : List (Pl × α)) (k : Pl) : ((enc f D).any fun e => decide (e.1 = kp k)) = (D.any fun e => decide (e.1 = k)) := by
  unfold enc
  rw [List.any_map]
  congr 1
  funext e
  simp only [Function.comp]
  exact decide_eq_decide.mpr kp_inj
theorem enc_put {α : Type} (f : α → V) (D : List (Pl × α)) (k : Pl) (v : α) : putK (enc f D) (kp k) (f v) = enc f (putD D k v) := by
  unfold putK putD
  rw [enc_any]
  split
  · unfold enc
    rw [List.map_map, List.map_map]
    apply List.map_congr_left
    intro e _
    simp only [Function.comp]
    by_cases h : e.1 = k
    · rw [if_pos h, if_pos (kp_inj.mpr h)]
    · rw [if_neg h, if_neg (fun z => h (kp_inj.mp z))]
  · unfold enc
    rw [List.map_append]
    rfl
theorem enc_get {α : Type} (f : α → V) (D : List (Pl × α)) (k : Pl) : valV (enc f D) (kp k) = (getD? D k).map f := by
  unfold valV getD? enc
  rw [List.find?_map, Option.map_map, Option.map_map]
  have e : ((fun kv : List Key × V => decide (kv.1 = kp k)) ∘ fun e : Pl × α => (kp e.1, f e.2)) = fun e : Pl × α => decide (e.1 = k) := by
    funext e
    simp only [Function.comp]
    exact decide_eq_decide.mpr kp_inj
  rw [e]
  rfl
theorem putD_len {α : Type} (D : List (Pl × α)) (k : Pl) (v : α) : (putD D k v).length ≤ D.length + 1 := by
  unfold putD
  split <;> simp
theorem getD?_none {α : Type} {D : List (Pl × α)} {k : Pl} (h : k ∉ D.map (·.1)) : getD? D k = none := by
  unfold getD?
  rw [List.find?_eq_none.mpr]
  · rfl
  · intro x hx
    simp only [decide_eq_true_eq]
    intro e
    exact h (List.mem_map.mpr ⟨x, hx, e⟩)
theorem putD_new {α : Type} {D : List (Pl × α)} {k : Pl} {v : α} (h : k ∉ D.map (·.1)) : putD D k v = D ++ [(k, v)] := by
  unfold putD
  rw [if_neg]
  simp only [List.any_eq_true, decide_eq_true_eq, not_exists, not_and]
  intro x hx e
  exact h (List.mem_map.mpr ⟨x, hx, e⟩)
/-- a dict by places at d -/
def DictAt {α : Type} (f : α → V) (H : Hp) (d : Addr) (D : List (Pl × α)) : Prop := H d = some (.dT (enc f D))
/-- a place's tuple at q -/
def PlAt (H : Hp) (q : Addr) (p : Pl) : Prop := H q = some (.tup [.int p.1, .int p.2])
theorem DictAt.get {α : Type} {f : α → V} {H : Hp} {d q : Addr} {D : List (Pl × α)} {p : Pl} (h : DictAt f H d D) (hq : PlAt H q p) : DGet H d (.ref q) ((getD? D p).map f) := by
  rw [← enc_get]
  exact DGet.t (k := kp p) h hq
theorem enc_at {α : Type} {f : α → V} {D : List (Pl × α)} {i : Nat} {k : List Key} {v : V} (h : (enc f D)[i]? = some (k, v)) : ∃ p x, D[i]? = some (p, x) ∧ k = kp p ∧ v = f x := by
  obtain ⟨e, h1, h2⟩ := map_get h
  obtain ⟨p, x⟩ := e
  exact ⟨p, x, h1, congrArg Prod.fst h2, congrArg Prod.snd h2⟩
/-! ### dict comprehensions over a walk -/
section
variable {X : Cx} {scope : Scope} {σ : L2.St}
def DcR (X : Cx) (scope : Scope) (kx vx tg : Expr) (ifs : List Expr) (vs : List Nat) (σ : L2.St) (J : It) (H1 : Hp) (Q : VK) : Prop :=
  ∃ (n : Nat) (G : Hp → Prop) (Y : Nat → Hp → V → Hp → Prop), Walk J n G Y ∧ ∀ D, H1 D = none → ∃ Pv : Nat → List (List Key × V) → Hp → Prop,
    (∀ H', Same H1 H' → H' D = some (.dT []) → Pv 0 [] H') ∧ (∀ i acc H, i ≤ n → Pv i acc H → H D = some (.dT acc) → G H) ∧
    (∀ i acc x H H', i < n → acc.length ≤ i → Pv i acc H → H D = some (.dT acc) → Y i H x H' → gU X scope tg x (wipe σ vs) H' fun σ2 H2 => wipe σ2 vs = wipe σ vs ∧ tU X scope ifs σ2 H2 fun b H3 =>
      if b = true then eU X scope kx σ2 H3 fun y H4 => eU X scope vx σ2 H4 fun z H5 => ∃ k q, y = .ref q ∧ H5 q = some (.tup (k.map kV)) ∧ H5 D = some (.dT acc) ∧ ∀ H6, But D H5 H6 → H6 D = some (.dT (putK acc k z)) → Pv (i + 1) (putK acc k z) H6
      else Pv (i + 1) acc H3 ∧ H3 D = some (.dT acc)) ∧
    n ≤ 900000 ∧ ∀ acc H, acc.length ≤ n → Pv n acc H → H D = some (.dT acc) → Q (.ref D) H
theorem dcR {kx vx tg : Expr} {ifs : List Expr} {vs : List Nat} {J : It} {H1 : Hp} {Q : VK} (h : DcR X scope kx vx tg ifs vs σ J H1 Q) : ∀ D, H1 D = none → ∃ W : Nat → Nat → Hp → Prop, (∃ m, W 0 m (upd H1 D (.dT []))) ∧ ∀ i m H, W i m H →
      (J.stop i H ∧ Q (.ref D) H) ∨ (J.go i H ∧ ∃ Nx : Hp → Prop, (∀ H', Nx H' → ∃ m', m' < m ∧ W (i + 1) m' H') ∧ ∀ x H', J.yld i H x H' → gU X scope tg x (wipe σ vs) H' fun σ2 H2 => wipe σ2 vs = wipe σ vs ∧ tU X scope ifs σ2 H2 fun b H3 =>
        if b = true then eU X scope kx σ2 H3 fun y H4 => eU X scope vx σ2 H4 fun z H5 => ∃ kvs k q, y = .ref q ∧ H5 D = some (.dT kvs) ∧ H5 q = some (.tup (k.map kV)) ∧ kvs.length < sizeLine ∧ Nx (upd H5 D (.dT (putK kvs k z))) else Nx H3) := by
  obtain ⟨n, G, Y, wk, h⟩ := h
  intro D hD
  obtain ⟨Pv, h0, hG, hs, hz, hd⟩ := h D hD
  refine ⟨fun i m H => m = n - i ∧ i ≤ n ∧ ∃ acc, acc.length ≤ i ∧ Pv i acc H ∧ H D = some (.dT acc), ⟨n, by simp, Nat.zero_le _, [], Nat.le_refl _, h0 _ (Same.new hD) upd_same, upd_same⟩, ?_⟩
  rintro i m H ⟨rfl, hi, acc, hl, p, hDl⟩
  have q := hG i acc H hi p hDl
  by_cases hlt : i < n
  · refine .inr ⟨wk.goes i H hlt q, fun H' => ∃ acc, acc.length ≤ i + 1 ∧ Pv (i + 1) acc H' ∧ H' D = some (.dT acc), fun H' p' => ⟨n - (i + 1), by omega, rfl, hlt, p'⟩, fun x H' y => ?_⟩
    have h1 := hs i acc x H H' hlt hl p hDl (wk.yields i H x H' hlt q y)
    intro s0 H0 C cl fp pins s u I r
    refine thn (h1 s0 H0 C cl fp pins s u I r) fun _ s1 ⟨σ2, H2, I2, e2, k⟩ => ⟨σ2, H2, I2, e2, ?_⟩
    intro s0 H0 C cl fp pins s I
    refine thn (k s0 H0 C cl fp pins s I) fun b s3 ⟨H3, I3, k⟩ => ⟨H3, I3, ?_⟩
    cases b with
    | false => exact ⟨acc, by omega, k.1, k.2⟩
    | true =>
      intro s0 H0 C cl fp pins s I
      refine thn (k s0 H0 C cl fp pins s I) fun _ s4 ⟨y, H4, I4, r4, k⟩ => ⟨y, H4, I4, r4, ?_⟩
      intro s0 H0 C cl fp pins s I
      refine thn (k s0 H0 C cl fp pins s I) fun _ s5 ⟨z, H5, I5, r5, kk, q5, e1, e2, e3, e4⟩ => ⟨z, H5, I5, r5, acc, kk, q5, e1, e3, e2, sz_lt (n := acc.length) (by omega), putK acc kk z, Nat.le_trans (length_putK _ _ _) (by omega), e4 _ But.upd upd_same, upd_same⟩
  · have e : i = n := by omega
    subst e
    exact .inl ⟨wk.stops H q, hd acc H hl p hDl⟩
variable {H : Hp} {kx vx tg iter : Expr} {ifs : List Expr} {own : List (Str × Nat)} {pos : Pos}
theorem we_dc {Q : VK} {N ps : List Str} {sc : Scope} {j : Nat} (hr : Room j X.A) (S : FnScope N ps sc) (own : List (Str × Nat)) (h : WI X tg iter σ H fun J H1 => DcR X scope kx vx tg ifs (own.map (·.2)) σ J H1 Q) (ok : blkC N sc scope own = true := by decide +kernel) (eN : X.N = N := by rfl) (eS : X.env.scope = sc := by rfl) (hc : X.calm = true := by rfl) (hs : ∀ x, foldedSetIterable iter X.env x = pure x := by intro _; rfl) :
    WE X (.DictComp kx vx [⟨tg, iter, ifs, 0⟩] scope pos) σ H Q :=
  wE (we_dcT0 (own := own) (hu_of hr) hc (by rw [eN]; exact S.nd) pI (by rw [eN, eS]; exact blkOk_by ok) pgU ptU peU peU hs) (show tDcT _ _ _ _ _ _ σ H Q from fun pins s I => thn (h pins s I) fun v s1 k => thn k fun itv s2 ⟨it, fp, tn, J, H', e1, I2, T, t0, hf, r⟩ => ⟨it, fp, tn, J, H', e1, I2, T, t0, hf, dcR r⟩)
/-- within a lock of the dict at d -/
theorem we_lock {e : Expr} {Q : VK} {d : Addr} {kvs : List (List Key × V)} (hd : H d = some (.dT kvs))
    (h : ∀ od Hf, But d H Hf → Hf d = some (.frz od (.dT kvs)) → WE X e σ Hf fun v H' => H' d = some (.frz od (.dT kvs)) ∧ ∀ H'', But d H' H'' → H'' d = some (.dT kvs) → Q v H'') : WE X e σ H Q :=
  wE (pe_lock pE) ⟨d, .dT kvs, hd, trivial, fun od => WE.mono (h od _ But.upd upd_same) fun v H' ⟨e, k⟩ => ⟨e, k _ But.upd upd_same⟩⟩
theorem ws_lock {st : Stmt} {D : Ends} {d : Addr} {kvs : List (List Key × V)} (hd : H d = some (.dT kvs))
    (h : ∀ od Hf, But d H Hf → Hf d = some (.frz od (.dT kvs)) → WS X st { nx := fun σ' H' => H' d = some (.frz od (.dT kvs)) ∧ ∀ H'', But d H' H'' → H'' d = some (.dT kvs) → D.nx σ' H'', rt := fun _ _ => False, bk := fun _ _ => False, ct := fun _ _ => False } σ Hf) : WS X st D σ H := by
  refine wS (ps_lock pS) ⟨d, .dT kvs, hd, trivial, fun od => ?_⟩
  intro pins s I
  exact thn (h od _ But.upd upd_same pins s I) fun f s' q => sp_mono q (fun _ _ z => ⟨z.1, z.2 _ But.upd upd_same⟩) (fun _ _ z => z.elim) (fun _ _ z => z.elim) (fun _ _ z => z.elim)
end
end Cab
/-! text CabQ3 -/
set_option Elab.async false
set_option linter.all false
set_option maxRecDepth 100000
set_option maxHeartbeats 2000000
/-! sets of ints and of texts that can be walked: add, comprehension, sorted (after the library's rules for sets of ints) -/
namespace Cab
open PySem PySem.Spec PyProof.Rows L2 He
def kOf (e : Int × Value) : Key := match e.2 with
  | .int k _ => .inl k
  | .str x _ => .inr x
  | _ => .inl 0
theorem kOf_rel {h : Int} {k : Key} {v : Value} (r : L2.RelV (kV k) v) : kOf (h, v) = k := by
  cases k with
  | inl i =>
    obtain ⟨t, rfl⟩ := r
    rfl
  | inr x =>
    obtain ⟨t, rfl⟩ := r
    rfl
def GoodM (w : World) (e : Int × Value) : Prop := L2.RelV (kV (kOf e)) e.2 ∧ e.1 = keyH w (kOf e)
open Classical in
noncomputable def addK (ks : List Key) (k : Key) : List Key := if k ∈ ks then ks else ks ++ [k]
theorem addK_nodup {ks : List Key} {k : Key} (h : ks.Nodup) : (addK ks k).Nodup := by
  unfold addK
  split
  · exact h
  · rename_i n
    exact List.nodup_append.mpr ⟨h, by simp, fun a ha b hb => by rw [List.mem_singleton.mp hb]; intro e; exact n (e ▸ ha)⟩
theorem addK_mem {ks : List Key} {k x : Key} : x ∈ addK ks k ↔ x ∈ ks ∨ x = k := by
  unfold addK
  split
  · rename_i h
    exact ⟨.inl, fun z => z.elim id fun e => e ▸ h⟩
  · simp
/-- the set of the keys ks at a -/
def SetM (w : World) (h : Heap) (a : Addr) (ks : List Key) : Prop :=
  ∃ o es ep t, h.get? a = some o ∧ o.ExactSet ∧ o.data = .set es ep t ∧ (∀ e ∈ es.toList, GoodM w e) ∧ (es.toList.map kOf).Perm ks ∧ ks.Nodup ∧ es.size < scanBound ∧ t.fits es.size = true ∧ Ris t.place.toList ∧
    (w.params.followText "set-order" = true ∨ t.led = true)
theorem SetM.at {w : World} {h h' : Heap} {a : Addr} {ks : List Key} (R : SetM w h a ks) (k : ∀ o, h.get? a = some o → h'.get? a = some o) : SetM w h' a ks := by
  obtain ⟨o, es, ep, t, ho, r⟩ := R
  exact ⟨o, es, ep, t, k o ho, r⟩
section
variable {P : Program} {w : World} {A : Around} {E : Value → Shared → Prop} {s : Shared} {a : Addr} {ks : List Key}
theorem SetM.typeIs (R : SetM w s.heap a ks) : s.TypeIs (.ref a) "set" := by
  obtain ⟨o, es, ep, t, ho, hx, _⟩ := R
  exact ⟨o, ho, hx.1⟩
theorem goodM_elems {l : List (Int × Value)} (g : ∀ e ∈ l, GoodM w e) : ElemsOf (mixKind P w) l := fun e he => by
  obtain ⟨h1, h2⟩ := g e he
  exact ⟨⟨kOf e, kV_is h1, h2⟩, key_scan h1⟩
theorem goodM_is {e : Int × Value} (g : GoodM w e) (k : Key) : (mixKind P w).is k e.2 = true ↔ kOf e = k := by
  obtain ⟨h1, _⟩ := g
  constructor
  · intro h
    exact (mixKind P w).inj _ _ _ (kV_is (P := P) (w := w) h1) h
  · intro h
    rw [← h]
    exact kV_is h1
theorem goodM_mem {l : List (Int × Value)} (g : ∀ e ∈ l, GoodM w e) (k : Key) : k ∈ l.map kOf ↔ ∃ e ∈ l, (mixKind P w).is k e.2 = true := by
  rw [List.mem_map]
  constructor
  · rintro ⟨e, he, q⟩
    exact ⟨e, he, (goodM_is (g e he) k).2 q⟩
  · rintro ⟨e, he, q⟩
    exact ⟨e, he, (goodM_is (g e he) k).1 q⟩
theorem setM_tail {g : Bool → Sem Unit} (hg : ∀ (b : Bool) (s₁ : Shared) (Q' : Unit → Shared → Prop), Q' () s₁ → wpAny (model P w) A (g b) Q' E s₁)
    {o : Obj} {es : Array (Int × Value)} {ep : Nat} {t : SetTable} (ho : s.heap.get? a = some o) (hex : o.ExactSet) (hd : o.data = .set es ep t)
    {es1 : Array (Int × Value)} {t2 : SetTable} {ks' : List Key} (g1 : ∀ e ∈ es1.toList, GoodM w e) (m1 : (es1.toList.map kOf).Perm ks') (nd1 : ks'.Nodup)
    (hb1 : es1.size < scanBound) (hf2 : t2.fits es1.size = true) (hr : Ris t2.place.toList) (hl : w.params.followText "set-order" = true ∨ t2.led = true) {wasDummy : Bool} {R : Option Bool → Shared → Prop}
    (hR : ∀ h', Heap.SameBut a s.heap h' → SetM w h' a ks' → R (some true) { s with heap := h' }) :
    wpAny (model P w) A (do
        storeSet a es1 t2
        if (!wasDummy && t2.tooFull) = true then do
            g (relayAll t2 es1 (SetTable.grown es1.size)).2.2
            storeSet a (relayAll t2 es1 (SetTable.grown es1.size)).1 (relayAll t2 es1 (SetTable.grown es1.size)).2.1
            pure (some true)
          else pure (some true)) R E s := by
  refine wpAny_bind (wpAny_storeSet_of ho hd ?_ (fits_of_scanBound hb1))
  have ho1 := store_at (es' := es1) (t' := t2) ho hd
  have sb1 := Heap.SameBut.update s.heap a (Obj.putSet es1 t2)
  split
  · have pm := relayAll_perm t2 es1 (SetTable.grown es1.size)
    have hf3 := relayAll_fits t2 es1 (SetTable.grown es1.size)
    have hr3 := relayAll_ris t2 es1 (SetTable.grown es1.size)
    have hl3 := relayAll_led t2 es1 (SetTable.grown es1.size)
    generalize relayAll t2 es1 (SetTable.grown es1.size) = Z at pm hf3 hr3 hl3 ⊢
    obtain ⟨es2, t3, gave⟩ := Z
    dsimp only at pm hf3 hr3 hl3 ⊢
    have hsz : es2.size = es1.size := by rw [← Array.length_toList, pm.length_eq, Array.length_toList]
    have hb2 : es2.size < scanBound := by rw [hsz]; exact hb1
    refine wpAny_bind (hg _ _ _ ?_)
    refine wpAny_bind (wpAny_storeSet_of ho1 rfl ?_ (fits_of_scanBound hb2))
    have ho2 := store_at (es' := es2) (t' := t3) ho1 rfl
    refine wpAny_pure (hR _ (sb1.trans (Heap.SameBut.update _ a _)) ?_)
    exact ⟨_, es2, _, t3, ho2, hex, rfl, fun e he => g1 e (pm.mem_iff.mp he), (pm.map kOf).trans m1, nd1, hb2, hf3, hr3,
      hl.imp id fun z => by rw [hl3]; exact z⟩
  · exact wpAny_pure (hR _ sb1 ⟨_, es1, _, t2, ho1, hex, rfl, g1, m1, nd1, hb1, hf2, hr, hl⟩)

theorem setM_hashed {k : Key} {kv : Value} {Q : Bool → Shared → Prop} (rk : L2.RelV (kV k) kv) (R : SetM w s.heap a ks) (room : ks.length + 1 < scanBound)
    (hQ : ∀ h', Heap.SameBut a s.heap h' → SetM w h' a (addK ks k) → ∀ b, Q b { s with heap := h' }) :
    wpAny (model P w) A (setAddHashed a kv ((mixKind P w).hash k)) Q E s := by
  obtain ⟨o, es, ep, t, ho, hex, hd, g, pmk, nd, hb, hf, hr, hl⟩ := R
  have hkey : (mixKind P w).is k kv = true := kV_is rk
  have hsc : kv.scannable = true := key_scan rk
  have hel : ElemsOf (mixKind P w) es.toList := goodM_elems g
  unfold setAddHashed setAddHashedIn
  refine wpAny_holding (wpAny_bind (wpAny_setState_of ho hd hf ?_))
  dsimp only
  rw [byScan_of hsc hb hel]
  simp only [↓reduceIte]
  unfold setAddByScan
  refine wpAny_bind ?_
  refine wpAny_bind (wpAny_rule ?_)
  refine wpAny_bind (wpAny_setScan_of hkey ho hd hf hel ?_)
  cases hfi : List.findIdx? (fun e => (mixKind P w).is k e.2) es.toList with
  | some j =>
    dsimp only
    obtain ⟨hj, pj, _⟩ := List.findIdx?_eq_some_iff_getElem.mp hfi
    have hSk : k ∈ ks := pmk.mem_iff.mp ((goodM_mem (P := P) g k).2 ⟨es.toList[j], List.getElem_mem hj, pj⟩)
    refine wpAny_pure (wpAny_pure ?_)
    have q := hQ s.heap (Heap.SameBut.refl a s.heap)
    rw [addK, if_pos hSk] at q
    exact q ⟨o, es, ep, t, ho, hex, hd, g, pmk, nd, hb, hf, hr, hl⟩ _
  | none =>
    dsimp only
    have hnk : k ∉ ks := fun z => by
      obtain ⟨e, he, q⟩ := (goodM_mem (P := P) g k).1 (pmk.mem_iff.mpr z)
      have c := List.findIdx?_eq_none_iff.mp hfi e he
      rw [q] at c
      cases c
    have hgw : ∀ (b : Bool) {s₁ : Shared} {Q' : Unit → Shared → Prop}, Q' () s₁ → wpAny (model P w) A (match b with | true => rule "set.scan.the-table-gave-way" | false => pure ()) Q' E s₁ :=
      fun b s₁ Q' q => by cases b <;> first | exact wpAny_pure q | exact wpAny_rule q
    have pm := layNew_perm t es ((mixKind P w).hash k) kv
    have hf1 := layNew_fits t es ((mixKind P w).hash k) kv
    have hr1 := layNew_ris t es ((mixKind P w).hash k) kv hr
    have hl1 := layNew_led t es ((mixKind P w).hash k) kv
    generalize layNew t es ((mixKind P w).hash k) kv = Z at pm hf1 hr1 hl1 ⊢
    obtain ⟨es1, t1, wasDummy, gave⟩ := Z
    dsimp only at pm hf1 hr1 hl1 ⊢
    rw [Array.toList_push] at pm
    have pc : es1.toList.Perm (((mixKind P w).hash k, kv) :: es.toList) := pm.trans (List.perm_append_singleton _ _)
    have ek : kOf ((mixKind P w).hash k, kv) = k := kOf_rel rk
    have pk : (es1.toList.map kOf).Perm (k :: es.toList.map kOf) := by
      have z := pc.map kOf
      rw [List.map_cons, ek] at z
      exact z
    have g1 : ∀ e ∈ es1.toList, GoodM w e := fun e he => by
      rcases List.mem_cons.mp (pc.mem_iff.mp he) with z | z
      · rw [z]
        unfold GoodM
        rw [ek]
        exact ⟨rk, rfl⟩
      · exact g e z
    have m1 : (es1.toList.map kOf).Perm (addK ks k) := by
      rw [addK, if_neg hnk]
      exact pk.trans ((pmk.cons k).trans (List.perm_append_singleton _ _).symm)
    have nd1 : (addK ks k).Nodup := addK_nodup nd
    have hln : es.size = ks.length := by rw [← pmk.length_eq, List.length_map, Array.length_toList]
    have hsz : es1.size = ks.length + 1 := by rw [← Array.length_toList, pc.length_eq, List.length_cons, Array.length_toList, hln]
    have hb1 : es1.size < scanBound := by rw [hsz]; exact room
    have hled : w.params.followText "set-order" = true ∨ t1.led = true := hl.imp id fun z => by rw [hl1]; exact z
    have fin : ∀ h', Heap.SameBut a s.heap h' → SetM w h' a (addK ks k) → Q true { s with heap := h' } := fun h' sb r => hQ h' sb r true
    refine wpAny_bind (hgw _ ?_)
    split
    · refine wpAny_bind ?_
      rw [hashByValue_scannable 8 hsc]
      refine wpAny_pure ?_
      refine setM_tail ?_ ho hex hd g1 m1 nd1 hb1 ?_ ?_ ?_ ?_
      · intro b s₁ Q' q; cases b <;> first | exact wpAny_pure q | exact wpAny_rule q
      · first | (split <;> first | exact hf1 | exact SetTable.fits_plain_off hf1) | exact hf1
      · first | (split <;> exact hr1) | exact hr1
      · first | (split <;> exact hled) | exact hled
      · intro h' sb r; dsimp only; exact wpAny_pure (fin h' sb r)
    · refine wpAny_bind (wpAny_pure ?_)
      simp only [↓reduceIte]
      refine setM_tail ?_ ho hex hd g1 m1 nd1 hb1 hf1 hr1 hled ?_
      · intro b s₁ Q' q; cases b <;> first | exact wpAny_pure q | exact wpAny_rule q
      · intro h' sb r; dsimp only; exact wpAny_pure (fin h' sb r)
theorem setM_add {k : Key} {kv : Value} {Q : Value → Shared → Prop} (rk : L2.RelV (kV k) kv) (R : SetM w s.heap a ks) (room : ks.length + 1 < scanBound)
    (hQ : ∀ h' n, Heap.SameBut a s.heap h' → SetM w h' a (addK ks k) → Q .none { s with heap := h', toks := s.toks + n }) :
    wpAny (model P w) A (call (.builtin "set.add") [.ref a, kv]) Q E s := by
  refine wpAny_call_entry F.slot_set_add R.typeIs F.entry_set_add ?_ (F.args_set_add_2 _ _)
  unfold Builtin.«set.add» Builtin.Frozenset.oneOther
  simp only [List.isEmpty_nil, bind_assoc]
  unfold Builtin.Frozenset.addrOf setAdd
  refine wpAny_bind (wpAny_pure ?_)
  try dsimp only
  refine wpAny_bind (wpAny_pure ?_)
  try dsimp only
  refine wpAny_bind ?_
  refine wpAny_holding ?_
  refine wpAny_bind ((mixKind P w).pyHash (kV_is rk) ?_)
  refine setM_hashed rk R room fun h' sb r b => ?_
  show wpAny _ _ (ret Value.none) _ _ _
  exact wpAny_pure ⟨_, rfl, hQ h' _ sb r⟩
end
end Cab
/-! text CabQ4 -/
set_option Elab.async false
set_option linter.all false
set_option maxRecDepth 100000
set_option maxHeartbeats 2000000
/-! set comprehensions (after the library's rule for truth values), sorted of such sets and of texts, list of a text, list of a dict's values -/
namespace Cab
open PySem PySem.Spec PyProof.Rows L2 He
noncomputable def SetMO (w : World) (a : Addr) (ks : List Key) : HO := .ext fun h => SetM w h a ks
theorem setMO_new {w : World} {P : Program} {H : Hp} {h : Heap} {a : Addr} {ks : List Key} (R : SetM w h a ks) : ObjOk P w H h a (SetMO w a ks) := by
  have ⟨o, _, _, _, ho, _⟩ := R
  exact ⟨R, ⟨o, ho⟩, fun h1 h2 p k => SetM.at p k⟩
theorem setM_fresh {h : Heap} (w : World) : SetM w (h.push { cls := .type "set", dict := none, data := .set #[] 0 (.fresh 0 0 (!w.params.followText "set-order")) }) h.objs.size [] :=
  ⟨_, #[], 0, _, Heap.get?_push_size _ rfl, ⟨rfl, rfl, rfl⟩, rfl, (fun e he => by simp at he), .nil, .nil, (by decide), (by rfl), List.Pairwise.nil, by
    show _ ∨ (!w.params.followText "set-order") = true
    cases w.params.followText "set-order"
    · exact .inr rfl
    · exact .inl rfl⟩
section
variable {X : Cx}
theorem setMO_get {pins : List (Addr × Obj)} {σ : L2.St} {H : Hp} {s : Shared} {a : Addr} {ks : List Key} (I : Inv X pins σ H s) (ha : H a = some (SetMO X.w a ks)) : SetM X.w s.heap a ks := (I.hok a _ ha).1
theorem addM_ok {pins : List (Addr × Obj)} {σ : L2.St} {H : Hp} {s : Shared} {E : Value → Shared → Prop} {D : Addr} {ks : List Key} {k : Key} {u : Value} {Q : Value → Shared → Prop} (I : Inv X pins σ H s) (hD : H D = some (SetMO X.w D ks)) (room : ks.length + 1 < scanBound) (r : L2.RelV (kV k) u)
    (h : ∀ s', Inv X pins σ (upd H D (SetMO X.w D (addK ks k))) s' → Q .none s') : wpAny (model X.prog X.w) X.A (call (.builtin "set.add") [.ref D, u]) Q E s := by
  have R := setMO_get I hD
  refine setM_add r R room fun h' n sb new => ?_
  have he : ∃ u, h'.get? D = some u := by
    have ⟨o, _, _, _, ho, _⟩ := new
    exact ⟨o, ho⟩
  exact h _ (I.write (e := D) (t' := s.toks + n) (by rw [hD]; trivial) (.inl rfl) (fun b u hb hu => (sb.2 b hb).trans hu) he (setMO_new new))
/-- {elt for target in iter if ..}, elt an int or a text: D the new set -/
def tScM (w : World) (wi : L2.TI) (g : TG) (tt : TT) (te : TE) (vs : List Nat) : TE := fun σ H Q => wi σ H fun J H1 => ∀ D, H1 D = none → ∃ W : Nat → Nat → Hp → Prop, (∃ m, W 0 m (upd H1 D (SetMO w D []))) ∧ ∀ i m H, W i m H →
  (J.stop i H ∧ Q (.ref D) H) ∨ (J.go i H ∧ ∃ Nx : Hp → Prop, (∀ H', Nx H' → ∃ m', m' < m ∧ W (i + 1) m' H') ∧ ∀ x H', J.yld i H x H' → g x (wipe σ vs) H' fun σ2 H2 => wipe σ2 vs = wipe σ vs ∧ tt σ2 H2 fun b H3 =>
    if b = true then te σ2 H3 fun y H4 => ∃ (ks : List Key) (k : Key), y = kV k ∧ H4 D = some (SetMO w D ks) ∧ ks.length + 1 < scanBound ∧ Nx (upd H4 D (SetMO w D (addK ks k))) else Nx H3)
theorem scM_core {pins : List (Addr × Obj)} {s : Shared} {σ : L2.St} {H : Hp} {Q : VK} {elt tg iter : Expr} {ifs : List Expr} {scope : Scope} {own : List (PySem.Str × Nat)} {pos pos' : Pos} {wi : L2.TI} {g : TG} {tt : TT} {te : TE} {use : Option (Value → Sem Unit)} {Qf : Value → Shared → Prop}
    (hc : X.calm = true) (hN : X.N.Nodup) (I : Inv X pins σ H s) (hi : PI X tg iter wi) (ok : BlkOk X.N X.env.scope scope own)
    (hg : ∀ (s : Shared) (H : Hp) (C : Addr) (cl : List (PySem.Str × Addr)) (fp : List Addr), PG (X.blk s H scope (compEnvC scope cl C X.env) fp) tg g) (ht : ∀ (s : Shared) (H : Hp) (C : Addr) (cl : List (PySem.Str × Addr)) (fp : List Addr), PTs (X.blk s H scope (compEnvC scope cl C X.env) fp) ifs tt)
    (he : ∀ (s : Shared) (H : Hp) (C : Addr) (cl : List (PySem.Str × Addr)) (fp : List Addr), PE (X.blk s H scope (compEnvC scope cl C X.env) fp) elt te) (hs : ∀ x, foldedSetIterable iter X.env x = pure x)
    (h : tScM X.w wi g tt te (own.map (·.2)) σ H Q)
    (hRR : ∀ D C s' m H', Inv X pins σ H' s' → Q (.ref D) H' → s'.heap.Ns C m → FpOk X pins H' C → compPost (model X.prog X.w) X.A X.xe use Qf (.ref D) C (.ok .next) s') :
    wpAny (model X.prog X.w) X.A (comprehension (.SetComp elt [⟨tg, iter, ifs, 0⟩] scope pos) scope X.env pos' (newSet (.type "set")) false (eval iter X.env) use) Qf X.xe s := by
  have hfree : ∀ y ∈ scope.names, y.2 = .free → ∃ c, X.env.cells.lookup y.1 = some c := fun y hy e => by
    rcases ok.free y hy e with k | k
    · exact I.ok.has _ (.inl k)
    · exact I.ok.has _ (.inr k)
  refine wpAny_comprehension_free (use := use) rfl hs (closure_ok hfree) ok.kind (fun y hy e => by rw [ok.uniq y hy, e])
    (thn (hi.run pins s σ H _ I h) fun xv s1 hx => thn hx fun itv s2 h2 => ?_)
  obtain ⟨it, fp, tn, J, H2, e, I2, T, st2, f2, q⟩ := h2
  subst e
  refine PpSet.newSet_ok (newEnv_comp ?_)
  generalize hD : s2.heap.objs.size = D
  have hDn : H2 D = none := I2.hok.fresh (Nat.le_of_eq hD)
  obtain ⟨W, ⟨m0, w0⟩, turn⟩ := q D hDn
  -- the new list
  generalize hs3 : ({ s2 with heap := s2.heap.push { cls := .type "set", dict := none, data := .set #[] 0 (.fresh 0 0 (!X.w.params.followText "set-order")) } } : Shared) = s3
  have I3 : Inv X pins σ (upd H2 D (SetMO X.w D [])) s3 := by
    rw [← hs3]
    refine I2.laid (t' := s2.toks) (fun b o e => Heap.get?_push_of_some _ e) (Nat.le_of_eq hD) ?_
    rw [← hD]
    exact setMO_new (setM_fresh X.w)
  have h3 : s3.heap = s2.heap.push { cls := .type "set", dict := none, data := .set #[] 0 (.fresh 0 0 (!X.w.params.followText "set-order")) } := by rw [← hs3]
  have sz : ∀ b ∈ fp, b < s2.heap.objs.size := fun b hb => by
    obtain ⟨o, e, _⟩ := T.obj _ _ st2 b hb
    exact Heap.lt_size e
  have f3 : ∀ b ∈ fp, FpOk X pins (upd H2 D (SetMO X.w D [])) b ∧ b < s3.heap.objs.size := fun b hb => by
    have hlt := sz b hb
    refine ⟨⟨?_, (f2 b hb).2⟩, by rw [h3, Heap.size_push]; exact Nat.lt_succ_of_lt hlt⟩
    rw [upd_ne (by rw [← hD]; exact Nat.ne_of_lt hlt)]
    exact (f2 b hb).1
  have st3 : tn 0 s3.heap := T.keep _ _ _ st2 fun b _ o e => by rw [h3]; exact Heap.get?_push_of_some _ e
  have I4 := block_start I3 ok hN f3
  have pg := hg s3 (upd H2 D (SetMO X.w D [])) s3.heap.objs.size (cellsFrom (s3.heap.objs.size + 1) scope.names (cloFrom X.env.cells scope.names [])) fp
  have pt := ht s3 (upd H2 D (SetMO X.w D [])) s3.heap.objs.size (cellsFrom (s3.heap.objs.size + 1) scope.names (cloFrom X.env.cells scope.names [])) fp
  have pe := he s3 (upd H2 D (SetMO X.w D [])) s3.heap.objs.size (cellsFrom (s3.heap.objs.size + 1) scope.names (cloFrom X.env.cells scope.names [])) fp
  show codeAny _ _ (.compStart (.SetComp elt [⟨tg, iter, ifs, 0⟩] scope pos) 0 (.ref it) (.ref D) (compEnvC scope (cellsFrom (s3.heap.objs.size + 1) scope.names (cloFrom X.env.cells scope.names [])) s3.heap.objs.size X.env)) (compPost (model X.prog X.w) X.A X.xe use Qf (.ref D) s3.heap.objs.size) { s3 with heap := pushCells (s3.heap.push { cls := .type "dict", data := .dict #[] }) scope.names }
  have nfp : ∀ b ∈ fp, (upd H2 D (SetMO X.w D [])) b = none := fun b hb => (f3 b hb).1.1
  generalize hce : compEnvC scope (cellsFrom (s3.heap.objs.size + 1) scope.names (cloFrom X.env.cells scope.names [])) s3.heap.objs.size X.env = ce at I4 pg pt pe ⊢
  have cL : ce.locals = s3.heap.objs.size := by subst hce; rfl
  generalize hH3 : upd H2 D (SetMO X.w D []) = H3 at I3 I4 pg pt pe w0 nfp f3
  generalize hs4 : ({ s3 with heap := pushCells (s3.heap.push { cls := .type "dict", data := .dict #[] }) scope.names } : Shared) = s4 at I4 ⊢
  have st4 : tn 0 s4.heap := T.keep _ _ _ st3 fun b _ o e => by rw [← hs4]; exact pushCells_keeps _ _ _ _ (Heap.get?_push_of_some _ e)
  have stat : ∀ {σ' : L2.St} {H' : Hp} {s' : Shared}, Inv (X.blk s3 H3 scope ce fp) [] σ' H' s' → (∀ b ∈ fp, H' b = none) → ∀ b ∈ fp, FpOk (X.blk s3 H3 scope ce fp) [] H' b := fun {σ' H' s'} I' hn b hb =>
    ⟨hn b hb, (I'.ok.exf b hb).1, I'.ok.exfs b hb, .inl hb, fun x c e => (I'.ok.exf b hb).2 x c e, fun p hp => absurd (show p ∈ ([] : List (Addr × Obj)) ++ [] from hp) (by simp)⟩
  have loop : codeAny (model X.prog X.w) X.A (.compLoop (.SetComp elt [⟨tg, iter, ifs, 0⟩] scope pos) 0 (.ref it) (.ref D) ce) (compPost (model X.prog X.w) X.A X.xe use Qf (.ref D) s3.heap.objs.size) s4 := by
    refine PpSet.compLoopS_any (fun n s' => ∃ i H', Inv (X.blk s3 H3 scope ce fp) [] (wipe σ (own.map (·.2))) H' s' ∧ tn i s'.heap ∧ (∀ b ∈ fp, H' b = none) ∧ W i n H') ?_ m0 ⟨0, H3, I4, st4, nfp, w0⟩
    rintro n s5 ⟨i, H5, I5, st5, n5, w5⟩
    rcases turn i n H5 w5 with ⟨stop, qq⟩ | ⟨go, Nx, hNx, step⟩
    · have td := T.done (X.blk s3 H3 scope ce fp) rfl rfl rfl hc i [] s5 _ H5 (fun _ _ => False) I5 (stat I5 n5) st5 stop
      refine thnF td fun r s6 ⟨hr, I6⟩ => ?_
      subst hr
      -- back in the def's context
      have I7 : Inv X pins σ H5 s6 := I3.call' (ch := fp) I6.os I6.base I6.hok I6.bare fun b hb => ⟨(f3 b hb).1.2.2.2.1, (f3 b hb).1.2.1, (f3 b hb).1.2.2.2.2.1, (f3 b hb).1.2.2.2.2.2⟩
      have nC : H5 s3.heap.objs.size = none := by
        have z : H5 ce.locals = none := I6.free
        rw [cL] at z
        exact z
      obtain ⟨m, hn, _⟩ := I6.loc
      have hn : s6.heap.Ns ce.locals m := hn
      rw [cL] at hn
      exact hRR D s3.heap.objs.size s6 m H5 I7 qq hn (I3.fpOk (Nat.le_refl _) nC)
    · have ti := T.item (X.blk s3 H3 scope ce fp) rfl rfl rfl hc i [] s5 _ H5 (fun _ _ => False) I5 (stat I5 n5) st5 go
      refine thnF ti fun r s6 ⟨u, hr, h6⟩ => ?_
      subst hr
      refine thnF h6 fun _ s7 ⟨x, H7, I7, r7, y7, st7, n7⟩ => ?_
      have I7' := I7.pinned (stat I7 n7) (T.obj _ _ st7)
      refine thnF (pg.run _ s7 _ H7 x u _ I7' r7 (step x H7 y7)) fun _ s8 ⟨σ8, H8, I8, hw8, q8⟩ => ?_
      refine thnF (pt.run _ s8 σ8 H8 _ I8 q8) fun b s9 ⟨H9, I9, q9⟩ => ?_
      -- the turn's end
      have fin : ∀ {s' : Shared} {H' : Hp}, Inv (X.blk s3 H3 scope ce fp) ([] ++ pinsAt fp s7.heap) σ8 H' s' → Nx H' → ∃ m, m < n ∧ ∃ i H', Inv (X.blk s3 H3 scope ce fp) [] (wipe σ (own.map (·.2))) H' s' ∧ tn i s'.heap ∧ (∀ b ∈ fp, H' b = none) ∧ W i m H' := fun {s' H'} I' nx => by
        obtain ⟨m', hm, w'⟩ := hNx H' nx
        have pin' : ∀ b ∈ fp, ∀ o, s7.heap.get? b = some o → s'.heap.get? b = some o ∧ H' b = none := fun b hb o e =>
          let z := I'.pin (b, o) (List.mem_append_right _ (List.mem_append_right _ (mem_pinsAt hb e)))
          ⟨z.1, z.2.1⟩
        have hl : (wipe σ (own.map (·.2))).length = σ8.length := by rw [← hw8, wipe_length]
        refine ⟨m', hm, i + 1, H', (I'.unpinned (pins := [])).weak hl (fun j v e => ?_), T.keep _ _ _ st7 fun b hb o e => (pin' b hb o e).1, fun b hb => ?_, w'⟩
        · rw [← hw8] at e
          exact (wipe_some e).1
        · obtain ⟨o, e, _⟩ := T.obj _ _ st7 b hb
          exact (pin' b hb o e).2
      cases b with
      | false =>
        simp only [Bool.false_eq_true, if_false] at q9 ⊢
        exact fin I9 q9
      | true =>
        simp only [if_true] at q9 ⊢
        refine thnF (pe.run _ s9 σ8 H9 _ I9 q9) fun z s10 ⟨yv, H10, I10, r10, ks0, k0, ey, hD10, hz10, nx⟩ => ?_
        subst ey
        exact addM_ok (X := X.blk s3 H3 scope ce fp) I10 hD10 hz10 r10 fun s11 I11 => fin I11 nx
  exact PpSet.codeAny_compStart_set loop (T.self X.A 0 _ _ _ st4 loop)
/-- as a value -/
theorem pe_scM {elt tg iter : Expr} {ifs : List Expr} {scope : Scope} {own : List (PySem.Str × Nat)} {pos : Pos} {wi : L2.TI} {g : TG} {tt : TT} {te : TE} (hc : X.calm = true) (hN : X.N.Nodup) (hi : PI X tg iter wi) (ok : BlkOk X.N X.env.scope scope own)
    (hg : ∀ (s : Shared) (H : Hp) (C : Addr) (cl : List (PySem.Str × Addr)) (fp : List Addr), PG (X.blk s H scope (compEnvC scope cl C X.env) fp) tg g) (ht : ∀ (s : Shared) (H : Hp) (C : Addr) (cl : List (PySem.Str × Addr)) (fp : List Addr), PTs (X.blk s H scope (compEnvC scope cl C X.env) fp) ifs tt)
    (he : ∀ (s : Shared) (H : Hp) (C : Addr) (cl : List (PySem.Str × Addr)) (fp : List Addr), PE (X.blk s H scope (compEnvC scope cl C X.env) fp) elt te) (hs : ∀ x, foldedSetIterable iter X.env x = pure x := by intro _; rfl) :
    PE X (.SetComp elt [⟨tg, iter, ifs, 0⟩] scope pos) (tScM X.w wi g tt te (own.map (·.2))) := by
  refine ⟨fun pins s σ H Q I h => ?_⟩
  rw [PpSet.eval_SetComp]
  refine scM_core hc hN I hi ok hg ht he hs h fun D C s' m H' I' q hn f => ⟨m, hn, fun h'' sb => ?_⟩
  obtain ⟨f0, f1, f2, f3, f4, f5⟩ := f
  exact ⟨.ref D, H', I'.turned (t' := s'.toks) (fun b o hb e => (sb.2 b hb).trans e) f0 f1 f3 f4 f5, rfl, q⟩
end
/-! ### over a walk -/
section
variable {X : Cx} {scope : Scope} {σ : L2.St}
def ScR (X : Cx) (scope : Scope) (elt tg : Expr) (ifs : List Expr) (vs : List Nat) (σ : L2.St) (J : It) (H1 : Hp) (Q : VK) : Prop :=
  ∃ (n : Nat) (G : Hp → Prop) (Y : Nat → Hp → V → Hp → Prop), Walk J n G Y ∧ ∀ D, H1 D = none → ∃ Pv : Nat → List Key → Hp → Prop,
    (∀ H', Same H1 H' → Pv 0 [] H') ∧ (∀ i acc H, i ≤ n → Pv i acc H → H D = some (SetMO X.w D acc) → G H) ∧
    (∀ i acc x H H', i < n → Pv i acc H → H D = some (SetMO X.w D acc) → Y i H x H' → gU X scope tg x (wipe σ vs) H' fun σ2 H2 => wipe σ2 vs = wipe σ vs ∧ tU X scope ifs σ2 H2 fun b H3 =>
      if b = true then eU X scope elt σ2 H3 fun y H4 => ∃ k, y = kV k ∧ H4 D = some (SetMO X.w D acc) ∧ acc.length + 1 < scanBound ∧ ∀ H5, But D H4 H5 → H5 D = some (SetMO X.w D (addK acc k)) → Pv (i + 1) (addK acc k) H5
      else Pv (i + 1) acc H3 ∧ H3 D = some (SetMO X.w D acc)) ∧
    ∀ acc H, Pv n acc H → H D = some (SetMO X.w D acc) → Q (.ref D) H
theorem scR {elt tg : Expr} {ifs : List Expr} {vs : List Nat} {J : It} {H1 : Hp} {Q : VK} (h : ScR X scope elt tg ifs vs σ J H1 Q) : ∀ D, H1 D = none → ∃ W : Nat → Nat → Hp → Prop, (∃ m, W 0 m (upd H1 D (SetMO X.w D []))) ∧ ∀ i m H, W i m H →
      (J.stop i H ∧ Q (.ref D) H) ∨ (J.go i H ∧ ∃ Nx : Hp → Prop, (∀ H', Nx H' → ∃ m', m' < m ∧ W (i + 1) m' H') ∧ ∀ x H', J.yld i H x H' → gU X scope tg x (wipe σ vs) H' fun σ2 H2 => wipe σ2 vs = wipe σ vs ∧ tU X scope ifs σ2 H2 fun b H3 =>
        if b = true then eU X scope elt σ2 H3 fun y H4 => ∃ (ks : List Key) (k : Key), y = kV k ∧ H4 D = some (SetMO X.w D ks) ∧ ks.length + 1 < scanBound ∧ Nx (upd H4 D (SetMO X.w D (addK ks k))) else Nx H3) := by
  obtain ⟨n, G, Y, wk, h⟩ := h
  intro D hD
  obtain ⟨Pv, h0, hG, hs, hd⟩ := h D hD
  refine ⟨fun i m H => m = n - i ∧ i ≤ n ∧ ∃ acc, Pv i acc H ∧ H D = some (SetMO X.w D acc), ⟨n, by simp, Nat.zero_le _, [], h0 _ (Same.new hD), upd_same⟩, ?_⟩
  rintro i m H ⟨rfl, hi, acc, p, hDl⟩
  have q := hG i acc H hi p hDl
  by_cases hlt : i < n
  · refine .inr ⟨wk.goes i H hlt q, fun H' => ∃ acc, Pv (i + 1) acc H' ∧ H' D = some (SetMO X.w D acc), fun H' p' => ⟨n - (i + 1), by omega, rfl, hlt, p'⟩, fun x H' y => ?_⟩
    have h1 := hs i acc x H H' hlt p hDl (wk.yields i H x H' hlt q y)
    intro s0 H0 C cl fp pins s u I r
    refine thn (h1 s0 H0 C cl fp pins s u I r) fun _ s1 ⟨σ2, H2, I2, e2, k⟩ => ⟨σ2, H2, I2, e2, ?_⟩
    intro s0 H0 C cl fp pins s I
    refine thn (k s0 H0 C cl fp pins s I) fun b s3 ⟨H3, I3, k⟩ => ⟨H3, I3, ?_⟩
    cases b with
    | false => exact ⟨acc, k.1, k.2⟩
    | true =>
      intro s0 H0 C cl fp pins s I
      refine thn (k s0 H0 C cl fp pins s I) fun _ s4 ⟨y, H4, I4, r4, kk, e1, e2, e3, k2⟩ => ⟨y, H4, I4, r4, acc, kk, e1, e2, e3, addK acc kk, k2 _ But.upd upd_same, upd_same⟩
  · have e : i = n := by omega
    subst e
    exact .inl ⟨wk.stops H q, hd acc H p hDl⟩
variable {H : Hp} {elt tg iter : Expr} {ifs : List Expr} {own : List (PySem.Str × Nat)} {pos : Pos}
theorem we_sc {Q : VK} {N ps : List PySem.Str} {sc : Scope} (S : FnScope N ps sc) (own : List (PySem.Str × Nat)) (h : WI X tg iter σ H fun J H1 => ScR X scope elt tg ifs (own.map (·.2)) σ J H1 Q) (ok : blkC N sc scope own = true := by decide +kernel) (eN : X.N = N := by rfl) (eS : X.env.scope = sc := by rfl) (hc : X.calm = true := by rfl) (hs : ∀ x, foldedSetIterable iter X.env x = pure x := by intro _; rfl) :
    WE X (.SetComp elt [⟨tg, iter, ifs, 0⟩] scope pos) σ H Q :=
  wE (pe_scM (own := own) hc (by rw [eN]; exact S.nd) pI (by rw [eN, eS]; exact blkOk_by ok) pgU ptU peU hs) (show tScM _ _ _ _ _ _ σ H Q from fun pins s I => thn (h pins s I) fun v s1 k => thn k fun itv s2 ⟨it, fp, tn, J, H', e1, I2, T, t0, hf, r⟩ => ⟨it, fp, tn, J, H', e1, I2, T, t0, hf, scR r⟩)
end
end Cab
/-! text CabQ5 -/
set_option Elab.async false
set_option linter.all false
set_option maxRecDepth 100000
set_option maxHeartbeats 2000000
/-! sorted of such sets and of texts, list of a text, list of a dict's values -/
namespace Cab
open PySem PySem.Spec PyProof.Rows L2 He
section
variable {P : Program} {w : World} {A : Around} {E : Value → Shared → Prop} {s : Shared} {a : Addr} {ks : List Key}
/-- sorted(xs) whose items are collected and sorted as given -/
theorem sorted_by {x : Value} {Q : Value → Shared → Prop} {G : List Value → Prop} {F : List Value → Array Value → Prop}
    (hc : ∀ {Q' : List Value → Shared → Prop} {E' : Value → Shared → Prop}, (∀ s' out, (∀ b o, s.heap.get? b = some o → s'.heap.get? b = some o) → s.heap.objs.size ≤ s'.heap.objs.size → s'.gens = s.gens → s'.os = s.os → G out → Q' out s') → wpAny (model P w) A.in1 (collect x) Q' E' s)
    (hz : ∀ vs, G vs → vs.length ≤ sizeLine)
    (hs : ∀ {vs : List Value} {s' : Shared} {A' : Around} {b : Addr} {R : PySem.Fin → Shared → Prop} {E' : Value → Shared → Prop}, G vs → s'.heap.get? b = some (seqObj "list" vs.toArray 0) → (∀ out, F vs out → R (.done (.ret .none)) { s' with heap := sortedHeap s'.heap b vs out }) → wpAny (model P w) A' (Builtin.«list.sort» ⟨[.ref b], []⟩) R E' s')
    (hQ : ∀ s' p (vs : List Value) (out : Array Value) (c : Nat), (∀ b o, s.heap.get? b = some o → s'.heap.get? b = some o) → s'.gens = s.gens → s'.os = s.os → s.heap.objs.size ≤ p → s'.heap.get? p = some (seqObj "list" out c) → G vs → F vs out → Q (.ref p) s') :
    wpAny (model P w) A (call (.builtin "sorted") [x]) Q E s := by
  refine Calls.call_function_entry kind_sorted plain_sorted entry_sorted (args_sorted1 _) ?_
  unfold Builtin.«sorted»
  refine wpAny_bind (m := checkCount "sorted" 1 1 _) (wpAny_pure ?_)
  refine wpAny_bind (hc fun s1 vs k1 hz1 g1 o1 gv => ?_)
  refine wpAny_bind (wpAny_newList ?_ (hz vs gv))
  have hoL : (s1.heap.push (seqObj "list" vs.toArray 0)).get? s1.heap.objs.size = some (seqObj "list" vs.toArray 0) := Heap.get?_push_size _ rfl
  refine wpAny_bind (wpAny_holding (wpAny_call_entry slot_list_sort ⟨_, hoL, rfl⟩ entry_list_sort (hs (s' := { s1 with heap := s1.heap.push (seqObj "list" vs.toArray 0) }) gv hoL fun out fv => ⟨_, rfl, ?_⟩) (args_list_sort _)))
  obtain ⟨c, hc⟩ := sortedHeap_at (vs := vs) (out := out) hoL
  refine wpAny_pure ⟨_, rfl, hQ _ s1.heap.objs.size vs out c (fun b u e => ?_) g1 o1 hz1 hc gv fv⟩
  have q := k1 b u e
  have hlt := Heap.lt_size q
  show (sortedHeap (s1.heap.push (seqObj "list" vs.toArray 0)) s1.heap.objs.size vs out).get? b = some u
  rw [sortedHeap_old (Nat.ne_of_lt hlt) (by rw [size_push']; exact Nat.lt_succ_of_lt hlt)]
  exact Heap.get?_push_of_some _ q
theorem sort_I {vs : List Value} {ns : List Int} {s' : Shared} {A' : Around} {b : Addr} {R : PySem.Fin → Shared → Prop} {E' : Value → Shared → Prop} (hI : IntsAre vs ns) (hz : vs.length ≤ sizeLine) (ho : s'.heap.get? b = some (seqObj "list" vs.toArray 0))
    (h : ∀ out, (∃ ns', IntsAre out.toList ns' ∧ ns'.Perm ns ∧ ns'.Pairwise (· ≤ ·)) → R (.done (.ret .none)) { s' with heap := sortedHeap s'.heap b vs out }) : wpAny (model P w) A' (Builtin.«list.sort» ⟨[.ref b], []⟩) R E' s' :=
  list_sort_treeAny ho hI hz fun out ns' h1 h2 h3 => h out ⟨ns', h1, h2, h3⟩
theorem sort_S {vs : List Value} {ss : List PySem.Str} {s' : Shared} {A' : Around} {b : Addr} {R : PySem.Fin → Shared → Prop} {E' : Value → Shared → Prop} (hS : StrsAre vs ss) (hz : vs.length ≤ sizeLine) (ho : s'.heap.get? b = some (seqObj "list" vs.toArray 0))
    (h : ∀ out, (∃ ss', StrsAre out.toList ss' ∧ ss'.Perm ss ∧ sortedS ss' = true) → R (.done (.ret .none)) { s' with heap := sortedHeap s'.heap b vs out }) : wpAny (model P w) A' (Builtin.«list.sort» ⟨[.ref b], []⟩) R E' s' :=
  list_sort_treeKAny strKind_oneLt ho hS.keysOf (fun v₁ v₂ rest e => keyKind_strs (by rw [← e]; exact hS)) hz fun st' hp hs => by
    obtain ⟨ss', h1, h2, h3⟩ := sorted_out_str hS hp hs
    exact h _ ⟨ss', h1, h2, h3⟩
theorem ints_of_keys : ∀ {vs : List Value} {ns : List Int}, (vs.map fun v => kOf (0, v)) = ns.map Sum.inl → (∀ v ∈ vs, L2.RelV (kV (kOf (0, v))) v) → IntsAre vs ns
  | [], [], _, _ => .nil
  | v :: vs, n :: ns, e, h => by
    injection e with e1 e2
    have e1 : kOf (0, v) = Sum.inl n := e1
    have r := h v List.mem_cons_self
    rw [e1] at r
    obtain ⟨t, rfl⟩ := r
    exact .cons n t (ints_of_keys e2 fun u hu => h u (List.mem_cons_of_mem _ hu))
  | [], n :: ns, e, _ => by cases e
  | v :: vs, [], e, _ => by cases e
theorem strs_of_keys : ∀ {vs : List Value} {ns : List PySem.Str}, (vs.map fun v => kOf (0, v)) = ns.map Sum.inr → (∀ v ∈ vs, L2.RelV (kV (kOf (0, v))) v) → StrsAre vs ns
  | [], [], _, _ => .nil
  | v :: vs, n :: ns, e, h => by
    injection e with e1 e2
    have e1 : kOf (0, v) = Sum.inr n := e1
    have r := h v List.mem_cons_self
    rw [e1] at r
    obtain ⟨t, rfl⟩ := r
    exact .cons n t (strs_of_keys e2 fun u hu => h u (List.mem_cons_of_mem _ hu))
  | [], n :: ns, e, _ => by cases e
  | v :: vs, [], e, _ => by cases e
theorem perm_map_inv {α β : Type} {f : α → β} : ∀ {l : List β} {m : List α}, l.Perm (m.map f) → ∃ m' : List α, l = m'.map f ∧ m'.Perm m := by
  intro l m h
  have h2 : ∀ x ∈ l, ∃ y, y ∈ m ∧ f y = x := fun x hx => by
    obtain ⟨y, hy, e⟩ := List.mem_map.mp (h.mem_iff.mp hx)
    exact ⟨y, hy, e⟩
  clear h2
  generalize hk : m.map f = k at h
  induction h generalizing m with
  | nil => exact ⟨[], rfl, by
      cases m with
      | nil => exact .nil
      | cons a r => cases hk⟩
  | cons x h ih =>
    cases m with
    | nil => cases hk
    | cons a r =>
      injection hk with e1 e2
      obtain ⟨m', q1, q2⟩ := ih e2
      exact ⟨a :: m', by rw [List.map_cons, e1, q1], q2.cons a⟩
  | swap x y l =>
    cases m with
    | nil => cases hk
    | cons a r =>
      cases r with
      | nil =>
        injection hk with e1 e2
        cases e2
      | cons b r =>
        injection hk with e1 e2
        injection e2 with e2 e3
        exact ⟨b :: a :: r, by rw [List.map_cons, List.map_cons, e1, e2, e3], .swap a b r⟩
  | trans h1 h2 ih1 ih2 =>
    obtain ⟨m', q1, q2⟩ := ih2 hk
    obtain ⟨m'', q3, q4⟩ := ih1 q1.symm
    exact ⟨m'', q3, q4.trans q2⟩
/-- what collecting a set gives -/
def ColK (ks : List Key) (vs : List Value) : Prop := (vs.map fun v => kOf (0, v)).Perm ks ∧ (∀ v ∈ vs, L2.RelV (kV (kOf (0, v))) v) ∧ vs.length < scanBound
theorem collect_M (R : SetM w s.heap a ks) (hh : A.handled = none) {Q' : List Value → Shared → Prop} {E' : Value → Shared → Prop}
    (h : ∀ s' out, (∀ b o, s.heap.get? b = some o → s'.heap.get? b = some o) → s.heap.objs.size ≤ s'.heap.objs.size → s'.gens = s.gens → s'.os = s.os → ColK ks out → Q' out s') : wpAny (model P w) A.in1 (collect (.ref a)) Q' E' s := by
  obtain ⟨o, es, ep, t, ho, hex, hd, g, pm, nd, hb, hf, hr, hl⟩ := R
  refine collect_set (A := A.in1) hh ⟨o, ho, hex.1, hd⟩ hf hb hr hl fun s1 vs k1 hz g1 o1 pv => h s1 vs k1 hz g1 o1 ⟨?_, fun v hv => ?_, ?_⟩
  · refine (pv.map _).trans ?_
    rw [List.map_map]
    exact pm
  · obtain ⟨e, he, q⟩ := List.mem_map.mp (pv.mem_iff.mp hv)
    rw [← q]
    exact (g e he).1
  · rw [pv.length_eq, List.length_map, Array.length_toList]
    exact hb
end
section
variable {X : Cx}
theorem scan_line {n : Nat} (h : n < scanBound) : n ≤ sizeLine := Nat.le_trans (Nat.le_of_lt h) (by decide)
/-- what a new list at p is, out of a machine's run -/
theorem inv_new {pins : List (Addr × Obj)} {σ : L2.St} {H : Hp} {s s' : Shared} {p : Addr} {out : Array Value} {c : Nat} {xs : List V} (I : Inv X pins σ H s) (k : ∀ b o, s.heap.get? b = some o → s'.heap.get? b = some o) (g : s'.gens = s.gens) (o : s'.os = s.os) (hp : s.heap.objs.size ≤ p) (hg : s'.heap.get? p = some (seqObj "list" out c))
    (hv : Vals xs out.toList) (hlen : xs.length ≤ sizeLine) : Inv X pins σ (upd H p (.lst xs)) s' ∧ H p = none := by
  have hn : H p = none := I.hok.fresh hp
  have J : Inv X pins σ (upd H p (.lst xs)) { s with heap := s'.heap, gens := s'.gens, drawn := s'.drawn, toks := s'.toks } :=
    I.call (ch := []) (Un.laid k hp hn) (I.hok.laid k hp ⟨hlen, out.toList, c, hv, hg⟩) (by rw [g]; exact I.bare) (fun _ z => nomatch z)
  have e : s' = { s with heap := s'.heap, gens := s'.gens, drawn := s'.drawn, toks := s'.toks } := by
    cases s'
    cases s
    cases o
    rfl
  rw [e]
  exact ⟨J, hn⟩
/-- sorted(set of ints) -/
theorem cr_sortedMI (hc : X.calm = true) : CallR X (.builtin "sorted") (fun vs H Q => ∃ (a : Addr) (ns : List Int), vs = [V.ref a] ∧ H a = some (SetMO X.w a (ns.map Sum.inl)) ∧ ∀ (ns' : List Int) (p : Addr) H', ns'.Perm ns → ns'.Pairwise (· ≤ ·) → H p = none → Same H H' → H' p = some (.lst (ns'.map V.int)) → Q (.ref p) H') := by
  intro pins s σ H vs us Q I r h
  obtain ⟨a, ns, rfl, ha, q⟩ := h
  have R := setMO_get I ha
  rw [Vals.ref1 r]
  refine sorted_by (G := fun vs => ∃ m, IntsAre vs m ∧ m.Perm ns ∧ vs.length < scanBound) (F := fun vs out => ∃ ns', IntsAre out.toList ns' ∧ ns'.Perm ns ∧ ns'.Pairwise (· ≤ ·) ∧ ns'.length < scanBound) (fun {Q' E'} k => collect_M R (I.ok.hd hc) fun s' out k1 k2 k3 k4 ⟨c1, c2, c3⟩ => k s' out k1 k2 k3 k4 ?_) (fun vs ⟨m, h1, h2, h3⟩ => scan_line h3) (fun {vs s' A' b R E'} ⟨m, h1, h2, h3⟩ ho k => sort_I h1 (scan_line h3) ho fun out ⟨ns', g1, g2, g3⟩ => k out ⟨ns', g1, g2.trans h2, g3, ?_⟩) fun s' p vs out c k g o hp hg gv ⟨ns', f1, f2, f3, f4⟩ => ?_
  · obtain ⟨m', q1, q2⟩ := perm_map_inv c1
    exact ⟨m', ints_of_keys q1 c2, q2, c3⟩
  · rw [g2.length_eq, ← h1.length]
    exact h3
  · obtain ⟨J, hn⟩ := inv_new (xs := ns'.map V.int) I k g o hp hg (vals_of_ints f1) (by rw [List.length_map]; exact scan_line f4)
    exact ⟨.ref p, _, J, rfl, q ns' p _ f2 f3 hn (Same.new hn) upd_same⟩
/-- sorted(set of texts) -/
theorem cr_sortedMS (hc : X.calm = true) : CallR X (.builtin "sorted") (fun vs H Q => ∃ (a : Addr) (ns : List PySem.Str), vs = [V.ref a] ∧ H a = some (SetMO X.w a (ns.map Sum.inr)) ∧ ∀ (ns' : List PySem.Str) (p : Addr) H', ns'.Perm ns → sortedS ns' = true → H p = none → Same H H' → H' p = some (.lst (ns'.map V.str)) → Q (.ref p) H') := by
  intro pins s σ H vs us Q I r h
  obtain ⟨a, ns, rfl, ha, q⟩ := h
  have R := setMO_get I ha
  rw [Vals.ref1 r]
  refine sorted_by (G := fun vs => ∃ m, StrsAre vs m ∧ m.Perm ns ∧ vs.length < scanBound) (F := fun vs out => ∃ ns', StrsAre out.toList ns' ∧ ns'.Perm ns ∧ sortedS ns' = true ∧ ns'.length < scanBound) (fun {Q' E'} k => collect_M R (I.ok.hd hc) fun s' out k1 k2 k3 k4 ⟨c1, c2, c3⟩ => k s' out k1 k2 k3 k4 ?_) (fun vs ⟨m, h1, h2, h3⟩ => scan_line h3) (fun {vs s' A' b R E'} ⟨m, h1, h2, h3⟩ ho k => sort_S h1 (scan_line h3) ho fun out ⟨ns', g1, g2, g3⟩ => k out ⟨ns', g1, g2.trans h2, g3, ?_⟩) fun s' p vs out c k g o hp hg gv ⟨ns', f1, f2, f3, f4⟩ => ?_
  · obtain ⟨m', q1, q2⟩ := perm_map_inv c1
    exact ⟨m', strs_of_keys q1 c2, q2, c3⟩
  · rw [g2.length_eq, ← h1.length]
    exact h3
  · obtain ⟨J, hn⟩ := inv_new (xs := ns'.map V.str) I k g o hp hg (vals_of_strs f1) (by rw [List.length_map]; exact scan_line f4)
    exact ⟨.ref p, _, J, rfl, q ns' p _ f2 f3 hn (Same.new hn) upd_same⟩
def sg (c : Nat) : PySem.Str := ⟨#[c]⟩
theorem strs_signs (x : PySem.Str) : ∀ {vs : List Value} {cs : List Nat}, vs.length = cs.length → (∀ (j : Nat) (v : Value) (c : Nat), vs[j]? = some v → cs[j]? = some c → ∃ u, v = .str (sg c) u) → StrsAre vs (cs.map sg)
  | [], [], _, _ => .nil
  | v :: vs, c :: cs, e, h => by
    obtain ⟨u, rfl⟩ := h 0 v c rfl rfl
    exact .cons _ u (strs_signs x (by simpa using e) fun j v c h1 h2 => h (j + 1) v c h1 h2)
  | [], c :: cs, e, _ => by cases e
  | v :: vs, [], e, _ => by cases e
theorem items_signs {x : PySem.Str} {acc : Array Value} (it : ItemsOf (SignAt x) acc x.cps.size) : StrsAre acc.toList (x.cps.toList.map sg) := by
  refine strs_signs x (by rw [Array.length_toList, Array.length_toList, it.1]) fun j v c h1 h2 => ?_
  obtain ⟨c', u, e1, e2⟩ := it.2 j v (by rw [← Array.getElem?_toList]; exact h1)
  rw [← Array.getElem?_toList] at e1
  rw [h2] at e1
  cases e1
  exact ⟨u, e2⟩
theorem collect_tx {P : Program} {w : World} {A : Around} {E : Value → Shared → Prop} {s : Shared} {Q : List Value → Shared → Prop} (hh : A.handled = none) (x : PySem.Str) (t : Tok)
    (hQ : ∀ s' acc, (∀ b o, s.heap.get? b = some o → s'.heap.get? b = some o) → s.heap.objs.size ≤ s'.heap.objs.size → s'.gens = s.gens → s'.os = s.os → ItemsOf (SignAt x) acc x.cps.size → Q acc.toList s') (hn : x.cps.size ≤ sizeLine) :
    wpAny (model P w) A.in1 (collect (.str x t)) Q E s := by
  unfold collect
  refine wpAny_bind (wpAny_runValue (codeAny_builtin PySem.F.entry_proto_collect ?_))
  rw [Around.under_plainId PySem.F.plain_proto_collect _]
  show wpAny _ A.in1.in1 (newList [] >>= fun l => again (.builtin "list.__iadd__" ⟨[l, .str x t], []⟩)) _ _ s
  refine wpAny_bind (wpAny_newObj_type ?_)
  refine wpAny_pure ⟨plainId_quiet PySem.F.plain_list_iadd _, codeAny_builtin PySem.F.entry_list_iadd ?_⟩
  rw [Around.under_plainId PySem.F.plain_list_iadd _]
  show wpAny _ A.in1.in1 (Builtin.List.listExtendWith (.ref s.heap.objs.size) (.str x t) (.ref s.heap.objs.size)) _ _ _
  have hS : (s.heap.push { cls := .type "list", data := .seq ([] : List Value).toArray }).get? s.heap.objs.size = some { cls := .type "list", data := .seq ([] : List Value).toArray } := Heap.get?_push_size _ rfl
  refine wpAny_mono (wpAny_extend_str (s := { s with heap := s.heap.push { cls := .type "list", data := .seq ([] : List Value).toArray } }) (A := A.in1) (hn := hn)
    (R := fun (r : Result) s' => ∃ h' tk acc' c', r = .ok (.ret (.ref s.heap.objs.size)) ∧ s' = { s with heap := h', toks := tk } ∧ (∀ b o, b ≠ s.heap.objs.size → (s.heap.push { cls := .type "list", data := .seq ([] : List Value).toArray }).get? b = some o → h'.get? b = some o) ∧
      h'.get? s.heap.objs.size = some { cls := .type "list", dict := none, data := .seq acc' c', slots := #[] } ∧ ItemsOf (SignAt x) acc' x.cps.size) hh x t s.heap.objs.size (.ref s.heap.objs.size) 0 hS fun h' tk acc' c' hk hS' hacc => ⟨h', tk, acc', c', rfl, rfl, hk, hS', hacc⟩) (fun fin s' h => ?_) (fun e s' h => ?_)
  · cases fin with
    | done f =>
      obtain ⟨h', tk, acc', c', e1, e2, hk, hS', hacc⟩ := h
      cases e1
      subst e2
      show wpAny _ A.in1 (load s.heap.objs.size >>= _) _ _ _
      refine wpAny_bind (wpAny_load hS' ?_)
      exact wpAny_pure (hQ _ acc' (fun b ob e => hk b ob (Nat.ne_of_lt (Heap.lt_size e)) (Heap.get?_push_of_some _ e)) (Nat.le_of_lt (Heap.lt_size hS')) rfl rfl hacc)
    | again c0 =>
      refine ⟨h.1, codeAny_mono h.2 fun r s2 h => ?_⟩
      obtain ⟨h', tk, acc', c', e1, e2, hk, hS', hacc⟩ := h
      subst e1 e2
      show wpAny _ A.in1 (load s.heap.objs.size >>= _) _ _ _
      refine wpAny_bind (wpAny_load hS' ?_)
      exact wpAny_pure (hQ _ acc' (fun b ob e => hk b ob (Nat.ne_of_lt (Heap.lt_size e)) (Heap.get?_push_of_some _ e)) (Nat.le_of_lt (Heap.lt_size hS')) rfl rfl hacc)
  · obtain ⟨_, _, _, _, z, _⟩ := h
    cases z
/-- sorted(text) -/
theorem cr_sortedTx (hc : X.calm = true) : CallR X (.builtin "sorted") (fun vs H Q => ∃ (x : PySem.Str), vs = [V.str x] ∧ x.cps.size < scanBound ∧ ∀ (ns' : List PySem.Str) (p : Addr) H', ns'.Perm (x.cps.toList.map sg) → sortedS ns' = true → H p = none → Same H H' → H' p = some (.lst (ns'.map V.str)) → Q (.ref p) H') := by
  intro pins s σ H vs us Q I r h
  obtain ⟨x, rfl, hx, q⟩ := h
  obtain ⟨u, rfl, rx⟩ := r.one
  obtain ⟨t, rfl⟩ := rx
  refine sorted_by (G := fun vs => StrsAre vs (x.cps.toList.map sg)) (F := fun vs out => ∃ ns', StrsAre out.toList ns' ∧ ns'.Perm (x.cps.toList.map sg) ∧ sortedS ns' = true) (fun {Q' E'} k => collect_tx (I.ok.hd hc) x t (fun s' acc k1 k2 k3 k4 it => k s' acc.toList k1 k2 k3 k4 (items_signs it)) (scan_line hx)) (fun vs g => ?_) (fun {vs s' A' b R E'} g ho k => sort_S g ?_ ho fun out f => k out f) fun s' p vs out c k g o hp hg gv ⟨ns', f1, f2, f3⟩ => ?_
  · rw [g.length, List.length_map, Array.length_toList]; exact scan_line hx
  · rw [g.length, List.length_map, Array.length_toList]; exact scan_line hx
  · obtain ⟨J, hn⟩ := inv_new (xs := ns'.map V.str) I k g o hp hg (vals_of_strs f1) (by rw [List.length_map, f2.length_eq, List.length_map, Array.length_toList]; exact scan_line hx)
    exact ⟨.ref p, _, J, rfl, q ns' p _ f2 f3 hn (Same.new hn) upd_same⟩
/-- list(text) -/
theorem cr_listTx (hc : X.calm = true) : CallR X (.type "list") (fun vs H Q => ∃ (x : PySem.Str), vs = [V.str x] ∧ x.cps.size < scanBound ∧ ∀ (p : Addr) H', H p = none → Same H H' → H' p = some (.lst ((x.cps.toList.map sg).map V.str)) → Q (.ref p) H') := by
  intro pins s σ H vs us Q I r h
  obtain ⟨x, rfl, hx, q⟩ := h
  obtain ⟨u, rfl, rx⟩ := r.one
  obtain ⟨t, rfl⟩ := rx
  refine PySem.call_list_str (I.ok.hd hc) x t (fun h' tk acc' c' kp e it => ?_) (scan_line hx)
  have hn : H s.heap.objs.size = none := I.hok.fresh (Nat.le_refl _)
  refine ⟨.ref s.heap.objs.size, _, I.laid (t' := tk) (o := .lst ((x.cps.toList.map sg).map V.str)) kp (Nat.le_refl _) ⟨?_, acc'.toList, c', vals_of_strs (items_signs it), by rw [Array.toArray_toList]; exact e⟩, rfl, q _ _ hn (Same.new hn) upd_same⟩
  rw [List.length_map, List.length_map, Array.length_toList]
  exact scan_line hx
end
end Cab
/-! text CabQ6 -/
set_option Elab.async false
set_option linter.all false
set_option maxRecDepth 100000
set_option maxHeartbeats 2000000
/-! a tuple turned round; list(d.values()) of a dict by places -/
namespace HT
open PySem PySem.Spec PyProof.Rows
section
variable {prog : Program} {w : World} {A : Around} {E : Value → Shared → Prop} {s : Shared}
theorem cab_applied {sl : Addr} {vs : Value} {n : Nat} {Q : Int × Int × Nat → Shared → Prop} (hs : s.heap.IsSliceOf sl .none .none vs) (ps : IsPart vs (some (-1)))
    (h : Q ((n : Int) - 1, -1, n) s) : wpAny (model prog w) A (Builtin.Slice.sliceApplied (.ref sl) (pure (n : Int))) Q E s := by
  obtain ⟨os, hos, hcs, hds⟩ := id hs
  unfold Builtin.Slice.sliceApplied Builtin.Slice.sliceFields
  refine wpAny_bind (wpAny_bind (wpAny_field hos hds (x := .none) rfl (wpAny_bind (wpAny_field hos hds (x := .none) rfl (wpAny_bind (wpAny_field hos hds (x := vs) rfl (wpAny_pure ?_)))))))
  refine wpAny_bind (slicePart_ ps ?_)
  show wpAny _ _ (if ((-1 : Int) == 0) = true then _ else _) _ _ s
  rw [if_neg (by decide)]
  refine wpAny_bind (slicePart_none (wpAny_bind (slicePart_none (wpAny_bind (wpAny_pure ?_)))))
  show wpAny _ _ (match Builtin.Slice.sliceAdjust none none (-1) (n : Int) with | (lo, hi) => pure (lo, (-1 : Int), Builtin.Slice.slicePlaces lo hi (-1))) _ _ s
  have e : Builtin.Slice.slicePlaces ((n : Int) - 1) (-1) (-1) = n := by
    unfold Builtin.Slice.slicePlaces
    rw [if_neg (by decide)]
    have e1 : (- -1 : Int) = 1 := by decide
    rw [e1, Int.ediv_one]
    split <;> omega
  show wpAny _ _ (pure ((n : Int) - 1, (-1 : Int), Builtin.Slice.slicePlaces ((n : Int) - 1) (-1) (-1))) _ _ s
  rw [e]
  exact wpAny_pure h
theorem cab_pick (xs : Array Value) : ((List.range xs.size).filterMap fun (m : Nat) => xs[(((xs.size : Nat) : Int) - 1 + (m : Int) * -1).toNat]?).toArray = xs.toList.reverse.toArray := by
  have e : (List.range xs.size).filterMap (fun (m : Nat) => xs[(((xs.size : Nat) : Int) - 1 + (m : Int) * -1).toNat]?) = ((List.range xs.size).map fun k => xs.size - 1 - k).filterMap (xs[·]?) := by
    rw [List.filterMap_map]
    have gen : ∀ l : List Nat, (∀ m ∈ l, m < xs.size) → l.filterMap (fun (m : Nat) => xs[(((xs.size : Nat) : Int) - 1 + (m : Int) * -1).toNat]?) = l.filterMap ((fun x => xs[x]?) ∘ fun k => xs.size - 1 - k) := by
      intro l
      induction l with
      | nil => intro _; rfl
      | cons m l ih =>
        intro h
        have hm := h m List.mem_cons_self
        have e2 : (((xs.size : Nat) : Int) - 1 + (m : Int) * -1).toNat = xs.size - 1 - m := by omega
        rw [List.filterMap_cons, List.filterMap_cons, ih fun k hk => h k (List.mem_cons_of_mem _ hk)]
        simp only [Function.comp, e2]
    exact gen _ fun m hm => List.mem_range.mp hm
  rw [e, PySem.W.krv_range, List.filterMap_reverse, PySem.W.krv_all]
theorem getItem_tuple_turned {t sl : Addr} {items : Array Value} {vs : Value} {Q : Value → Shared → Prop} (ht : IsTup s.heap t items) (hs : s.heap.IsSliceOf sl .none .none vs) (ps : IsPart vs (some (-1)))
    (h : Q (.ref s.heap.objs.size) { s with heap := s.heap.push { cls := .type "tuple", data := .seq items.toList.reverse.toArray } }) (hsz : items.size ≤ sizeLine) : wpAny (model prog w) A (getItem (.ref t) (.ref sl)) Q E s := by
  have htake : sizeOk (.seq items.toList.reverse.toArray) := by
    show items.toList.reverse.toArray.size ≤ sizeLine
    rw [List.size_toArray, List.length_reverse, Array.length_toList]
    exact hsz
  obtain ⟨os, hos, hcs, hds⟩ := id hs
  have hTs : s.TypeIs (.ref sl) "slice" := ⟨os, hos, hcs⟩
  unfold getItem
  try with_reducible refine wpAny_holding ?_
  first | refine wpAny_bind (wpAny_pure ?_) | skip
  refine wpAny_bind (wpAny_sequenceKey ht.typeIs (by decide) ?_)
  refine wpAny_bind (wpAny_callSpecial?_slot (name := Str.ofString "__getitem__") ht.typeIs PyProof.Rows.slot_tuple_getitem
    (wpAny_call_entry PyProof.Rows.slot_tuple_getitem ht.typeIs entry_tuple_getitem ?_ (args_tuple_getitem _ _)))
  show wpAny _ _ (Builtin.Tuple.tupleItemsOf (.ref t) >>= _) _ _ s
  refine wpAny_bind (tupleItemsOf_ ht ?_)
  refine wpAny_bind (wpAny_typeOf hTs ?_)
  rw [if_pos (by decide)]
  refine wpAny_bind (cab_applied hs ps ?_)
  have hno : ¬ (((((items.size : Nat) : Int) - 1) == 0 && (-1 : Int) == 1 && items.size == items.size) = true) := by
    intro q
    rw [Bool.and_eq_true, Bool.and_eq_true] at q
    exact absurd (eq_of_beq q.1.2) (by decide)
  show wpAny _ _ (if ((((items.size : Nat) : Int) - 1) == 0 && (-1 : Int) == 1 && items.size == items.size) = true then _ else _) _ _ s
  rw [if_neg hno, cab_pick]
  first
    | exact wpAny_bind (m := Builtin.Tuple.tupleExact _) (wpAny_newObj_type (wpAny_pure ⟨_, rfl, wpAny_pure h⟩) htake)
    | exact wpAny_bind (m := Builtin.Tuple.tupleExact _) (wpAny_newObj_type (wpAny_bind (wpAny_pure (wpAny_pure ⟨_, rfl, wpAny_pure h⟩))) htake)
    | exact wpAny_bind (wpAny_bind (m := Builtin.Tuple.tupleExact _) (wpAny_newObj_type (wpAny_pure (wpAny_pure ⟨_, rfl, wpAny_pure h⟩)) htake))
    | exact wpAny_bind (wpAny_bind (m := Builtin.Tuple.tupleExact _) (wpAny_newObj_type (wpAny_pure ⟨_, rfl, wpAny_pure h⟩) htake))
end
end HT
namespace Cab
open PySem PySem.Spec PyProof.Rows L2 He
section
variable {X : Cx} {e o : Expr} {σ : L2.St} {H : Hp} {Q : VK}
/-- t[::-1] -/
theorem we_turned {k : Nat} {p1 p2 p3 pos : Pos} (h : WE X e σ H fun x H1 => ∃ a xs, x = .ref a ∧ SqT X.K H1 a xs ∧ ∀ p H', H1 p = none → Same H1 H' → H' p = some (.tup xs.reverse) → Q (.ref p) H') : WE X (.Subscript e (.Slice none none (some (.UnaryOp .USub (.Constant (.int 1) k p1) p2)) p3) pos) σ H Q := by
  intro pins s I
  refine Subscript_ (thn (h pins s I) fun v s1 ⟨x, H1, I1, r1, q1⟩ => ?_)
  obtain ⟨a, xs, ex, hx, q⟩ := q1
  subst ex
  cases r1
  have hst : PO X (some (.UnaryOp .USub (.Constant (.int 1) k p1) p2)) (tPart (tUn (rU fun i => .int (-i)) (tC (.int 1)))) := po_some (pe_un un_neg pe_int)
  refine wpAny_Slice (thn (po_none.run pins s1 σ H1 (fun o H2 => o = none ∧ H2 = H1) I1 ⟨rfl, rfl⟩) fun vl s2 ⟨l, H2, I2, pl, el, e2⟩ => ?_)
  subst el e2
  refine thn (po_none.run pins s2 σ H2 (fun o H3 => o = none ∧ H3 = H2) I2 ⟨rfl, rfl⟩) fun vu s3 ⟨u, H3, I3, pu, eu, e3⟩ => ?_
  subst eu e3
  refine thn (hst.run pins s3 σ H3 (fun o H4 => o = some (-1) ∧ H4 = H3) I3 ⟨1, rfl, -1, rfl, rfl, rfl⟩) fun vs s4 ⟨o, H4, I4, ps, eo, e4⟩ => ?_
  subst eo e4
  have I5 : Inv X pins σ H4 { s4 with heap := s4.heap.push { cls := .type "slice", data := .fields #[vl, vu, vs] } } := I4.kept (t' := s4.toks) fun b ob q => Heap.get?_push_of_some _ q
  obtain ⟨its, r, ht, hz⟩ := I5.tuple hx
  have hlen := r.length
  show wpAny (model X.prog X.w) X.A (subscriptTail e (.Slice none none (some (.UnaryOp .USub (.Constant (.int 1) k p1) p2)) p3) (.ref a) (.ref s4.heap.objs.size)) (EP X pins σ Q) X.xe { s4 with heap := s4.heap.push { cls := .type "slice", data := .fields #[vl, vu, vs] } }
  refine tail_any (ops := [.ref a, .ref s4.heap.objs.size]) ht.typeIs (PyProof.Rows.slot_tuple_getitem.lookup) ?_ (by with_unfolding_all rfl)
  cases pl
  cases pu
  refine HT.getItem_tuple_turned ht (Heap.IsSliceOf.new _ _ _ vs) ps ?_ (by rw [List.size_toArray]; omega)
  have hn : H4 ({ s4 with heap := s4.heap.push { cls := .type "slice", data := .fields #[.none, .none, vs] } } : Shared).heap.objs.size = none := I5.hok.fresh (Nat.le_refl _)
  refine ⟨.ref _, _, I5.laid (t' := s4.toks) (o := .tup xs.reverse) (fun b ob q => Heap.get?_push_of_some _ q) (Nat.le_refl _) ?_, rfl, q _ _ hn (Same.new hn) upd_same⟩
  exact ⟨by rw [List.length_reverse]; exact hz, _, r.reverse, IsTup.new _ _⟩
/-! ### the values of a dict -/
theorem paired_get' {α β : Type} {F : α → β → Prop} : ∀ {l : List α} {m : List β} {i : Nat} {x : α}, Paired F l m → l[i]? = some x → ∃ y, m[i]? = some y ∧ F x y
  | _, _, _, _, .nil, h => by cases h
  | _, _, 0, _, .cons r _, h => ⟨_, rfl, by rw [← Option.some.inj h]; exact r⟩
  | _, _, i + 1, _, .cons _ t, h => paired_get' (i := i) t h
theorem vals_at : ∀ {xs : List V} {us : List Value}, xs.length = us.length → (∀ (j : Nat) (x : V) (u : Value), xs[j]? = some x → us[j]? = some u → L2.RelV x u) → Vals xs us := vals_of_at
/-- list(d.values()) -/
theorem we_listVals {x : Str} {p pos apos mpos : Pos} (hc : X.calm = true) (hm : X.mg "list" = none) (h : WE X o σ H fun x H1 => ∃ d kvs, x = .ref d ∧ H1 d = some (.dT kvs) ∧ ∀ q H', H1 q = none → Same H1 H' → H' q = some (.lst (kvs.map (·.2))) → Q (.ref q) H') (hg : Gl X "list" := by rfl)
    (hbase : attributeBase o "values" X.env (eval o X.env) = eval o X.env := by rfl) (hline : (apos.endLine == mpos.line) = true := by rfl) (hse : starEach [Expr.Call (.Attribute o "values" apos) [] [] mpos] X.env = [(false, eval (Expr.Call (.Attribute o "values" apos) [] [] mpos) X.env)] := by rfl) :
    WE X (.Call (.Name "list" p) [.Call (.Attribute o "values" apos) [] [] mpos] [] pos) σ H Q := by
  intro pins s I
  refine wpAny_Call_Name_kw (ld_blt I hg hm (u := .type "list") (by first | rfl | decide +kernel) ?_ (by first | decide +kernel | decide) (by first | decide +kernel | decide))
  rw [hse]
  refine PySem.callWith_type1 (wpAny_Call_method0_late hbase hline (thn (h pins s I) fun v s1 ⟨x, H1, I1, r1, d, kvs, ex, hd, q⟩ => ?_))
  subst ex
  obtain rfl : v = Value.ref d := r1
  obtain ⟨z, hs, ks, pr, ob, es, ep, ho, hx, hdt, he, hn⟩ := (show ObjOk X.prog X.w H1 s1.heap d (.dT kvs) from I1.hok d _ hd)
  have l1 : es.size = ks.length := size_of_entries he
  have l2 : kvs.length = ks.length := Paired.length pr
  refine ⟨"dict", "dict.values", PySem.F.plainAttrs_dict, PySem.F.slot_dict_values, PySem.F.type_dict_values, ⟨ob, ho, hx.1⟩, fun b e => ?_, Calls.callWith_builtin rfl (PySem.evalArgs_none ?_)⟩
  · cases e
    exact ⟨ob, ho, hx.2.1⟩
  refine call_meetsIn PySem.F.slot_dict_values ⟨ob, ho, hx.1⟩ PySem.F.entry_dict_values (PySem.F.args_dict_values_1 _) (PySem.meets_dict_values_raw d hs) ⟨⟨es, ep, ob, ho, hx, hdt⟩, ?_⟩
  have k1 : ∀ b u, s1.heap.get? b = some u → (s1.heap.push { cls := .type "dict_values", data := .fields #[.ref d] }).get? b = some u := fun b u e => Heap.get?_push_of_some _ e
  have I2 : Inv X pins σ H1 { s1 with heap := s1.heap.push { cls := .type "dict_values", data := .fields #[.ref d] } } := I1.kept (t' := s1.toks) k1
  refine PySem.W.kdl_call (s := { s1 with heap := s1.heap.push { cls := .type "dict_values", data := .fields #[.ref d] } }) PySem.KdlSrc.rawValues (I.ok.hd hc) ⟨⟨_, Heap.get?_push_size _ rfl, rfl, rfl⟩, ⟨ob, k1 _ _ ho, hx, hdt⟩⟩ (by omega) fun h' tk acc' c' kp e it => ?_
  have hn2 : H1 ({ s1 with heap := s1.heap.push { cls := .type "dict_values", data := .fields #[.ref d] } } : Shared).heap.objs.size = none := I2.hok.fresh (Nat.le_refl _)
  have la : acc'.toList.length = kvs.length := by rw [Array.length_toList, it.1]; omega
  have rv : Vals (kvs.map (·.2)) acc'.toList := by
    refine vals_at (by rw [List.length_map, la]) fun j x u hj hu => ?_
    obtain ⟨hi, e2⟩ := it.2 j u (by rw [← Array.getElem?_toList]; exact hu)
    obtain ⟨⟨k, y⟩, hy, rfl⟩ := map_get hj
    obtain ⟨⟨k', a', v'⟩, hk', rl⟩ := paired_get' pr hy
    have qe := entry_at he j
    rw [hk', Array.getElem?_eq_getElem hi] at qe
    have e3 : es[j] = entryOfKey (tupleKind (mixKind X.prog X.w)) (k', a', v') := Option.some.inj qe
    rw [e2, e3]
    exact rl.2.2
  exact ⟨.ref _, _, I2.laid (t' := tk) (o := .lst (kvs.map (·.2))) kp (Nat.le_refl _) ⟨by rw [List.length_map]; exact z, acc'.toList, c', rv, by rw [Array.toArray_toList]; exact e⟩, rfl, q _ _ hn2 (Same.new hn2) upd_same⟩
end
end Cab
/-! text CabQ7 -/
set_option Elab.async false
set_option linter.all false
set_option maxRecDepth 100000
set_option maxHeartbeats 2000000
/-! list comprehensions with two fors; a dict comprehension assigned -/
namespace Cab
open PySem PySem.Spec PyProof.Rows L2 He
section
variable {X : Cx} {scope : Scope} {σ : L2.St} {H : Hp}
def LcR2 (X : Cx) (scope : Scope) (elt tg : Expr) (ifs : List Expr) (tg1 iter1 : Expr) (ifs1 : List Expr) (vs vs1 : List Nat) (σ : L2.St) (J : It) (H1 : Hp) (Q : VK) : Prop :=
  ∃ (n : Nat) (G : Hp → Prop) (Y : Nat → Hp → V → Hp → Prop), Walk J n G Y ∧ ∀ D, H1 D = none → ∃ Pv : Nat → List V → Hp → Prop,
    (∀ H', Same H1 H' → H' D = some (.lst []) → Pv 0 [] H') ∧ (∀ i acc H, i ≤ n → Pv i acc H → H D = some (.lst acc) → G H) ∧
    (∀ i acc x H H', i < n → Pv i acc H → H D = some (.lst acc) → Y i H x H' → gU X scope tg x (wipe σ vs) H' fun σ2 H2 => wipe σ2 vs = wipe σ vs ∧ tU X scope ifs σ2 H2 fun b H3 =>
      if b = true then iU X scope tg1 iter1 σ2 H3 fun J1 H4 => ∃ (n1 : Nat) (G1 : Hp → Prop) (Y1 : Nat → Hp → V → Hp → Prop), Walk J1 n1 G1 Y1 ∧ ∃ Pw : Nat → List V → Hp → Prop,
        H4 D = some (.lst acc) ∧ Pw 0 acc H4 ∧ (∀ j acc H, j ≤ n1 → Pw j acc H → H D = some (.lst acc) → G1 H) ∧
        (∀ j acc x H H', j < n1 → Pw j acc H → H D = some (.lst acc) → Y1 j H x H' → gU X scope tg1 x (wipe σ2 vs1) H' fun σ3 H5 => wipe σ3 vs1 = wipe σ2 vs1 ∧ tU X scope ifs1 σ3 H5 fun b H6 =>
          if b = true then eU X scope elt σ3 H6 fun y H7 => H7 D = some (.lst acc) ∧ acc.length < 1000000 ∧ ∀ H8, But D H7 H8 → H8 D = some (.lst (acc ++ [y])) → Pw (j + 1) (acc ++ [y]) H8 else Pw (j + 1) acc H6 ∧ H6 D = some (.lst acc)) ∧
        ∀ acc H, Pw n1 acc H → H D = some (.lst acc) → Pv (i + 1) acc H
      else Pv (i + 1) acc H3 ∧ H3 D = some (.lst acc)) ∧
    ∀ acc H, Pv n acc H → H D = some (.lst acc) → Q (.ref D) H
theorem lcR2 {elt tg tg1 iter1 : Expr} {ifs ifs1 : List Expr} {vs vs1 : List Nat} {J : It} {H1 : Hp} {Q : VK} (h : LcR2 X scope elt tg ifs tg1 iter1 ifs1 vs vs1 σ J H1 Q) : ∀ D, H1 D = none → ∃ W : Nat → Nat → Hp → Prop, (∃ m, W 0 m (upd H1 D (.lst []))) ∧ ∀ i m H, W i m H →
  (J.stop i H ∧ Q (.ref D) H) ∨ (J.go i H ∧ ∃ Nx : Hp → Prop, (∀ H', Nx H' → ∃ m', m' < m ∧ W (i + 1) m' H') ∧ ∀ x H', J.yld i H x H' → gU X scope tg x (wipe σ vs) H' fun σ2 H2 => wipe σ2 vs = wipe σ vs ∧ tU X scope ifs σ2 H2 fun b H3 =>
    if b = true then iU X scope tg1 iter1 σ2 H3 fun J1 H4 => ∃ W1 : Nat → Nat → Hp → Prop, (∃ m, W1 0 m H4) ∧ ∀ j k H, W1 j k H →
      (J1.stop j H ∧ Nx H) ∨ (J1.go j H ∧ ∃ Nx1 : Hp → Prop, (∀ H', Nx1 H' → ∃ k', k' < k ∧ W1 (j + 1) k' H') ∧ ∀ x H', J1.yld j H x H' → gU X scope tg1 x (wipe σ2 vs1) H' fun σ3 H5 => wipe σ3 vs1 = wipe σ2 vs1 ∧ tU X scope ifs1 σ3 H5 fun b H6 =>
        if b = true then eU X scope elt σ3 H6 fun y H7 => ∃ acc, H7 D = some (.lst acc) ∧ acc.length < sizeLine ∧ Nx1 (upd H7 D (.lst (acc ++ [y]))) else Nx1 H6)
    else Nx H3) := by
  obtain ⟨n, G, Y, wk, h⟩ := h
  intro D hD
  obtain ⟨Pv, h0, hG, hs, hd⟩ := h D hD
  refine ⟨fun i m H => m = n - i ∧ i ≤ n ∧ ∃ acc, Pv i acc H ∧ H D = some (.lst acc), ⟨n, by simp, Nat.zero_le _, [], h0 _ (Same.new hD) upd_same, upd_same⟩, ?_⟩
  rintro i m H ⟨rfl, hi, acc, p, hDl⟩
  have q := hG i acc H hi p hDl
  by_cases hlt : i < n
  · refine .inr ⟨wk.goes i H hlt q, fun H' => ∃ acc, Pv (i + 1) acc H' ∧ H' D = some (.lst acc), fun H' p' => ⟨n - (i + 1), by omega, rfl, hlt, p'⟩, fun x H' y => ?_⟩
    have h1 := hs i acc x H H' hlt p hDl (wk.yields i H x H' hlt q y)
    intro s0 H0 C cl fp pins s u I r
    refine thn (h1 s0 H0 C cl fp pins s u I r) fun _ s1 ⟨σ2, H2, I2, e2, k⟩ => ⟨σ2, H2, I2, e2, ?_⟩
    intro s0 H0 C cl fp pins s I
    refine thn (k s0 H0 C cl fp pins s I) fun b s3 ⟨H3, I3, k⟩ => ⟨H3, I3, ?_⟩
    cases b with
    | false => exact ⟨acc, k.1, k.2⟩
    | true =>
      intro s0 H0 C cl fp pins s I
      refine thn (k s0 H0 C cl fp pins s I) fun v s1 k => thn k fun itv s2 k2 => ?_
      obtain ⟨it, fpp, tn, J1, H4, e1, I4, T, t0, hf, n1, G1, Y1, wk1, Pw, hD4, p0, hG1, ht, hdn⟩ := k2
      refine ⟨it, fpp, tn, J1, H4, e1, I4, T, t0, hf, fun j k H => k = n1 - j ∧ j ≤ n1 ∧ ∃ acc, Pw j acc H ∧ H D = some (.lst acc), ⟨n1, by simp, Nat.zero_le _, acc, p0, hD4⟩, ?_⟩
      rintro j kk H5 ⟨rfl, hj, acc5, p5, hD5⟩
      have q5 := hG1 j acc5 H5 hj p5 hD5
      by_cases hlt1 : j < n1
      · refine .inr ⟨wk1.goes j H5 hlt1 q5, fun H' => ∃ acc, Pw (j + 1) acc H' ∧ H' D = some (.lst acc), fun H' p' => ⟨n1 - (j + 1), by omega, rfl, hlt1, p'⟩, fun x H' y => ?_⟩
        have h2 := ht j acc5 x H5 H' hlt1 p5 hD5 (wk1.yields j H5 x H' hlt1 q5 y)
        intro s0 H0 C cl fp pins s u I r
        refine thn (h2 s0 H0 C cl fp pins s u I r) fun _ s1 ⟨σ3, H6, I6, e6, k⟩ => ⟨σ3, H6, I6, e6, ?_⟩
        intro s0 H0 C cl fp pins s I
        refine thn (k s0 H0 C cl fp pins s I) fun b s3 ⟨H7, I7, k⟩ => ⟨H7, I7, ?_⟩
        cases b with
        | false => exact ⟨acc5, k.1, k.2⟩
        | true =>
          intro s0 H0 C cl fp pins s I
          exact thn (k s0 H0 C cl fp pins s I) fun _ s4 ⟨y, H8, I8, r8, k1, kz, k2⟩ => ⟨y, H8, I8, r8, acc5, k1, sz_lt kz, acc5 ++ [y], k2 _ But.upd upd_same, upd_same⟩
      · have e : j = n1 := by omega
        subst e
        exact .inl ⟨wk1.stops H5 q5, acc5, hdn acc5 H5 p5 hD5, hD5⟩
  · have e : i = n := by omega
    subst e
    exact .inl ⟨wk.stops H q, hd acc H p hDl⟩
variable {elt tg iter tg1 iter1 : Expr} {ifs ifs1 : List Expr} {pos : Pos}
/-- y = [.. for .. for ..] -/
theorem ws_setLc2 {D : Ends} {y : PySem.Str} {py spos : Pos} {N ps : List PySem.Str} {sc : Scope} (S : FnScope N ps sc) (i : Nat) (own : List (PySem.Str × Nat)) (vs1 : List Nat) (h : WI X tg iter σ H fun J H1 => LcR2 X scope elt tg ifs tg1 iter1 ifs1 (own.map (·.2)) vs1 σ J H1 fun v H' => D.nx (σ.set i (some v)) H') (ok : blkC N sc scope own = true := by decide +kernel) (hv : ∀ i ∈ vs1, i ∈ own.map (·.2) := by decide)
    (hsw : swapsWith (.ListComp elt [⟨tg, iter, ifs, 0⟩, ⟨tg1, iter1, ifs1, 0⟩] scope pos) (some (.Name y py)) spos.line X.env = pure true) (eN : X.N = N := by rfl) (eS : X.env.scope = sc := by rfl)
    (hy : X.N[i]? = some y := by rfl) (hyl : X.env.scope.names.lookup y = some .local := by rfl) (hc : X.calm = true := by rfl) (hs : ∀ x, foldedSetIterable iter X.env x = pure x := by intro _; rfl) (hs1 : ∀ env x, foldedSetIterable iter1 env x = pure x := by intro _ _; rfl) : WS X (.Assign [.Name y py] (.ListComp elt [⟨tg, iter, ifs, 0⟩, ⟨tg1, iter1, ifs1, 0⟩] scope pos) spos) D σ H :=
  wS (ps_setLc2 (i := i) (own := own) (vs1 := vs1) hc (by rw [eN]; exact S.nd) hy hyl hsw pI (by rw [eN, eS]; exact blkOk_by ok) hv pgU ptU piU pgU ptU peU hs hs1)
    (show tLc2 _ _ _ _ _ _ _ _ _ σ H (fun x H1 => gName i x σ H1 D.nx) from fun pins s I => thn (h pins s I) fun v s1 k => thn k fun itv s2 ⟨it, fp, tn, J, H', e1, I2, T, t0, hf, r⟩ => ⟨it, fp, tn, J, H', e1, I2, T, t0, hf, lcR2 r⟩)
end
end Cab
/-! text CabM -/
set_option Elab.async false
set_option linter.all false
set_option maxRecDepth 100000
set_option maxHeartbeats 2000000
/-! the mirror of a record -/
namespace Cab
open PySem PySem.Spec PyProof.Rows L2 He
inductive Fact where
  | passed (t : Nat) (w : Int)
  | showed (t : Nat) (p : Int)
  | jumped (t : Nat) (b : Bool)
  | speeds (t : Nat) (ds : List Nat)
def Fact.kind : Fact → Str
  | .passed _ _ => "passed"
  | .showed _ _ => "showed"
  | .jumped _ _ => "jumped"
  | .speeds _ _ => "speeds"
def Fact.tick : Fact → Nat
  | .passed t _ => t
  | .showed t _ => t
  | .jumped t _ => t
  | .speeds t _ => t
def Fact.told : Fact → V
  | .passed _ w => .int w
  | .showed _ p => .int p
  | .jumped _ b => .bl b
  | .speeds _ ds => .str (tx ds)
def Met.next (M : Met) (p : Pl) (d : Nat) : Pl := (M.countOn p.1 d, p.2 + d)
def Fact.okAt (M : Met) (m : Nat) (p : Pl) : Fact → Bool
  | .passed t w => !(decide (t = m)) || decide (w = p.2)
  | .showed t r => !(decide (t = m)) || decide (r = M.price p.1)
  | _ => true
def Fact.okIn (M : Met) (t : Nat) (c g : Int) : Fact → Bool
  | .jumped t' b => !(decide (t' = t)) || decide (b = decide (M.jumpsAt g > M.jumpsAt c))
  | _ => true
def Fact.cut (t : Nat) (l : List Nat) : Fact → List Nat
  | .speeds t' ds => if t' = t then l.filter (fun d => decide (d ∈ ds)) else l
  | _ => l
structure Rec where
  met : Met
  ticks : Nat
  top : Nat
  facts : List Fact
def Rec.left (R : Rec) (t : Nat) : List Nat := R.facts.foldl (fun l f => f.cut t l) (List.range (R.top + 1))
def Rec.agreesAt (R : Rec) (m : Nat) (p : Pl) : Bool := R.facts.all fun f => f.okAt R.met m p
def Rec.agreesIn (R : Rec) (t : Nat) (c g : Int) : Bool := R.facts.all fun f => f.okIn R.met t c g
def Rec.goes (R : Rec) (t : Nat) (p : Pl) (d : Nat) : Bool := R.agreesIn t p.1 (R.met.next p d).1 && R.agreesAt (t + 1) (R.met.next p d)
def Rec.steps (R : Rec) (t : Nat) (p : Pl) : List (Nat × Pl) := ((R.left t).filter fun d => R.goes t p d).map fun d => (d, R.met.next p d)
def Rec.begins (R : Rec) : List Pl := if R.agreesAt 0 (0, 0) = true then [(0, 0)] else []
def Rec.add (R : Rec) (f : Fact) : Rec := { R with facts := R.facts ++ [f] }
structure okRec (R : Rec) : Prop where
  met : okMet R.met
  t : R.ticks ≤ 8
  top : R.top ≤ 9
  sz : (R.top + 1) ^ R.ticks ≤ 6561
  few : R.facts.length ≤ 100
  ds : ∀ f ∈ R.facts, ∀ t l, f = .speeds t l → ∀ d ∈ l, d < 10
theorem foldl_take {α β : Type} (f : β → α → β) (b : β) {l : List α} {i : Nat} {x : α} (h : l[i]? = some x) : (l.take (i + 1)).foldl f b = f ((l.take i).foldl f b) x := by
  obtain ⟨h1, h2⟩ := List.getElem?_eq_some_iff.mp h
  rw [List.take_succ_eq_append_getElem h1, List.foldl_append, h2]
  rfl
theorem Fact.cut_sub (f : Fact) (t : Nat) (l : List Nat) : ∀ d ∈ f.cut t l, d ∈ l := by
  intro d hd
  unfold Fact.cut at hd
  split at hd
  · split at hd
    · exact (List.mem_filter.mp hd).1
    · exact hd
  · exact hd
theorem foldCut_sub (t : Nat) : ∀ (fs : List Fact) (l : List Nat), ∀ d ∈ fs.foldl (fun l f => f.cut t l) l, d ∈ l
  | [], _, _, h => h
  | f :: fs, l, d, h => f.cut_sub t l d (foldCut_sub t fs _ d h)
theorem Rec.left_lt {R : Rec} (ok : R.top ≤ 9) (t : Nat) : ∀ d ∈ R.left t, d < 10 := fun d hd => by
  have := List.mem_range.mp (foldCut_sub t _ _ d hd)
  omega
theorem Fact.cut_len (f : Fact) (t : Nat) (l : List Nat) : (f.cut t l).length ≤ l.length := by
  unfold Fact.cut
  split
  · split
    · exact List.length_filter_le _ _
    · exact Nat.le_refl _
  · exact Nat.le_refl _
theorem foldCut_len (t : Nat) : ∀ (fs : List Fact) (l : List Nat), (fs.foldl (fun l f => f.cut t l) l).length ≤ l.length
  | [], _ => Nat.le_refl _
  | f :: fs, l => Nat.le_trans (foldCut_len t fs _) (f.cut_len t l)
theorem Rec.left_len (R : Rec) (t : Nat) : (R.left t).length ≤ R.top + 1 := by
  have := foldCut_len t R.facts (List.range (R.top + 1))
  rw [List.length_range] at this
  exact this
theorem Rec.steps_len (R : Rec) (t : Nat) (p : Pl) : (R.steps t p).length ≤ R.top + 1 := by
  unfold Rec.steps
  rw [List.length_map]
  exact Nat.le_trans (List.length_filter_le _ _) (R.left_len t)
/-! ### on the heap -/
def rFs (m t : Addr) (top : Int) (f : Addr) : List (Str × V) := [("own_meter", .ref m), ("own_ticks", .ref t), ("own_top", .int top), ("own_facts", .ref f)]
theorem rFs_m {m t f : Addr} {top : Int} : (rFs m t top f).lookup ("own_meter" : Str) = some (.ref m) := by kernel_rfl
theorem rFs_t {m t f : Addr} {top : Int} : (rFs m t top f).lookup ("own_ticks" : Str) = some (.ref t) := by kernel_rfl
theorem rFs_p {m t f : Addr} {top : Int} : (rFs m t top f).lookup ("own_top" : Str) = some (.int top) := by kernel_rfl
theorem rFs_f {m t f : Addr} {top : Int} : (rFs m t top f).lookup ("own_facts" : Str) = some (.ref f) := by kernel_rfl
theorem rFs_put {m t f f' : Addr} {top : Int} : putF "own_facts" (.ref f') (rFs m t top f) = rFs m t top f' := by kernel_rfl
theorem rFs_row {m t f : Addr} {top : Int} : (rFs m t top f).lookup ("row" : Str) = none := by kernel_rfl
theorem rFs_tab {m t f : Addr} {top : Int} : (rFs m t top f).lookup ("own_tables" : Str) = none := by kernel_rfl
def FactAt (H : Hp) (q : Addr) (f : Fact) : Prop := H q = some (.tup [.str f.kind, .int (f.tick : Nat), f.told])
theorem FactAt.mono {H H' : Hp} {q : Addr} {f : Fact} (s : Same H H') (h : FactAt H q f) : FactAt H' q f := s _ _ h
/-- a record at p, its tuple of facts at f -/
structure RecAtF (K : PySem.W.Frag) (H : Hp) (p f : Addr) (R : Rec) : Prop where
  ex : ∃ dx m t qs, H p = some (.ins (ga K "Record") dx (rFs m t (R.top : Nat) f)) ∧ MetAt K H m R.met ∧ H t = some (.tup ((List.range R.ticks).map fun (i : Nat) => V.int ((i : Nat) : Int))) ∧ H f = some (.tup (qs.map V.ref)) ∧ Paired (FactAt H) qs R.facts
def RecAt (K : PySem.W.Frag) (H : Hp) (p : Addr) (R : Rec) : Prop := ∃ f, RecAtF K H p f R
theorem RecAtF.mono {K : PySem.W.Frag} {H H' : Hp} {p f : Addr} {R : Rec} (s : Same H H') (h : RecAtF K H p f R) : RecAtF K H' p f R := by
  obtain ⟨dx, m, t, qs, h1, h2, h3, h4, h5⟩ := h.ex
  exact ⟨dx, m, t, qs, s _ _ h1, h2.mono s, s _ _ h3, s _ _ h4, Paired.mapP h5 fun _ _ z => z.mono s⟩
theorem RecAt.mono {K : PySem.W.Frag} {H H' : Hp} {p : Addr} {R : Rec} (s : Same H H') (h : RecAt K H p R) : RecAt K H' p R := let ⟨f, h⟩ := h; ⟨f, h.mono s⟩
theorem paired_len {α β : Type} {F : α → β → Prop} : ∀ {l : List α} {m : List β}, Paired F l m → l.length = m.length
  | _, _, .nil => rfl
  | _, _, .cons _ t => congrArg (· + 1) (paired_len t)
theorem paired_snoc {α β : Type} {F : α → β → Prop} : ∀ {l : List α} {m : List β} {a : α} {b : β}, Paired F l m → F a b → Paired F (l ++ [a]) (m ++ [b])
  | _, _, _, _, .nil, r => .cons r .nil
  | _, _, _, _, .cons r t, s => .cons r (paired_snoc t s)
/-! ### texts of digits -/
theorem tx_list (l : List Nat) : (tx l).cps.toList = l.map (48 + ·) := rfl
theorem tx_mem (l : List Nat) (n : Nat) : decide (48 + n ∈ (tx l).cps.toList) = decide (n ∈ l) := by
  rw [tx_list]
  apply decide_eq_decide.mpr
  rw [List.mem_map]
  constructor
  · rintro ⟨m, hm, e⟩
    have : m = n := by omega
    rw [← this]
    exact hm
  · exact fun h => ⟨n, h, rfl⟩
theorem digits_tx : Str.ofString "0123456789" = tx [0, 1, 2, 3, 4, 5, 6, 7, 8, 9] := by decide +kernel
def topsOk (n : Nat) : Bool := decide (cutS (Str.ofString "0123456789") none (some (((n + 1 : Nat)) : Int)) = tx (List.range (n + 1)))
theorem tops_all : (List.range 10).all topsOk = true := by decide +kernel
theorem digits_cut {n : Nat} (h : n ≤ 9) : cutS (Str.ofString "0123456789") none (some (((n + 1 : Nat)) : Int)) = tx (List.range (n + 1)) := of_decide_eq_true (List.all_eq_true.mp tops_all n (List.mem_range.mpr (by omega)))
theorem str_ext {x y : Str} (h : x.cps.toList = y.cps.toList) : x = y := by
  obtain ⟨⟨a⟩⟩ := x
  obtain ⟨⟨b⟩⟩ := y
  simp at h
  rw [h]
theorem fold_glue : ∀ (ls : List Str) (acc : Array Nat), (ls.foldl (fun acc p => acc ++ (Str.ofString "").cps ++ p.cps) acc).toList = acc.toList ++ ls.flatMap fun p => p.cps.toList
  | [], acc => by simp
  | x :: ls, acc => by
    have e : (Str.ofString "").cps = #[] := by decide +kernel
    rw [List.foldl_cons, fold_glue ls, e]
    simp
theorem join_flat (ls : List Str) : (Txt.join (Str.ofString "") ls).cps.toList = ls.flatMap fun p => p.cps.toList := by
  show ((ls.drop 1).foldl (fun acc p => acc ++ (Str.ofString "").cps ++ p.cps) (ls.headD Str.empty).cps).toList = _
  rw [fold_glue]
  cases ls with
  | nil => rfl
  | cons x r => simp
theorem join_dg (l : List Nat) : Txt.join (Str.ofString "") (l.map dg) = tx l := by
  apply str_ext
  rw [join_flat, tx_list, List.flatMap_map]
  induction l with
  | nil => rfl
  | cons a l ih =>
    rw [List.flatMap_cons, ih]
    rfl
theorem sum_dg (l : List Nat) : ((l.map dg).map (·.length)).sum = l.length := by
  induction l with
  | nil => rfl
  | cons a l ih =>
    rw [List.map_cons, List.map_cons, List.sum_cons, ih]
    show 1 + l.length = l.length + 1
    omega
end Cab
/-! text CabR1 -/
set_option Elab.async false
set_option linter.all false
set_option maxRecDepth 100000
set_option maxHeartbeats 2000000
namespace Cab
open PySem PySem.Spec PyProof.Rows L2 He
section
variable {P : Program} {w : World} {K : PySem.W.Frag} {mg : Str → Option Value} {base : Heap}
/-- a field of a record that a name holds -/
theorem we_rfld {X : Cx} {T : TX X.K X.mg} {e : Expr} {f : Str} {pos : Pos} {σ : L2.St} {H : Hp} {Q : VK} {p dx m t fa : Addr} {top : Int} {x : V} (na : NoAttr X.K (ga X.K "Record") f) (hp : H p = some (.ins (ga X.K "Record") dx (rFs m t top fa))) (hl : (rFs m t top fa).lookup f = some x)
    (h : WE X e σ H fun y H1 => y = .ref p ∧ H1 = H) (q : Q x H) (hb : attributeBase e f X.env (eval e X.env) = eval e X.env := by rfl) : WE X (.Attribute e f pos) σ H Q :=
  we_fld' (T.c c_Record) na (WE.mono h fun y H1 ⟨ey, eH⟩ => ⟨p, dx, _, x, ey, by rw [eH]; exact hp, hl, by rw [eH]; exact q⟩) hb
def spRLen (K : PySem.W.Frag) : Sp := sp1 fun a H Q => ∃ (p : Addr) (R : Rec), a = .ref p ∧ RecAt K H p R ∧ R.ticks ≤ 8 ∧ Q (.int (R.ticks : Nat)) H
theorem ok_Record_len (T : TX K mg) : FnP P w K mg base d_Record_len 1 ["self"] (spRLen K) [] := by
  refine fn1 (T.d D_Record_len) rfl sc_Record_len bd_Record_len fun cdv A outer s H Q E a hr h => ?_
  obtain ⟨p, R, rfl, ⟨f, hR⟩, h8, q⟩ := h
  obtain ⟨dx, m, t, qs, h1, h2, h3, h4, h5⟩ := hR.ex
  refine wb_cons <| ws_ret <| we_blt call_len_seq (T.fr f_len) boot_len <| wa_cons <| we_rfld (T := T) (T.n n_Record_own_ticks) h1 rFs_t (we_var 0 rfl ⟨rfl, rfl⟩) <| wa_nil ⟨t, _, rfl, .inr (SqT.of h3), ?_⟩
  rw [List.length_map, List.length_range]
  exact q
def spRMeter (K : PySem.W.Frag) : Sp := sp1 fun a H Q => ∃ (p : Addr) (R : Rec), a = .ref p ∧ RecAt K H p R ∧ ∀ m, MetAt K H m R.met → Q (.ref m) H
theorem ok_Record_meter (T : TX K mg) : FnP P w K mg base d_Record_meter 1 ["self"] (spRMeter K) [] := by
  refine fn1 (T.d D_Record_meter) rfl sc_Record_meter bd_Record_meter fun cdv A outer s H Q E a hr h => ?_
  obtain ⟨p, R, rfl, ⟨f, hR⟩, q⟩ := h
  obtain ⟨dx, m, t, qs, h1, h2, h3, h4, h5⟩ := hR.ex
  exact wb_cons <| ws_ret <| we_rfld (T := T) (T.n n_Record_own_meter) h1 rFs_m (we_var 0 rfl ⟨rfl, rfl⟩) (q m h2)
def spCheckTick : Sp := sp3 fun _ a b H Q => ∃ i l : Int, a = .int i ∧ b = .int l ∧ 0 ≤ i ∧ i ≤ l ∧ Q .non H
theorem ok_Record_check_tick (T : TX K mg) : FnP P w K mg base d_Record_check_tick 3 ["self", "tick", "last"] spCheckTick [] := by
  refine fn3 (T.d D_Record_check_tick) rfl sc_Record_check_tick bd_Record_check_tick fun cdv A outer s H Q E v a b hr h => ?_
  obtain ⟨i, l, rfl, rfl, h1, h2, q⟩ := h
  refine wb_cons <| ws_guard <| wt_not <| wt_val <| we_call (ok_is_between T) (T.g g_is_between) hr <| wa_cons <| we_var 1 rfl <| wa_cons <| we_int <| wa_cons <| we_var 2 rfl <| wa_nil ⟨_, _, _, rfl, i, 0, l, rfl, rfl, rfl, true, ?_, rfl, wb_nil q⟩
  rw [decide_eq_true (show (0 : Int) ≤ i ∧ i ≤ l from ⟨h1, h2⟩)]
theorem text_at (l : List Nat) {i : Nat} (hi : i < (tx l).cps.size) {c : Nat} (h : (tx l).cps[i]? = some c) : ∃ n, l[i]? = some n ∧ c = 48 + n ∧ (⟨#[c]⟩ : Str) = dg n := by
  obtain ⟨n, h1, h2⟩ := tx_at l i c h
  exact ⟨n, h1, h2, by rw [h2]; rfl⟩
/-- self.check_tick(tick, len(self.own_ticks) [- 1]) -/
theorem tup_len (T : TX K mg) : True := trivial
def spRGet (K : PySem.W.Frag) : Sp := sp2 fun a b H Q => ∃ (p : Addr) (R : Rec) (t : Nat), a = .ref p ∧ RecAt K H p R ∧ okRec R ∧ b = .int (t : Nat) ∧ t < R.ticks ∧ ∀ H', Same H H' → Q (.str (tx (R.left t))) H'
theorem ok_Record_getitem (T : TX K mg) : FnP P w K mg base d_Record_getitem 4 ["self", "tick"] (spRGet K) [] := by
  refine fn2 (T.d D_Record_getitem) rfl sc_Record_getitem bd_Record_getitem fun cdv A outer s H Q E a b hr h => ?_
  obtain ⟨p, R, tk, rfl, ⟨f, hR⟩, ok, rfl, htk, q⟩ := h
  obtain ⟨dx, m, t, qs, h1, h2, h3, h4, h5⟩ := hR.ex
  obtain ⟨u2, mu2, ru2⟩ := T.s s_DIGITS
  have t8 := ok.t
  have top9 := ok.top
  have few := ok.few
  have hl3 : (((List.range R.ticks).map fun (i : Nat) => V.int ((i : Nat) : Int)).length : Int) = (R.ticks : Nat) := by rw [List.length_map, List.length_range]
  refine wb_cons <| ws_expr <| we_meth (ok_Record_check_tick T) (T.c c_Record) (T.m m_Record_check_tick) hr <| we_var 0 rfl ⟨p, dx, _, rfl, h1, by kernel_rfl, wa_cons <| we_var 1 rfl <| wa_cons <| we_sub <| we_blt call_len_seq (T.fr f_len) boot_len <| wa_cons <| we_rfld (T := T) (T.n n_Record_own_ticks) h1 rFs_t (we_var 0 rfl ⟨rfl, rfl⟩) <| wa_nil ⟨t, _, rfl, .inr (SqT.of h3), we_int ⟨_, _, rfl, rfl, wa_nil ⟨_, _, _, rfl, _, _, rfl, rfl, by omega, by rw [hl3]; omega, ?_⟩⟩⟩⟩
  -- left = DIGITS[:self.own_top + 1]
  refine wb_cons <| ws_set 2 (we_cut sl_str <| we_glob mu2 ru2 <| we_add <| we_rfld (T := T) (T.n n_Record_own_top) h1 rFs_p (we_var 0 rfl ⟨rfl, rfl⟩) <| we_int ⟨_, _, rfl, rfl, _, rfl, _, rfl, by decide +kernel, ?_⟩) sc_Record_getitem.nd
  have ec : cutS (Str.ofString "0123456789") none (some (((R.top : Nat) : Int) + 1)) = tx (List.range (R.top + 1)) := digits_cut top9
  rw [ec]
  -- the facts
  have hlen := paired_len h5
  refine wb_cons <| ws_forW PassesOwn.never rfl (fun _ => rfl) <| wi_tup <| we_rfld (T := T) (T.n n_Record_own_facts) h1 rFs_f (we_var 0 rfl ⟨rfl, rfl⟩) ⟨f, _, rfl, SqT.of h4, _, _, _, walk_tup (xs := qs.map V.ref), fun i σ H' => Same H H' ∧ ∃ v3 v4 v5 v6, σ = [some (.ref p), some (.int (tk : Nat)), some (.str (tx ((R.facts.take i).foldl (fun l f => f.cut tk l) (List.range (R.top + 1))))), v3, v4, v5, v6], ⟨fun _ _ e => e, _, _, _, _, rfl⟩, fun _ _ _ _ z => Cab.Same.seqT z.1 (SqT.of h4), ?_, ?_⟩
  · rintro i x σ H1 H2 hi ⟨s1, v3, v4, v5, v6, rfl⟩ ⟨rfl, hx⟩
    obtain ⟨z, hz, rfl⟩ := map_get hx
    obtain ⟨fc, hfc, hat⟩ := paired_get' h5 hz
    have hat1 := hat.mono s1
    have ef := foldl_take (fun l f => Fact.cut tk l f) (List.range (R.top + 1)) hfc
    have efl : ∀ d ∈ (R.facts.take i).foldl (fun l f => f.cut tk l) (List.range (R.top + 1)), d < 10 := fun d hd => by
      have := List.mem_range.mp (foldCut_sub tk _ _ d hd)
      omega
    have efs : ((R.facts.take i).foldl (fun l f => f.cut tk l) (List.range (R.top + 1))).length ≤ 10 := by
      have := foldCut_len tk (R.facts.take i) (List.range (R.top + 1))
      rw [List.length_range] at this
      omega
    generalize hcur : (R.facts.take i).foldl (fun l f => f.cut tk l) (List.range (R.top + 1)) = cur at *
    refine wg_tup3 3 4 5 (SqT.of hat1) ?_ rfl sc_Record_getitem.nd
    refine wb_cons <| ws_if <| wt_W <| ww_and <| wt_cmp op_eq <| we_var 3 rfl <| we_str ⟨rfl, _, rfl, ?_⟩
    cases fc with
    | passed t' w' => exact iteF <| iteF <| wb_nil <| wb_nil ⟨s1, _, _, _, _, by rw [ef]; rfl⟩
    | showed t' w' => exact iteF <| iteF <| wb_nil <| wb_nil ⟨s1, _, _, _, _, by rw [ef]; rfl⟩
    | jumped t' w' => exact iteF <| iteF <| wb_nil <| wb_nil ⟨s1, _, _, _, _, by rw [ef]; rfl⟩
    | speeds t' ds =>
      refine iteT <| ww_and1 <| wt_cmp op_eq <| we_var 4 rfl <| we_var 1 rfl ⟨rfl, _, rfl, ?_⟩
      by_cases ht : t' = tk
      · have e1 : decide (V.int ((t' : Nat) : Int) = V.int ((tk : Nat) : Int)) = true := by rw [ht]; exact decide_eq_true rfl
        have e2 : Fact.cut tk cur (.speeds t' ds) = cur.filter fun d => decide (d ∈ ds) := if_pos ht
        rw [e2] at ef
        show if decide (V.int ((t' : Nat) : Int) = V.int ((tk : Nat) : Int)) = true then _ else _
        rw [e1]
        refine iteT <| wb_cons <| ws_set 2 (we_join <| we_str ⟨_, rfl, we_lc sc_Record_getitem [("digit", 6)] <| wi_str <| we_var 2 rfl ⟨_, rfl, ?_⟩⟩) sc_Record_getitem.nd
        have esz : (tx cur).cps.size = cur.length := tx_size cur
        refine lcFil (fun i => decide (cur.getD i 0 ∈ ds)) (fun i => V.str (dg (cur.getD i 0))) walk_str (fun _ _ _ _ y => y.1) (by rw [esz]; omega) (fun _ _ => trivial) ?_ ?_
        · rintro i x H3 hi s3 ⟨_, c, hc, rfl⟩ s0 H0 C cl fp
          obtain ⟨n, hn, ec, ed⟩ := text_at cur hi hc
          have e3 : cur.getD i 0 = n := by rw [List.getD_eq_getElem?_getD, hn]; rfl
          refine wg_name 6 ⟨rfl, fun s0 H0 C cl fp => ?_⟩ sc_Record_getitem.nd
          refine wt_cmp op_in_sign <| we_var 6 rfl <| we_var 5 rfl ⟨_, _, rfl, rfl, _, rfl, ?_, fun _ _ e => e, fun _ s0 H0 C cl fp => we_var 6 rfl ⟨by rw [e3, ed], fun _ _ e => e⟩⟩
          rw [e3, ec]
          exact tx_mem ds n
        · intro D H3 hD s3 hDl
          have e4 : ((List.range cur.length).filter fun i => decide (cur.getD i 0 ∈ ds)).map (fun i => V.str (dg (cur.getD i 0))) = ((cur.filter fun d => decide (d ∈ ds)).map dg).map V.str := by
            rw [List.map_map]
            exact fil_range_get (fun d => decide (d ∈ ds)) (fun d => V.str (dg d)) 0 cur
          rw [esz, e4] at hDl
          refine ⟨D, (cur.filter fun d => decide (d ∈ ds)).map dg, rfl, SqL.of hDl, ?_, ?_⟩
          · rw [sum_dg]
            have := List.length_filter_le (fun d => decide (d ∈ ds)) cur
            have e5 : (Str.ofString "").length = 0 := by decide +kernel
            rw [e5]
            omega
          · rw [join_dg]
            exact wb_nil <| wb_nil ⟨Same.trans s1 s3, _, _, _, _, by rw [ef]; rfl⟩
      · have e1 : decide (V.int ((t' : Nat) : Int) = V.int ((tk : Nat) : Int)) = false := decide_eq_false fun z => ht (by injection z with z; omega)
        have e2 : Fact.cut tk cur (.speeds t' ds) = cur := if_neg ht
        rw [e2] at ef
        show if decide (V.int ((t' : Nat) : Int) = V.int ((tk : Nat) : Int)) = true then _ else _
        rw [e1]
        exact iteF <| wb_nil <| wb_nil ⟨s1, _, _, _, _, by rw [ef]; rfl⟩
  · rintro σ H1 ⟨s1, v3, v4, v5, v6, rfl⟩
    refine wb_cons <| ws_ret <| we_var 2 rfl ?_
    have e : (R.facts.take (qs.map V.ref).length).foldl (fun l f => f.cut tk l) (List.range (R.top + 1)) = R.left tk := by
      rw [List.length_map, hlen, List.take_length]
      rfl
    rw [e]
    exact q H1 s1
end
end Cab
/-! text CabR2 -/
set_option Elab.async false
set_option linter.all false
set_option maxRecDepth 100000
set_option maxHeartbeats 2000000
namespace Cab
open PySem PySem.Spec PyProof.Rows L2 He
open PySem.StrLaws in
theorem occ_count (x : Str) (c : Nat) : ∀ (m k : Nat) (found : Array Nat) (free : Nat), k + m = x.length + 1 → free ≤ k → found.size + m ≤ x.length + 1 →
    (forIn (List.range' k m) (found, free) (occBody x ⟨#[c]⟩ x.length (x.length + 1))).run.fst.size = found.size + (x.cps.toList.drop k).count c
  | 0, k, found, free, hk, hf, hz => by
    have e : x.cps.toList.drop k = [] := List.drop_eq_nil_of_le (by rw [Array.length_toList]; show x.length ≤ k; omega)
    rw [e]
    rfl
  | m + 1, k, found, free, hk, hf, hz => by
    rw [List.range'_succ, List.forIn_cons]
    unfold occBody
    have s1 := subAt_one x c k
    by_cases hc : x.cps.toList[k]? = some c
    · obtain ⟨h1, h2⟩ := s1.mpr hc
      rw [if_pos ⟨⟨⟨by show found.size < _; omega, hf⟩, h1⟩, h2⟩]
      have ih := occ_count x c m (k + 1) (found.push k) (k + 1) (by omega) (Nat.le_refl _) (by rw [Array.size_push]; omega)
      obtain ⟨hlt, he⟩ := List.getElem?_eq_some_iff.mp hc
      have e : x.cps.toList.drop k = c :: x.cps.toList.drop (k + 1) := by rw [List.drop_eq_getElem_cons hlt, he]
      rw [e, List.count_cons_self]
      refine Eq.trans ih ?_
      rw [Array.size_push]
      omega
    · rw [if_neg (fun h => hc (s1.mp ⟨h.1.2, h.2⟩))]
      have ih := occ_count x c m (k + 1) found free (by omega) (by omega) (by omega)
      refine Eq.trans ih ?_
      by_cases hlt : k < x.cps.toList.length
      · have e : x.cps.toList.drop k = x.cps.toList[k] :: x.cps.toList.drop (k + 1) := List.drop_eq_getElem_cons hlt
        have ne : x.cps.toList[k] ≠ c := fun z => hc (by rw [List.getElem?_eq_getElem hlt, z])
        rw [e, List.count_cons_of_ne ne]
      · rw [List.drop_eq_nil_of_le (by omega), List.drop_eq_nil_of_le (by omega)]
theorem count_dg (l : List Nat) (n : Nat) : Txt.count (tx l) (dg n) = (l.count n : Nat) := by
  show (((PySem.Builtin.Str.occurrences (tx l) ⟨#[48 + n]⟩ 0 (tx l).length ((tx l).length + 1)).length : Nat) : Int) = _
  rw [PySem.StrLaws.occ_eq, Array.length_toList]
  have h := occ_count (tx l) (48 + n) ((tx l).length + 1 - 0) 0 #[] 0 (by omega) (Nat.le_refl _) (by simp)
  rw [h, tx_list, List.drop_zero]
  have e : (l.map (48 + ·)).count (48 + n) = l.count n := by
    clear h
    induction l with
    | nil => rfl
    | cons a l ih =>
      rw [List.map_cons, List.count_cons, List.count_cons, ih]
      have : (48 + a == 48 + n) = (a == n) := by
        rw [Bool.eq_iff_iff, beq_iff_eq, beq_iff_eq]
        omega
      rw [this]
  rw [e]
  simp
theorem signs_tx (l : List Nat) : (tx l).cps.toList.map sg = l.map dg := by
  rw [tx_list, List.map_map]
  rfl
section
variable {P : Program} {w : World} {K : PySem.W.Frag} {mg : Str → Option Value} {base : Heap}
structure okDs (ds : List Nat) : Prop where
  nd : ds.Nodup
  lt : ∀ d ∈ ds, d < 10
  ne : 1 ≤ ds.length
theorem okDs.le {ds : List Nat} (h : okDs ds) : ds.length ≤ 10 := by
  have := nodup_le ds (List.range 10) h.nd fun d hd => List.mem_range.mpr (h.lt d hd)
  rw [List.length_range] at this
  exact this
theorem okDs.perm {ds es : List Nat} (h : okDs ds) (p : es.Perm ds) : okDs es := ⟨p.nodup_iff.mpr h.nd, fun d hd => h.lt d (p.mem_iff.mp hd), by rw [p.length_eq]; exact h.ne⟩
theorem dig_len : (Str.ofString "0123456789").length = 10 := by decide +kernel
def spIsSpeeds : Sp := sp1 fun a H Q => ∃ ds : List Nat, a = .str (tx ds) ∧ okDs ds ∧ ∀ H', Same H H' → Q (.bl true) H'
theorem ok_is_speeds (T : TX K mg) : FnP P w K mg base d_is_speeds 1 ["value"] spIsSpeeds [] := by
  refine fn1 (T.d D_is_speeds) rfl sc_is_speeds bd_is_speeds fun cdv A outer s H Q E a hr h => ?_
  obtain ⟨ds, rfl, ok, q⟩ := h
  obtain ⟨u2, mu2, ru2⟩ := T.s s_DIGITS
  have l10 := ok.le
  have l1 := ok.ne
  have esz : (tx ds).cps.size = ds.length := tx_size ds
  refine wb_cons <| ws_guard <| wt_W <| ww_or <| wt_not <| wt_val <| we_isi "str" (T.fr f_isinstance) (T.fr f_str) (by decide +kernel) <| we_var 0 rfl ⟨"str", true, .base (.str _), by decide +kernel, true, rfl, iteF <| ww_or1 <| wt_not ?_⟩
  refine wt_chain op_le op_le <| we_int <| we_blt call_len_str (T.fr f_len) boot_len <| wa_cons <| we_var 0 rfl <| wa_nil ⟨_, rfl, by rw [tx_len]; exact sz_le (by omega), 1, _, rfl, rfl, _, rfl, ?_⟩
  rw [tx_len, decide_eq_true (show (1 : Int) ≤ ((ds.length : Nat) : Int) by omega)]
  refine iteT <| we_blt call_len_str (T.fr f_len) boot_len <| wa_cons <| we_glob mu2 ru2 <| wa_nil ⟨_, rfl, by rw [dig_len]; exact sz_le (by omega), _, _, rfl, rfl, true, ?_, rfl, ?_⟩
  · show V.bl (decide (((ds.length : Nat) : Int) ≤ (((Str.ofString "0123456789").length : Nat) : Int))) = V.bl true
    rw [dig_len, decide_eq_true (by omega)]
  refine wb_cons <| ws_ret <| we_and <| we_blt (cr_all rfl) (T.fr f_all) (by decide +kernel) <| wa_cons ?_
  refine we_lc sc_is_speeds [("digit", 1)] <| wi_str <| we_var 0 rfl ⟨_, rfl, ?_⟩
  refine lcMap (fun _ => V.bl true) walk_str (fun _ _ _ _ y => y.1) (by rw [esz]; omega) (fun _ _ => trivial) ?_ ?_
  · rintro i x H2 hi s2 ⟨_, c, hc, rfl⟩ s0 H0 C cl fp
    obtain ⟨n, hn, ec, ed⟩ := text_at ds hi hc
    refine wg_name 1 ⟨rfl, fun s0 H0 C cl fp => ?_⟩ sc_is_speeds.nd
    refine we_cmp op_eq <| wE (pe_m1 PySem.F.slot_str_count PySem.F.type_str_count mt_count pE pE) <| we_var 0 rfl ⟨⟨_, rfl⟩, we_var 1 rfl ⟨_, _, rfl, rfl, we_int ⟨rfl, ?_, fun _ _ e => e⟩⟩⟩
    rw [ed, count_dg]
    have h1 : ds.count n = 1 := by
      have hm := List.mem_of_getElem? hn
      have a1 := List.nodup_iff_count.mp ok.nd n
      have a2 := List.count_pos_iff.mpr hm
      omega
    rw [h1]
    exact congrArg V.bl (decide_eq_true rfl)
  intro D H2 hD s2 hDl
  refine wa_nil ⟨D, List.replicate ds.length true, rfl, SqL.of (by rw [hDl, map_rep, esz]; simp [List.map_const']), true, by rw [all_rep], iteT <| we_one <| we_blt (cr_all rfl) (T.fr f_all) (by decide +kernel) <| wa_cons ?_⟩
  refine we_lc sc_is_speeds [("digit", 1)] <| wi_str <| we_var 0 rfl ⟨_, rfl, ?_⟩
  refine lcMap (fun _ => V.bl true) walk_str (fun _ _ _ _ y => y.1) (by rw [esz]; omega) (fun _ _ => trivial) ?_ ?_
  · rintro i x H3 hi s3 ⟨_, c, hc, rfl⟩ s0 H0 C cl fp
    obtain ⟨n, hn, ec, ed⟩ := text_at ds hi hc
    refine wg_name 1 ⟨rfl, fun s0 H0 C cl fp => ?_⟩ sc_is_speeds.nd
    refine we_cmp op_in_sign <| we_var 1 rfl <| we_glob mu2 ru2 ⟨_, _, rfl, rfl, ?_, fun _ _ e => e⟩
    rw [ec, dig_in (ok.lt n (List.mem_of_getElem? hn))]
  intro D2 H3 hD2 s3 hDl2
  refine wa_nil ⟨D2, List.replicate ds.length true, rfl, SqL.of (by rw [hDl2, map_rep, esz]; simp [List.map_const']), ?_⟩
  rw [all_rep]
  exact q H3 (Same.trans s2 s3)
/-! ### facts taken in -/
theorem RecAt.len {H : Hp} {p : Addr} {R : Rec} (h : RecAt K H p R) : True := trivial
def spTakeIn (K : PySem.W.Frag) : Sp := sp2 fun a b H Q => ∃ (p q : Addr) (R : Rec) (f : Fact), a = .ref p ∧ RecAt K H p R ∧ R.facts.length ≤ 1000 ∧ b = .ref q ∧ FactAt H q f ∧ ∀ H', But p H H' → RecAt K H' p (R.add f) → Q .non H'
theorem ok_Record_take_in (T : TX K mg) : FnP P w K mg base d_Record_take_in 1 ["self", "fact"] (spTakeIn K) [] := by
  refine fn2 (T.d D_Record_take_in) rfl sc_Record_take_in bd_Record_take_in fun cdv A outer s H Q E a b hr h => ?_
  obtain ⟨p, fa, R, fc, rfl, ⟨f, hR⟩, few, rfl, hfa, q⟩ := h
  obtain ⟨dx, m, t, qs, h1, h2, h3, h4, h5⟩ := hR.ex
  have hlen := paired_len h5
  refine wb_cons <| ws_fld (T.c c_Record) (T.n n_Record_own_facts) <| we_tup <| wa_star <| we_rfld (T := T) (T.n n_Record_own_facts) h1 rFs_f (we_var 0 rfl ⟨rfl, rfl⟩) ⟨f, _, rfl, .inl (SqT.of h4), wa_cons <| we_var 1 rfl <| wa_nil ⟨?_, fun g H1 hg s1 e1 => ?_⟩⟩
  · rw [List.length_append, List.length_map]
    exact sz_le (by show qs.length + 1 ≤ _; omega)
  refine we_var 0 rfl ⟨p, dx, _, rfl, s1 _ _ h1, by show 4 < 1000; decide, fun H2 b2 e2 => wb_nil (q H2 (But.trans (But.same s1) b2) ?_)⟩
  have hp1 := s1 _ _ h1
  rw [rFs_put] at e2
  refine ⟨g, dx, m, t, qs ++ [fa], e2, ?_, ?_, ?_, ?_⟩
  · exact (h2.mono s1).butI b2 hp1 rFs_row rFs_tab
  · exact b2 _ _ (s1 _ _ h3) (ne_of (s1 _ _ h3) hp1 (by intro z; cases z))
  · rw [List.map_append]
    exact b2 _ _ e1 (ne_of e1 hp1 (by intro z; cases z))
  · refine paired_snoc (Paired.mapP h5 fun x y z => ?_) ?_
    · exact b2 _ _ (s1 _ _ z) (ne_of (s1 _ _ z) hp1 (by intro z; cases z))
    · exact b2 _ _ (s1 _ _ hfa) (ne_of (s1 _ _ hfa) hp1 (by intro z; cases z))
def spPassed (K : PySem.W.Frag) : Sp := sp3 fun a b c H Q => ∃ (p : Addr) (R : Rec) (t : Nat) (i : Int), a = .ref p ∧ RecAt K H p R ∧ okRec R ∧ b = .int (t : Nat) ∧ t ≤ R.ticks ∧ c = .int i ∧ 0 ≤ i ∧ ∀ H', But p H H' → RecAt K H' p (R.add (.passed t i)) → Q .non H'
theorem ok_Record_passed (T : TX K mg) : FnP P w K mg base d_Record_passed 4 ["self", "tick", "way"] (spPassed K) [] := by
  refine fn3 (T.d D_Record_passed) rfl sc_Record_passed bd_Record_passed fun cdv A outer s H Q E a b c hr h => ?_
  obtain ⟨p, R, tk, i, rfl, hRR, ok, rfl, htk, rfl, h0, q⟩ := h
  obtain ⟨f, hR⟩ := id hRR
  obtain ⟨dx, m, t, qs, h1, h2, h3, h4, h5⟩ := hR.ex
  have few := ok.few
  have hl3 : (((List.range R.ticks).map fun (i : Nat) => V.int ((i : Nat) : Int)).length : Int) = (R.ticks : Nat) := by rw [List.length_map, List.length_range]
  refine wb_cons <| ws_expr <| we_meth (ok_Record_check_tick T) (T.c c_Record) (T.m m_Record_check_tick) hr <| we_var 0 rfl ⟨p, dx, _, rfl, h1, by kernel_rfl, wa_cons <| we_var 1 rfl <| wa_cons <| we_blt call_len_seq (T.fr f_len) boot_len <| wa_cons <| we_rfld (T := T) (T.n n_Record_own_ticks) h1 rFs_t (we_var 0 rfl ⟨rfl, rfl⟩) <| wa_nil ⟨t, _, rfl, .inr (SqT.of h3), wa_nil ⟨_, _, _, rfl, _, _, rfl, rfl, by omega, by rw [hl3]; omega, ?_⟩⟩⟩
  refine wb_cons <| ws_guard <| wt_W <| ww_or <| wt_not <| wt_val <| we_call (ok_is_whole T) (T.g g_is_whole) hr <| wa_cons <| we_var 2 rfl <| wa_nil ⟨_, rfl, i, rfl, true, rfl, iteF <| ww_or1 ?_⟩
  refine wt_cmp op_lt <| we_var 2 rfl <| we_int ⟨_, _, rfl, rfl, _, rfl, decide_eq_false (by omega), ?_⟩
  refine wb_cons <| ws_expr <| we_meth (ok_Record_take_in T) (T.c c_Record) (T.m m_Record_take_in) hr <| we_var 0 rfl ⟨p, dx, _, rfl, h1, by kernel_rfl, wa_cons <| we_tup <| wa_cons <| we_str <| wa_cons <| we_var 1 rfl <| wa_cons <| we_var 2 rfl <| wa_nil ⟨by show 3 ≤ sizeLine; decide, fun g H1 hg s1 e1 => wa_nil ⟨_, _, rfl, p, g, R, .passed tk i, rfl, hRR.mono s1, by omega, rfl, e1, fun H2 b2 r2 => wb_nil (q H2 (But.trans (But.same s1) b2) r2)⟩⟩⟩
def spShowed (K : PySem.W.Frag) : Sp := sp3 fun a b c H Q => ∃ (p : Addr) (R : Rec) (t : Nat) (i : Int), a = .ref p ∧ RecAt K H p R ∧ okRec R ∧ b = .int (t : Nat) ∧ t ≤ R.ticks ∧ c = .int i ∧ 0 ≤ i ∧ ∀ H', But p H H' → RecAt K H' p (R.add (.showed t i)) → Q .non H'
theorem ok_Record_showed (T : TX K mg) : FnP P w K mg base d_Record_showed 4 ["self", "tick", "price"] (spShowed K) [] := by
  refine fn3 (T.d D_Record_showed) rfl sc_Record_showed bd_Record_showed fun cdv A outer s H Q E a b c hr h => ?_
  obtain ⟨p, R, tk, i, rfl, hRR, ok, rfl, htk, rfl, h0, q⟩ := h
  obtain ⟨f, hR⟩ := id hRR
  obtain ⟨dx, m, t, qs, h1, h2, h3, h4, h5⟩ := hR.ex
  have few := ok.few
  have hl3 : (((List.range R.ticks).map fun (i : Nat) => V.int ((i : Nat) : Int)).length : Int) = (R.ticks : Nat) := by rw [List.length_map, List.length_range]
  refine wb_cons <| ws_expr <| we_meth (ok_Record_check_tick T) (T.c c_Record) (T.m m_Record_check_tick) hr <| we_var 0 rfl ⟨p, dx, _, rfl, h1, by kernel_rfl, wa_cons <| we_var 1 rfl <| wa_cons <| we_blt call_len_seq (T.fr f_len) boot_len <| wa_cons <| we_rfld (T := T) (T.n n_Record_own_ticks) h1 rFs_t (we_var 0 rfl ⟨rfl, rfl⟩) <| wa_nil ⟨t, _, rfl, .inr (SqT.of h3), wa_nil ⟨_, _, _, rfl, _, _, rfl, rfl, by omega, by rw [hl3]; omega, ?_⟩⟩⟩
  refine wb_cons <| ws_guard <| wt_W <| ww_or <| wt_not <| wt_val <| we_call (ok_is_whole T) (T.g g_is_whole) hr <| wa_cons <| we_var 2 rfl <| wa_nil ⟨_, rfl, i, rfl, true, rfl, iteF <| ww_or1 ?_⟩
  refine wt_cmp op_lt <| we_var 2 rfl <| we_int ⟨_, _, rfl, rfl, _, rfl, decide_eq_false (by omega), ?_⟩
  refine wb_cons <| ws_expr <| we_meth (ok_Record_take_in T) (T.c c_Record) (T.m m_Record_take_in) hr <| we_var 0 rfl ⟨p, dx, _, rfl, h1, by kernel_rfl, wa_cons <| we_tup <| wa_cons <| we_str <| wa_cons <| we_var 1 rfl <| wa_cons <| we_var 2 rfl <| wa_nil ⟨by show 3 ≤ sizeLine; decide, fun g H1 hg s1 e1 => wa_nil ⟨_, _, rfl, p, g, R, .showed tk i, rfl, hRR.mono s1, by omega, rfl, e1, fun H2 b2 r2 => wb_nil (q H2 (But.trans (But.same s1) b2) r2)⟩⟩⟩
def spJumped (K : PySem.W.Frag) : Sp := sp3 fun a b c H Q => ∃ (p : Addr) (R : Rec) (t : Nat) (i : Bool), a = .ref p ∧ RecAt K H p R ∧ okRec R ∧ b = .int (t : Nat) ∧ t < R.ticks ∧ c = .bl i ∧ ∀ H', But p H H' → RecAt K H' p (R.add (.jumped t i)) → Q .non H'
theorem ok_Record_jumped (T : TX K mg) : FnP P w K mg base d_Record_jumped 4 ["self", "tick", "told"] (spJumped K) [] := by
  refine fn3 (T.d D_Record_jumped) rfl sc_Record_jumped bd_Record_jumped fun cdv A outer s H Q E a b c hr h => ?_
  obtain ⟨p, R, tk, i, rfl, hRR, ok, rfl, htk, rfl, q⟩ := h
  obtain ⟨f, hR⟩ := id hRR
  obtain ⟨dx, m, t, qs, h1, h2, h3, h4, h5⟩ := hR.ex
  have few := ok.few
  have hl3 : (((List.range R.ticks).map fun (i : Nat) => V.int ((i : Nat) : Int)).length : Int) = (R.ticks : Nat) := by rw [List.length_map, List.length_range]
  refine wb_cons <| ws_expr <| we_meth (ok_Record_check_tick T) (T.c c_Record) (T.m m_Record_check_tick) hr <| we_var 0 rfl ⟨p, dx, _, rfl, h1, by kernel_rfl, wa_cons <| we_var 1 rfl <| wa_cons <| we_sub <| we_blt call_len_seq (T.fr f_len) boot_len <| wa_cons <| we_rfld (T := T) (T.n n_Record_own_ticks) h1 rFs_t (we_var 0 rfl ⟨rfl, rfl⟩) <| wa_nil ⟨t, _, rfl, .inr (SqT.of h3), we_int ⟨_, _, rfl, rfl, wa_nil ⟨_, _, _, rfl, _, _, rfl, rfl, by omega, by rw [hl3]; omega, ?_⟩⟩⟩⟩
  refine wb_cons <| ws_guard <| wt_not <| wt_val <| we_isi "bool" (T.fr f_isinstance) (T.fr f_bool) (by decide +kernel) <| we_var 2 rfl ⟨"bool", true, .base (.bl _), by decide +kernel, true, rfl, rfl, ?_⟩
  refine wb_cons <| ws_expr <| we_meth (ok_Record_take_in T) (T.c c_Record) (T.m m_Record_take_in) hr <| we_var 0 rfl ⟨p, dx, _, rfl, h1, by kernel_rfl, wa_cons <| we_tup <| wa_cons <| we_str <| wa_cons <| we_var 1 rfl <| wa_cons <| we_var 2 rfl <| wa_nil ⟨by show 3 ≤ sizeLine; decide, fun g H1 hg s1 e1 => wa_nil ⟨_, _, rfl, p, g, R, .jumped tk i, rfl, hRR.mono s1, by omega, rfl, e1, fun H2 b2 r2 => wb_nil (q H2 (But.trans (But.same s1) b2) r2)⟩⟩⟩
def spOnly (K : PySem.W.Frag) : Sp := sp3 fun a b c H Q => ∃ (p : Addr) (R : Rec) (t : Nat) (ds : List Nat), a = .ref p ∧ RecAt K H p R ∧ okRec R ∧ b = .int (t : Nat) ∧ t < R.ticks ∧ c = .str (tx ds) ∧ okDs ds ∧ ∀ es H', es.Perm ds → But p H H' → RecAt K H' p (R.add (.speeds t es)) → Q .non H'
theorem ok_Record_only (T : TX K mg) : FnP P w K mg base d_Record_only 4 ["self", "tick", "speeds"] (spOnly K) [] := by
  refine fn3 (T.d D_Record_only) rfl sc_Record_only bd_Record_only fun cdv A outer s H Q E a b c hr h => ?_
  obtain ⟨p, R, tk, ds, rfl, hRR, ok, rfl, htk, rfl, okd, q⟩ := h
  obtain ⟨f, hR⟩ := id hRR
  obtain ⟨dx, m, t, qs, h1, h2, h3, h4, h5⟩ := hR.ex
  have few := ok.few
  have l10 := okd.le
  have hl3 : (((List.range R.ticks).map fun (i : Nat) => V.int ((i : Nat) : Int)).length : Int) = (R.ticks : Nat) := by rw [List.length_map, List.length_range]
  refine wb_cons <| ws_expr <| we_meth (ok_Record_check_tick T) (T.c c_Record) (T.m m_Record_check_tick) hr <| we_var 0 rfl ⟨p, dx, _, rfl, h1, by kernel_rfl, wa_cons <| we_var 1 rfl <| wa_cons <| we_sub <| we_blt call_len_seq (T.fr f_len) boot_len <| wa_cons <| we_rfld (T := T) (T.n n_Record_own_ticks) h1 rFs_t (we_var 0 rfl ⟨rfl, rfl⟩) <| wa_nil ⟨t, _, rfl, .inr (SqT.of h3), we_int ⟨_, _, rfl, rfl, wa_nil ⟨_, _, _, rfl, _, _, rfl, rfl, by omega, by rw [hl3]; omega, ?_⟩⟩⟩⟩
  refine wb_cons <| ws_guard <| wt_not <| wt_val <| we_call (ok_is_speeds T) (T.g g_is_speeds) hr <| wa_cons <| we_var 2 rfl <| wa_nil ⟨_, rfl, ds, rfl, okd, fun H1 s1 => ⟨true, rfl, rfl, ?_⟩⟩
  refine wb_cons <| ws_expr <| we_meth (ok_Record_take_in T) (T.c c_Record) (T.m m_Record_take_in) hr <| we_var 0 rfl ⟨p, dx, _, rfl, s1 _ _ h1, by kernel_rfl, wa_cons <| we_tup <| wa_cons <| we_str <| wa_cons <| we_var 1 rfl <| wa_cons <| we_join <| we_str ⟨_, rfl, we_blt (cr_sortedTx rfl) (T.fr f_sorted) (by decide +kernel) <| wa_cons <| we_var 2 rfl <| wa_nil ⟨_, rfl, by rw [tx_size]; exact Nat.lt_of_le_of_lt l10 (by decide), fun ns l H2 pm srt hl s2 el => ?_⟩⟩⟩
  rw [signs_tx] at pm
  obtain ⟨es, rfl, pe⟩ := perm_map_inv pm
  refine ⟨l, es.map dg, rfl, SqL.of el, ?_, ?_⟩
  · have e5 : (Str.ofString "").length = 0 := by decide +kernel
    have := pe.length_eq
    rw [sum_dg, e5]
    omega
  rw [join_dg]
  refine wa_nil ⟨by show 3 ≤ sizeLine; decide, fun g H3 hg s3 e3 => wa_nil ⟨_, _, rfl, p, g, R, .speeds tk es, rfl, hRR.mono (Same.trans s1 (Same.trans s2 s3)), by omega, rfl, e3, fun H4 b4 r4 => wb_nil (q es H4 pe (But.trans (But.same (Same.trans s1 (Same.trans s2 s3))) b4) r4)⟩⟩
end
end Cab
/-! text CabR3 -/
set_option Elab.async false
set_option linter.all false
set_option maxRecDepth 100000
set_option maxHeartbeats 2000000
namespace Cab
open PySem PySem.Spec PyProof.Rows L2 He
theorem all_take_succ {α : Type} (f : α → Bool) {l : List α} {i : Nat} {x : α} (h : l[i]? = some x) : (l.take (i + 1)).all f = ((l.take i).all f && f x) := by
  obtain ⟨h1, h2⟩ := List.getElem?_eq_some_iff.mp h
  rw [List.take_succ_eq_append_getElem h1, List.all_append, h2]
  simp
theorem all_false {α : Type} (f : α → Bool) {l : List α} {x : α} (h : x ∈ l) (hf : f x = false) : l.all f = false := by
  cases e : l.all f with
  | false => rfl
  | true =>
    have := List.all_eq_true.mp e x h
    rw [hf] at this
    cases this
theorem dec_natInt (a b : Nat) : decide (V.int ((a : Nat) : Int) = V.int ((b : Nat) : Int)) = decide (a = b) := by
  apply decide_eq_decide.mpr
  constructor
  · intro z
    injection z with z
    omega
  · intro z
    rw [z]
theorem dec_intV (a b : Int) : decide (V.int a = V.int b) = decide (a = b) := by
  apply decide_eq_decide.mpr
  constructor
  · intro z
    injection z
  · intro z
    rw [z]
theorem dec_blV (a b : Bool) : decide (V.bl a = V.bl b) = decide (a = b) := by
  apply decide_eq_decide.mpr
  constructor
  · intro z
    injection z
  · intro z
    rw [z]
theorem at2_0 {a b : V} : atI [a, b] 0 = some a := by kernel_rfl
theorem at2_1 {a b : V} : atI [a, b] 1 = some b := by kernel_rfl
theorem at3_0 {a b c : V} : atI [a, b, c] 0 = some a := by kernel_rfl
theorem at3_1 {a b c : V} : atI [a, b, c] 1 = some b := by kernel_rfl
theorem at3_2 {a b c : V} : atI [a, b, c] 2 = some c := by kernel_rfl
section
variable {P : Program} {w : World} {K : PySem.W.Frag} {mg : Str → Option Value} {base : Heap}
/-- place[i] of a place that a name holds -/
theorem we_pl0 {X : Cx} {e : Expr} {σ : L2.St} {H : Hp} {Q : VK} {q : Addr} {pl : Pl} {k : Nat} {p1 pos : Pos} (h : WE X e σ H fun x H1 => x = .ref q ∧ PlAt H1 q pl ∧ Q (.int pl.1) H1) (hs : PlainIx (.Constant (.int 0) k p1) := by exact fun _ _ => rfl) : WE X (.Subscript e (.Constant (.int 0) k p1) pos) σ H Q :=
  we_ix ix_tup (WE.mono h fun x H1 ⟨e1, e2, q1⟩ => we_int ⟨q, _, 0, _, e1, rfl, SqT.of e2, at2_0, q1⟩) hs
theorem we_pl1 {X : Cx} {e : Expr} {σ : L2.St} {H : Hp} {Q : VK} {q : Addr} {pl : Pl} {k : Nat} {p1 pos : Pos} (h : WE X e σ H fun x H1 => x = .ref q ∧ PlAt H1 q pl ∧ Q (.int pl.2) H1) (hs : PlainIx (.Constant (.int 1) k p1) := by exact fun _ _ => rfl) : WE X (.Subscript e (.Constant (.int 1) k p1) pos) σ H Q :=
  we_ix ix_tup (WE.mono h fun x H1 ⟨e1, e2, q1⟩ => we_int ⟨q, _, 1, _, e1, rfl, SqT.of e2, at2_1, q1⟩) hs
def spAgreesAt (K : PySem.W.Frag) : Sp := sp3 fun a b c H Q => ∃ (p : Addr) (R : Rec) (m : Nat) (z : Addr) (pl : Pl), a = .ref p ∧ RecAt K H p R ∧ okRec R ∧ b = .int (m : Nat) ∧ c = .ref z ∧ PlAt H z pl ∧ 0 ≤ pl.1 ∧ ∀ H', Same H H' → Q (.bl (R.agreesAt m pl)) H'
theorem ok_Record_agrees_at (T : TX K mg) : FnP P w K mg base d_Record_agrees_at 4 ["self", "mark", "place"] (spAgreesAt K) [] := by
  refine fn3 (T.d D_Record_agrees_at) rfl sc_Record_agrees_at bd_Record_agrees_at fun cdv A outer s H Q E a b c hr h => ?_
  obtain ⟨p, R, mk, z, pl, rfl, ⟨f, hR⟩, ok, rfl, rfl, hz, hz0, q⟩ := h
  obtain ⟨dx, m, t, qs, h1, h2, h3, h4, h5⟩ := hR.ex
  obtain ⟨mdx, mn, mt, mu, mv, mps, m1, _⟩ := id h2.ex
  have hlen := paired_len h5
  have hall : ∀ fc ∈ R.facts, fc.okAt R.met mk pl = false → R.agreesAt mk pl = false := fun fc hm hf => all_false _ hm hf
  refine wb_cons <| ws_forW PassesOwn.never rfl (fun _ => rfl) <| wi_tup <| we_rfld (T := T) (T.n n_Record_own_facts) h1 rFs_f (we_var 0 rfl ⟨rfl, rfl⟩) ⟨f, _, rfl, SqT.of h4, _, _, _, walk_tup (xs := qs.map V.ref), fun i σ H' => Same H H' ∧ (R.facts.take i).all (fun f => f.okAt R.met mk pl) = true ∧ ∃ v3 v4 v5, σ = [some (.ref p), some (.int (mk : Nat)), some (.ref z), v3, v4, v5], ⟨fun _ _ e => e, rfl, _, _, _, rfl⟩, fun _ _ _ _ z => Cab.Same.seqT z.1 (SqT.of h4), ?_, ?_⟩
  · rintro i x σ H1 H2 hi ⟨s1, al, v3, v4, v5, rfl⟩ ⟨rfl, hx⟩
    obtain ⟨y, hy, rfl⟩ := map_get hx
    obtain ⟨fc, hfc, hat⟩ := paired_get' h5 hy
    have hat1 := hat.mono s1
    have ea := all_take_succ (fun f => Fact.okAt R.met mk pl f) hfc
    rw [al, Bool.true_and] at ea
    have hmem := List.mem_of_getElem? hfc
    refine wg_tup3 3 4 5 (SqT.of hat1) ?_ rfl sc_Record_agrees_at.nd
    have fin : fc.okAt R.met mk pl = true → Same H H2 ∧ (R.facts.take (i + 1)).all (fun f => f.okAt R.met mk pl) = true ∧ ∃ v3 v4 v5, [some (V.ref p), some (V.int (mk : Nat)), some (V.ref z), some (V.str fc.kind), some (V.int (fc.tick : Nat)), some fc.told] = [some (.ref p), some (.int (mk : Nat)), some (.ref z), v3, v4, v5] := fun e => ⟨s1, by rw [ea, e], _, _, _, rfl⟩
    refine wb_cons <| ws_if <| wt_W <| ww_and <| wt_cmp op_eq <| we_var 4 rfl <| we_var 1 rfl ⟨rfl, _, rfl, ?_⟩
    rw [dec_natInt]
    by_cases ht : fc.tick = mk
    · rw [decide_eq_true ht]
      refine iteT <| ww_and <| wt_cmp op_eq <| we_var 3 rfl <| we_str ⟨rfl, _, rfl, ?_⟩
      cases fc with
      | passed t' w' =>
        refine iteT <| ww_and1 <| wt_cmp op_ne <| we_var 5 rfl <| we_pl1 <| we_var 2 rfl ⟨rfl, s1 _ _ hz, rfl, _, rfl, ?_⟩
        show if (!decide (V.int w' = V.int pl.2)) = true then _ else _
        rw [dec_intV]
        have ht : t' = mk := ht
        by_cases hw : w' = pl.2
        · rw [decide_eq_true hw]
          refine iteF <| wb_nil <| wb_cons <| ws_if <| wt_W <| ww_and <| wt_cmp op_eq <| we_var 4 rfl <| we_var 1 rfl ⟨rfl, _, rfl, ?_⟩
          show if decide (V.int ((t' : Nat) : Int) = V.int ((mk : Nat) : Int)) = true then _ else _
          rw [dec_natInt, decide_eq_true ht]
          refine iteT <| ww_and <| wt_cmp op_eq <| we_var 3 rfl <| we_str ⟨rfl, _, rfl, iteF <| iteF <| wb_nil <| wb_nil <| fin ?_⟩
          show (!(decide (t' = mk)) || decide (w' = pl.2)) = true
          rw [decide_eq_true hw, Bool.or_true]
        · rw [decide_eq_false hw]
          refine iteT <| wb_cons <| ws_ret <| we_bl ?_
          have e := hall _ hmem (by show (!(decide (t' = mk)) || decide (w' = pl.2)) = false; rw [decide_eq_true ht, decide_eq_false hw]; rfl)
          rw [e] at q
          exact q _ s1
      | showed t' w' =>
        have ht : t' = mk := ht
        refine iteF <| iteF <| wb_nil <| wb_cons <| ws_if <| wt_W <| ww_and <| wt_cmp op_eq <| we_var 4 rfl <| we_var 1 rfl ⟨rfl, _, rfl, ?_⟩
        show if decide (V.int ((t' : Nat) : Int) = V.int ((mk : Nat) : Int)) = true then _ else _
        rw [dec_natInt, decide_eq_true ht]
        refine iteT <| ww_and <| wt_cmp op_eq <| we_var 3 rfl <| we_str ⟨rfl, _, rfl, iteT <| ww_and1 <| wt_cmp op_ne <| we_var 5 rfl ?_⟩
        refine we_meth (ok_Meter_price_at T) (T.c c_Meter) (T.m m_Meter_price_at) hr <| we_rfld (T := T) (T.n n_Record_own_meter) (s1 _ _ h1) rFs_m (we_var 0 rfl ⟨rfl, rfl⟩) ⟨m, mdx, _, rfl, s1 _ _ m1, by kernel_rfl, wa_cons <| we_pl0 <| we_var 2 rfl ⟨rfl, s1 _ _ hz, wa_nil ⟨_, _, rfl, m, R.met, pl.1, rfl, h2.mono s1, ok.met, rfl, hz0, fun H3 s3 => ⟨rfl, _, rfl, ?_⟩⟩⟩⟩
        show if (!decide (V.int w' = V.int (R.met.price pl.1))) = true then _ else _
        rw [dec_intV]
        by_cases hw : w' = R.met.price pl.1
        · rw [decide_eq_true hw]
          refine iteF <| wb_nil <| wb_nil ⟨Same.trans s1 s3, ?_, _, _, _, rfl⟩
          rw [ea]
          show (!(decide (t' = mk)) || decide (w' = R.met.price pl.1)) = true
          rw [decide_eq_true hw, Bool.or_true]
        · rw [decide_eq_false hw]
          refine iteT <| wb_cons <| ws_ret <| we_bl ?_
          have e := hall _ hmem (by show (!(decide (t' = mk)) || decide (w' = R.met.price pl.1)) = false; rw [decide_eq_true ht, decide_eq_false hw]; rfl)
          rw [e] at q
          exact q _ (Same.trans s1 s3)
      | jumped t' w' =>
        have ht : t' = mk := ht
        refine iteF <| iteF <| wb_nil <| wb_cons <| ws_if <| wt_W <| ww_and <| wt_cmp op_eq <| we_var 4 rfl <| we_var 1 rfl ⟨rfl, _, rfl, ?_⟩
        show if decide (V.int ((t' : Nat) : Int) = V.int ((mk : Nat) : Int)) = true then _ else _
        rw [dec_natInt, decide_eq_true ht]
        exact iteT <| ww_and <| wt_cmp op_eq <| we_var 3 rfl <| we_str ⟨rfl, _, rfl, iteF <| iteF <| wb_nil <| wb_nil <| fin rfl⟩
      | speeds t' w' =>
        have ht : t' = mk := ht
        refine iteF <| iteF <| wb_nil <| wb_cons <| ws_if <| wt_W <| ww_and <| wt_cmp op_eq <| we_var 4 rfl <| we_var 1 rfl ⟨rfl, _, rfl, ?_⟩
        show if decide (V.int ((t' : Nat) : Int) = V.int ((mk : Nat) : Int)) = true then _ else _
        rw [dec_natInt, decide_eq_true ht]
        exact iteT <| ww_and <| wt_cmp op_eq <| we_var 3 rfl <| we_str ⟨rfl, _, rfl, iteF <| iteF <| wb_nil <| wb_nil <| fin rfl⟩
    · rw [decide_eq_false ht]
      refine iteF <| iteF <| wb_nil <| wb_cons <| ws_if <| wt_W <| ww_and <| wt_cmp op_eq <| we_var 4 rfl <| we_var 1 rfl ⟨rfl, _, rfl, ?_⟩
      rw [dec_natInt, decide_eq_false ht]
      refine iteF <| iteF <| wb_nil <| wb_nil <| fin ?_
      cases fc with
      | passed t' w' =>
        have ht : ¬ t' = mk := ht
        show (!(decide (t' = mk)) || _) = true
        rw [decide_eq_false ht]
        rfl
      | showed t' w' =>
        have ht : ¬ t' = mk := ht
        show (!(decide (t' = mk)) || _) = true
        rw [decide_eq_false ht]
        rfl
      | jumped t' w' => rfl
      | speeds t' w' => rfl
  · rintro σ H1 ⟨s1, al, v3, v4, v5, rfl⟩
    rw [List.length_map, hlen, List.take_length] at al
    have e : R.agreesAt mk pl = true := al
    rw [e] at q
    exact wb_cons <| ws_ret <| we_bl (q H1 s1)
/-! ### agrees_in -/
def jset (tk : Nat) : List Fact → List Bool
  | [] => []
  | .jumped t b :: fs => if t = tk then b :: jset tk fs else jset tk fs
  | _ :: fs => jset tk fs
def isJ (tk : Nat) : Fact → Bool
  | .jumped t _ => decide (t = tk)
  | _ => false
theorem jset_eq (tk : Nat) : ∀ fs : List Fact, ((fs.filter (isJ tk)).map Fact.told) = (jset tk fs).map V.bl
  | [] => rfl
  | .jumped t b :: fs => by
    unfold jset
    by_cases h : t = tk
    · rw [List.filter_cons_of_pos (show isJ tk (.jumped t b) = true from decide_eq_true h), if_pos h, List.map_cons, List.map_cons, jset_eq tk fs]
      rfl
    · rw [List.filter_cons_of_neg (show ¬ isJ tk (.jumped t b) = true from fun z => h (of_decide_eq_true z)), if_neg h, jset_eq tk fs]
  | .passed t b :: fs => by
    rw [List.filter_cons_of_neg (show ¬ isJ tk (.passed t b) = true from fun z => nomatch z)]
    exact jset_eq tk fs
  | .showed t b :: fs => by
    rw [List.filter_cons_of_neg (show ¬ isJ tk (.showed t b) = true from fun z => nomatch z)]
    exact jset_eq tk fs
  | .speeds t b :: fs => by
    rw [List.filter_cons_of_neg (show ¬ isJ tk (.speeds t b) = true from fun z => nomatch z)]
    exact jset_eq tk fs
theorem jset_all (M : Met) (tk : Nat) (c g : Int) : ∀ fs : List Fact, ((jset tk fs).all fun b => decide (b = decide (M.jumpsAt g > M.jumpsAt c))) = fs.all fun f => f.okIn M tk c g
  | [] => rfl
  | .jumped t b :: fs => by
    unfold jset
    rw [List.all_cons, ← jset_all M tk c g fs]
    by_cases h : t = tk
    · rw [if_pos h, List.all_cons]
      show _ = ((!decide (t = tk) || _) && _)
      rw [decide_eq_true h]
      rfl
    · rw [if_neg h]
      show _ = ((!decide (t = tk) || _) && _)
      rw [decide_eq_false h]
      rfl
  | .passed t b :: fs => by
    rw [List.all_cons, ← jset_all M tk c g fs]
    rfl
  | .showed t b :: fs => by
    rw [List.all_cons, ← jset_all M tk c g fs]
    rfl
  | .speeds t b :: fs => by
    rw [List.all_cons, ← jset_all M tk c g fs]
    rfl
theorem jset_len (tk : Nat) : ∀ fs : List Fact, (jset tk fs).length ≤ fs.length
  | [] => Nat.le_refl _
  | .jumped t b :: fs => by
    unfold jset
    have := jset_len tk fs
    split <;> simp <;> omega
  | .passed t b :: fs => Nat.le_succ_of_le (jset_len tk fs)
  | .showed t b :: fs => Nat.le_succ_of_le (jset_len tk fs)
  | .speeds t b :: fs => Nat.le_succ_of_le (jset_len tk fs)
def spAgreesIn (K : PySem.W.Frag) : Sp := sp4 fun a b c d H Q => ∃ (p : Addr) (R : Rec) (t : Nat) (x y : Int), a = .ref p ∧ RecAt K H p R ∧ okRec R ∧ b = .int (t : Nat) ∧ c = .int x ∧ d = .int y ∧ ∀ H', Same H H' → Q (.bl (R.agreesIn t x y)) H'
theorem ok_Record_agrees_in (T : TX K mg) : FnP P w K mg base d_Record_agrees_in 2 ["self", "tick", "count", "goal"] (spAgreesIn K) [] := by
  refine fn4 (T.d D_Record_agrees_in) rfl sc_Record_agrees_in bd_Record_agrees_in fun cdv A outer s H Q E a b c d hr h => ?_
  obtain ⟨p, R, tk, x, y, rfl, ⟨f, hR⟩, ok, rfl, rfl, rfl, q⟩ := h
  obtain ⟨dx, m, t, qs, h1, h2, h3, h4, h5⟩ := hR.ex
  obtain ⟨mdx, mn, mt, mu, mv, mps, m1, _⟩ := id h2.ex
  have hlen := paired_len h5
  have few := ok.few
  refine wb_cons <| ws_set 4 (we_cmp op_gt <| we_meth (ok_Meter_jumps_at T) (T.c c_Meter) (T.m m_Meter_jumps_at) hr <| we_rfld (T := T) (T.n n_Record_own_meter) h1 rFs_m (we_var 0 rfl ⟨rfl, rfl⟩) ⟨m, mdx, _, rfl, m1, by kernel_rfl, wa_cons <| we_var 3 rfl <| wa_nil ⟨_, _, rfl, m, R.met, y, rfl, h2, ok.met, rfl, fun H1 s1 => ?_⟩⟩) sc_Record_agrees_in.nd
  refine we_meth (ok_Meter_jumps_at T) (T.c c_Meter) (T.m m_Meter_jumps_at) hr <| we_rfld (T := T) (T.n n_Record_own_meter) (s1 _ _ h1) rFs_m (we_var 0 rfl ⟨rfl, rfl⟩) ⟨m, mdx, _, rfl, s1 _ _ m1, by kernel_rfl, wa_cons <| we_var 2 rfl <| wa_nil ⟨_, _, rfl, m, R.met, x, rfl, h2.mono s1, ok.met, rfl, fun H2 s2 => ⟨_, _, rfl, rfl, ?_⟩⟩⟩
  have s12 := Same.trans s1 s2
  generalize hj : decide (R.met.jumpsAt y > R.met.jumpsAt x) = jj
  refine wb_cons <| ws_setLc sc_Record_agrees_in 5 [("fact", 6)] <| wi_tup <| we_rfld (T := T) (T.n n_Record_own_facts) (s12 _ _ h1) rFs_f (we_var 0 rfl ⟨rfl, rfl⟩) ⟨f, _, rfl, SqT.of (s12 _ _ h4), ?_⟩
  refine lcFil (fun i => isJ tk (R.facts.getD i (.passed 0 0))) (fun i => (R.facts.getD i (.passed 0 0)).told) (walk_tup (xs := qs.map V.ref)) (fun _ _ _ _ y => y.1) (by rw [List.length_map]; omega) (fun _ s' => Cab.Same.seqT s' (SqT.of (s12 _ _ h4))) ?_ ?_
  · rintro i z H3 hi s3 ⟨_, hx⟩ s0 H0 C cl fp
    obtain ⟨u, hu, rfl⟩ := map_get hx
    obtain ⟨fc, hfc, hat⟩ := paired_get' h5 hu
    have hat3 := hat.mono (Same.trans s12 s3)
    have e3 : R.facts.getD i (.passed 0 0) = fc := by rw [List.getD_eq_getElem?_getD, hfc]; rfl
    rw [e3]
    refine wg_name 6 ⟨rfl, fun s0 H0 C cl fp => ?_⟩ sc_Record_agrees_in.nd
    refine wt_W <| ww_and <| wt_cmp op_eq <| we_ix ix_tup <| we_var 6 rfl <| we_int ⟨u, _, 0, _, rfl, rfl, SqT.of hat3, at3_0, we_str ⟨by rfl, _, rfl, ?_⟩⟩
    cases fc with
    | passed t' w' => exact iteF ⟨rfl, fun _ _ e => e, fun z => nomatch z⟩
    | showed t' w' => exact iteF ⟨rfl, fun _ _ e => e, fun z => nomatch z⟩
    | speeds t' w' => exact iteF ⟨rfl, fun _ _ e => e, fun z => nomatch z⟩
    | jumped t' w' =>
      refine iteT <| ww_and1 <| wt_cmp op_eq <| we_ix ix_tup <| we_var 6 rfl <| we_int ⟨u, _, 1, _, rfl, rfl, SqT.of hat3, at3_1, we_var 1 rfl ⟨rfl, _, rfl, ?_⟩⟩
      rw [dec_natInt]
      exact ⟨rfl, fun _ _ e => e, fun _ s0 H0 C cl fp => we_ix ix_tup <| we_var 6 rfl <| we_int ⟨u, _, 2, _, rfl, rfl, SqT.of hat3, at3_2, rfl, fun _ _ e => e⟩⟩
  intro D H3 hD s3 hDl
  have e4 : ((List.range (qs.map V.ref).length).filter fun i => isJ tk (R.facts.getD i (.passed 0 0))).map (fun i => (R.facts.getD i (.passed 0 0)).told) = (jset tk R.facts).map V.bl := by
    rw [List.length_map, hlen, fil_range_get (isJ tk) Fact.told (.passed 0 0) R.facts, jset_eq]
  rw [e4] at hDl
  refine wb_cons <| ws_ret <| we_blt (cr_all rfl) (T.fr f_all) (by decide +kernel) <| wa_cons ?_
  have jl := jset_len tk R.facts
  refine we_lc sc_Record_agrees_in [("tell", 7)] <| wi_list <| we_var 5 rfl ⟨D, _, rfl, SqL.of hDl, ?_⟩
  refine lcMap (fun i => V.bl (decide ((jset tk R.facts).getD i false = jj))) (walk_list (xs := (jset tk R.facts).map V.bl)) (fun _ _ _ _ y => y.1) (by rw [List.length_map]; omega) (fun _ s' => s'.seq (SqL.of hDl)) ?_ ?_
  · rintro i z H4 hi s4 ⟨_, hx⟩ s0 H0 C cl fp
    obtain ⟨u, hu, rfl⟩ := map_get hx
    have e3 : (jset tk R.facts).getD i false = u := by rw [List.getD_eq_getElem?_getD, hu]; rfl
    rw [e3]
    refine wg_name 7 ⟨rfl, fun s0 H0 C cl fp => ?_⟩ sc_Record_agrees_in.nd
    exact we_cmp op_eq <| we_var 7 rfl <| we_var 4 rfl ⟨rfl, by show V.bl (decide (V.bl u = V.bl (decide (R.met.jumpsAt x < R.met.jumpsAt y)))) = _; rw [show decide (R.met.jumpsAt x < R.met.jumpsAt y) = jj from hj, dec_blV], fun _ _ e => e⟩
  intro D2 H4 hD2 s4 hDl2
  have e5 : (List.range ((jset tk R.facts).map V.bl).length).map (fun i => V.bl (decide ((jset tk R.facts).getD i false = jj))) = ((jset tk R.facts).map fun b => decide (b = jj)).map V.bl := by
    rw [List.length_map, map_range_get (fun b => V.bl (decide (b = jj))) false (jset tk R.facts), List.map_map]
    rfl
  rw [e5] at hDl2
  refine wa_nil ⟨D2, (jset tk R.facts).map fun b => decide (b = jj), rfl, SqL.of hDl2, ?_⟩
  have e6 : ((jset tk R.facts).map fun b => decide (b = jj)).all id = R.agreesIn tk x y := by
    rw [List.all_map]
    have := jset_all R.met tk x y R.facts
    rw [hj] at this
    exact this
  rw [e6]
  exact q H4 (Same.trans s12 (Same.trans s3 s4))
/-! ### steps -/
def StepAt (H : Hp) (t : Addr) (x : Nat × Pl) : Prop := ∃ q, H t = some (.tup [.str (dg x.1), .ref q]) ∧ PlAt H q x.2
theorem StepAt.mono {H H' : Hp} {t : Addr} {x : Nat × Pl} (s : Same H H') (h : StepAt H t x) : StepAt H' t x := let ⟨q, a, b⟩ := h; ⟨q, s _ _ a, s _ _ b⟩
def StepsAt (H : Hp) (l : Addr) (xs : List (Nat × Pl)) : Prop := ∃ ts : List Addr, H l = some (.lst (ts.map V.ref)) ∧ Paired (StepAt H) ts xs
theorem StepsAt.mono {H H' : Hp} {l : Addr} {xs : List (Nat × Pl)} (s : Same H H') (h : StepsAt H l xs) : StepsAt H' l xs := let ⟨ts, a, b⟩ := h; ⟨ts, s _ _ a, Paired.mapP b fun _ _ z => z.mono s⟩
def rdOk (n : Nat) : Bool := decide (PySem.intText? (dg n) = some ((n : Nat) : Int))
theorem rd_all : (List.range 10).all rdOk = true := by decide +kernel
theorem rd_dg {n : Nat} (h : n < 10) : PySem.intText? (dg n) = some ((n : Nat) : Int) := of_decide_eq_true (List.all_eq_true.mp rd_all n (List.mem_range.mpr h))
/-- int(digit) -/
theorem we_intdg {X : Cx} {e : Expr} {σ : L2.St} {H : Hp} {Q : VK} {p pos : Pos} {n : Nat} (hn : n < 10) (hm : X.mg "int" = none) (h : WE X e σ H fun x H1 => x = .str (dg n) ∧ Q (.int (n : Nat)) H1) (hg : Gl X "int" := by rfl) (he : starEach [e] X.env = (false, eval e X.env) :: starEach [] X.env := by rfl) (hpl : (backTo pos (starEach [] X.env)).any (·.1) = false := by rfl) :
    WE X (.Call (.Name "int" p) [e] [] pos) σ H Q :=
  we_ty call_int_str hm (by decide +kernel) (wa_cons (WE.mono h fun x H1 ⟨e, q⟩ => wa_nil ⟨dg n, _, by rw [e], rd_dg hn, by show 1 ≤ 640; decide, q⟩) he) hg he hpl
theorem okMet.countOn0 {M : Met} (ok : okMet M) {c : Int} {n : Nat} (h0 : 0 ≤ c) (hn : n < 10) : 0 ≤ M.countOn c n := by
  have := ok.worth0 (M.jumpsAt c) hn
  unfold Met.countOn
  omega
def spSteps (K : PySem.W.Frag) : Sp := sp3 fun a b c H Q => ∃ (p : Addr) (R : Rec) (t : Nat) (z : Addr) (pl : Pl), a = .ref p ∧ RecAt K H p R ∧ okRec R ∧ b = .int (t : Nat) ∧ t < R.ticks ∧ c = .ref z ∧ PlAt H z pl ∧ 0 ≤ pl.1 ∧ ∀ l H', Same H H' → H l = none → StepsAt H' l (R.steps t pl) → Q (.ref l) H'
theorem ok_Record_steps_from (T : TX K mg) : FnP P w K mg base d_Record_steps_from 7 ["self", "tick", "place"] (spSteps K) [] := by
  refine fn3 (T.d D_Record_steps_from) rfl sc_Record_steps_from bd_Record_steps_from fun cdv A outer s H Q E a b c hr h => ?_
  obtain ⟨p, R, tk, z, pl, rfl, hRR, ok, rfl, htk, rfl, hz, hz0, q⟩ := h
  obtain ⟨f, hR⟩ := id hRR
  obtain ⟨dx, m, t, qs, h1, h2, h3, h4, h5⟩ := hR.ex
  obtain ⟨mdx, mn, mt, mu, mv, mps, m1, _⟩ := id h2.ex
  have top9 := ok.top
  refine wb_cons <| ws_set 3 (we_lst <| wa_nil ⟨Nat.zero_le _, fun L H1 hL s1 eL => ?_⟩) sc_Record_steps_from.nd
  refine wb_cons <| ws_forW PassesOwn.never rfl (fun _ => rfl) <| wi_str <| we_getitem (ok_Record_getitem T) (T.m m_Record_getitem) (T.x gi_Record) hr <| we_var 0 rfl ⟨p, dx, _, rfl, we_var 1 rfl ⟨s1 _ _ h1, _, _, rfl, p, R, tk, rfl, hRR.mono s1, ok, rfl, htk, fun H2 s2 => ⟨_, rfl, ?_⟩⟩⟩
  have hlt := Rec.left_lt top9 tk
  have hll := Rec.left_len R tk
  have esz : (tx (R.left tk)).cps.size = (R.left tk).length := tx_size _
  refine ⟨_, _, _, walk_str, fun i σ H' => (∀ b o, H b = some o → H' b = some o) ∧ (∃ ts : List Addr, H' L = some (.lst (ts.map V.ref)) ∧ Paired (StepAt H') ts ((((R.left tk).take i).filter fun d => R.goes tk pl d).map fun d => (d, R.met.next pl d))) ∧ ∃ v4 v5, σ = [some (.ref p), some (.int (tk : Nat)), some (.ref z), some (.ref L), v4, v5], ⟨Same.trans s1 s2, ⟨[], s2 _ _ eL, .nil⟩, _, _, rfl⟩, fun _ _ _ _ _ => trivial, ?_, ?_⟩
  · rintro i x σ H3 H4 hi ⟨s3, ⟨ts, hl, hp⟩, v4, v5, rfl⟩ ⟨rfl, c, hc, rfl⟩
    obtain ⟨n, hn, ec, ed⟩ := text_at _ hi hc
    have n10 := hlt n (List.mem_of_getElem? hn)
    rw [ed]
    refine wg_name 4 ?_ sc_Record_steps_from.nd
    have tl : ts.length ≤ 10 := by
      have := paired_len hp
      rw [List.length_map] at this
      have h1 := List.length_filter_le (fun d => R.goes tk pl d) ((R.left tk).take i)
      have h2 := List.length_take_le i (R.left tk)
      omega
    -- goal = (.., ..)
    refine wb_cons <| ws_set 5 (we_tup <| wa_cons <| we_meth (ok_Meter_count_on T) (T.c c_Meter) (T.m m_Meter_count_on) hr <| we_rfld (T := T) (T.n n_Record_own_meter) (s3 _ _ h1) rFs_m (we_var 0 rfl ⟨rfl, rfl⟩) ⟨m, mdx, _, rfl, s3 _ _ m1, by kernel_rfl, wa_cons <| we_pl0 <| we_var 2 rfl ⟨rfl, s3 _ _ hz, wa_cons <| we_intdg n10 (T.fr f_int) <| we_var 4 rfl ⟨rfl, wa_nil ⟨_, _, _, rfl, m, R.met, pl.1, n, rfl, h2.mono s3, ok.met, rfl, rfl, n10, fun H5 s5 => ?_⟩⟩⟩⟩) sc_Record_steps_from.nd
    have s35 : Same H H5 := Same.trans s3 s5
    refine wa_cons <| we_add <| we_pl1 <| we_var 2 rfl ⟨rfl, s35 _ _ hz, we_intdg n10 (T.fr f_int) <| we_var 4 rfl ⟨rfl, _, _, rfl, rfl, wa_nil ⟨by show 2 ≤ sizeLine; decide, fun g H6 hg s6 e6 => ?_⟩⟩⟩
    have s36 : Same H H6 := Same.trans s35 s6
    have eg : PlAt H6 g (R.met.next pl n) := e6
    have c0 : 0 ≤ (R.met.next pl n).1 := ok.met.countOn0 hz0 n10
    refine wb_cons <| ws_if <| wt_W <| ww_and <| wt_val <| we_meth (ok_Record_agrees_in T) (T.c c_Record) (T.m m_Record_agrees_in) hr <| we_var 0 rfl ⟨p, dx, _, rfl, s36 _ _ h1, by kernel_rfl, wa_cons <| we_var 1 rfl <| wa_cons <| we_pl0 <| we_var 2 rfl ⟨rfl, s36 _ _ hz, wa_cons <| we_pl0 <| we_var 5 rfl ⟨rfl, eg, wa_nil ⟨_, _, _, _, rfl, p, R, tk, pl.1, (R.met.next pl n).1, rfl, hRR.mono s36, ok, rfl, rfl, rfl, fun H7 s7 => ⟨_, rfl, ?_⟩⟩⟩⟩⟩
    have s37 : Same H H7 := Same.trans s36 s7
    have ef : ((((R.left tk).take (i + 1)).filter fun d => R.goes tk pl d).map fun d => (d, R.met.next pl d)) = ((((R.left tk).take i).filter fun d => R.goes tk pl d).map fun d => (d, R.met.next pl d)) ++ (if R.goes tk pl n = true then [(n, R.met.next pl n)] else []) := by
      obtain ⟨k1, k2⟩ := List.getElem?_eq_some_iff.mp hn
      rw [List.take_succ_eq_append_getElem k1, List.filter_append, List.map_append, k2]
      congr 1
      by_cases hg : R.goes tk pl n = true
      · rw [if_pos hg, List.filter_cons_of_pos hg]
        rfl
      · rw [if_neg hg, List.filter_cons_of_neg hg]
        rfl
    have skip : ∀ H', Same H4 H' → R.goes tk pl n = false → (∀ b o, H b = some o → H' b = some o) ∧ (∃ ts : List Addr, H' L = some (.lst (ts.map V.ref)) ∧ Paired (StepAt H') ts ((((R.left tk).take (i + 1)).filter fun d => R.goes tk pl d).map fun d => (d, R.met.next pl d))) ∧ ∃ v4 v5, [some (V.ref p), some (V.int (tk : Nat)), some (V.ref z), some (V.ref L), some (V.str (dg n)), some (V.ref g)] = [some (.ref p), some (.int (tk : Nat)), some (.ref z), some (.ref L), v4, v5] := fun H' s' e => ⟨Same.trans s3 s', ⟨ts, s' _ _ hl, by
      rw [ef, e, if_neg Bool.false_ne_true, List.append_nil]
      exact Paired.mapP hp fun _ _ y => y.mono s'⟩, _, _, rfl⟩
    have s47 : Same H4 H7 := Same.trans s5 (Same.trans s6 s7)
    cases hin : R.agreesIn tk pl.1 (R.met.next pl n).1 with
    | false =>
      refine iteF <| iteF <| wb_nil <| wb_nil <| skip H7 s47 ?_
      unfold Rec.goes
      rw [hin]
      rfl
    | true =>
      refine iteT <| ww_and1 <| wt_val <| we_meth (ok_Record_agrees_at T) (T.c c_Record) (T.m m_Record_agrees_at) hr <| we_var 0 rfl ⟨p, dx, _, rfl, s37 _ _ h1, by kernel_rfl, wa_cons <| we_add <| we_var 1 rfl <| we_int ⟨_, _, rfl, rfl, wa_cons <| we_var 5 rfl <| wa_nil ⟨_, _, _, rfl, p, R, tk + 1, g, R.met.next pl n, rfl, hRR.mono s37, ok, by rfl, rfl, s7 _ _ eg, c0, fun H8 s8 => ⟨_, rfl, ?_⟩⟩⟩⟩
      have s48 : Same H4 H8 := Same.trans s47 s8
      have eg8 : PlAt H8 g (R.met.next pl n) := s8 _ _ (s7 _ _ eg)
      cases hat : R.agreesAt (tk + 1) (R.met.next pl n) with
      | false =>
        refine iteF <| wb_nil <| wb_nil <| skip H8 s48 ?_
        unfold Rec.goes
        rw [hat, Bool.and_false]
      | true =>
        have hgo : R.goes tk pl n = true := by
          unfold Rec.goes
          rw [hat, hin]
          rfl
        refine iteT <| wb_cons <| ws_append <| we_var 3 rfl ⟨L, rfl, ⟨_, s48 _ _ hl⟩, we_tup <| wa_cons <| we_var 4 rfl <| wa_cons <| we_var 5 rfl <| wa_nil ⟨by show 2 ≤ sizeLine; decide, fun u H9 hu s9 e9 => ⟨ts.map V.ref, s9 _ _ (s48 _ _ hl), sz_lt (by rw [List.length_map]; omega), fun H10 b10 e10 => ?_⟩⟩⟩
        have hL9 := s9 _ _ (s48 _ _ hl)
        refine wb_nil <| wb_nil ⟨?_, ⟨ts ++ [u], by rw [List.map_append]; exact e10, ?_⟩, _, _, rfl⟩
        · intro b o e
          exact b10 _ _ (s9 _ _ (s48 _ _ (s3 _ _ e))) (ne_of_none e hL)
        · rw [ef, if_pos hgo]
          have keep : ∀ y v, StepAt H9 y v → StepAt H10 y v := fun y v ⟨q, a, b⟩ => ⟨q, b10 _ _ a (ne_of a hL9 (by intro z; cases z)), b10 _ _ b (ne_of b hL9 (by intro z; cases z))⟩
          refine paired_snoc (Paired.mapP hp fun y v h => keep y v (h.mono (Same.trans s48 s9))) (keep u _ ⟨g, e9, s9 _ _ eg8⟩)
  · rintro σ H3 ⟨s3, ⟨ts, hl, hp⟩, v4, v5, rfl⟩
    rw [esz, List.take_length] at hp
    exact wb_cons <| ws_ret <| we_var 3 rfl <| q L H3 s3 hL ⟨ts, hl, hp⟩
end
end Cab
/-! text CabM2 -/
set_option Elab.async false
set_option linter.all false
set_option maxRecDepth 100000
set_option maxHeartbeats 2000000
/-! the mirror of a record's dicts -/
namespace Cab
open PySem PySem.Spec PyProof.Rows L2 He
section
variable {α : Type}
theorem any_key {D : List (Pl × α)} {k : Pl} : (D.any fun e => decide (e.1 = k)) = true ↔ k ∈ D.map (·.1) := by
  rw [List.any_eq_true, List.mem_map]
  constructor
  · rintro ⟨e, he, h⟩
    exact ⟨e, he, of_decide_eq_true h⟩
  · rintro ⟨e, he, h⟩
    exact ⟨e, he, decide_eq_true h⟩
theorem putD_old {D : List (Pl × α)} {k : Pl} {v : α} (h : k ∈ D.map (·.1)) : putD D k v = D.map (fun e => if e.1 = k then (e.1, v) else e) := by
  unfold putD
  rw [if_pos (any_key.mpr h)]
theorem keys_old (D : List (Pl × α)) (k : Pl) (v : α) : (D.map (fun e => if e.1 = k then (e.1, v) else e)).map (·.1) = D.map (·.1) := by
  rw [List.map_map]
  apply List.map_congr_left
  intro e _
  simp only [Function.comp]
  split <;> rfl
theorem putD_keys (D : List (Pl × α)) (k : Pl) (v : α) : (putD D k v).map (·.1) = if k ∈ D.map (·.1) then D.map (·.1) else D.map (·.1) ++ [k] := by
  by_cases h : k ∈ D.map (·.1)
  · rw [putD_old h, keys_old, if_pos h]
  · rw [putD_new h, if_neg h, List.map_append]
    rfl
theorem putD_nodup {D : List (Pl × α)} (k : Pl) (v : α) (h : (D.map (·.1)).Nodup) : ((putD D k v).map (·.1)).Nodup := by
  rw [putD_keys]
  split
  · exact h
  · rename_i hn
    exact List.nodup_append.mpr ⟨h, by simp, fun a ha b hb => by
      rw [List.mem_singleton.mp hb]
      intro e
      exact hn (e ▸ ha)⟩
theorem putD_key_mem {D : List (Pl × α)} {k x : Pl} {v : α} : x ∈ (putD D k v).map (·.1) ↔ x ∈ D.map (·.1) ∨ x = k := by
  rw [putD_keys]
  split
  · rename_i h
    exact ⟨.inl, fun z => z.elim id fun e => e ▸ h⟩
  · rw [List.mem_append, List.mem_singleton]
theorem getD?_cons {D : List (Pl × α)} {e : Pl × α} {k : Pl} : getD? (e :: D) k = if e.1 = k then some e.2 else getD? D k := by
  unfold getD?
  rw [List.find?_cons]
  by_cases h : e.1 = k
  · rw [if_pos h, decide_eq_true h]
    rfl
  · rw [if_neg h, decide_eq_false h]
theorem getD?_mem {D : List (Pl × α)} {k : Pl} {v : α} (hn : (D.map (·.1)).Nodup) (h : (k, v) ∈ D) : getD? D k = some v := by
  induction D with
  | nil => cases h
  | cons e D ih =>
    rw [getD?_cons]
    obtain ⟨h1, h2⟩ := List.nodup_cons.mp hn
    rcases List.mem_cons.mp h with z | z
    · rw [← z, if_pos rfl]
    · have ne : ¬ e.1 = k := fun q => h1 (List.mem_map.mpr ⟨_, z, q.symm⟩)
      rw [if_neg ne]
      exact ih h2 z
theorem getD?_old (D : List (Pl × α)) (k j : Pl) (v : α) : getD? (D.map (fun e => if e.1 = k then (e.1, v) else e)) j = (getD? D j).map fun x => if j = k then v else x := by
  induction D with
  | nil => rfl
  | cons e D ih =>
    rw [List.map_cons, getD?_cons, getD?_cons, ih]
    by_cases h : e.1 = k
    · rw [if_pos h]
      by_cases h2 : e.1 = j
      · rw [if_pos (show (e.1, v).1 = j from h2), if_pos h2]
        show some v = some (if j = k then v else e.2)
        rw [if_pos (h2 ▸ h)]
      · rw [if_neg (show ¬ (e.1, v).1 = j from h2), if_neg h2]
    · rw [if_neg h]
      by_cases h2 : e.1 = j
      · rw [if_pos h2, if_pos h2]
        show some e.2 = some (if j = k then v else e.2)
        rw [if_neg (fun z => h (h2.trans z))]
      · rw [if_neg h2, if_neg h2]
theorem getD?_app {D : List (Pl × α)} {k j : Pl} {v : α} : getD? (D ++ [(k, v)]) j = (getD? D j).orElse fun _ => if k = j then some v else none := by
  induction D with
  | nil =>
    show getD? [(k, v)] j = _
    rw [getD?_cons]
    rfl
  | cons e D ih =>
    rw [List.cons_append, getD?_cons, getD?_cons, ih]
    split <;> rfl
theorem getD?_some {D : List (Pl × α)} {k : Pl} : (getD? D k).isSome = true ↔ k ∈ D.map (·.1) := by
  induction D with
  | nil => simp [getD?]
  | cons e D ih =>
    rw [getD?_cons, List.map_cons, List.mem_cons, ← ih]
    by_cases h : e.1 = k
    · rw [if_pos h]
      simp [h]
    · rw [if_neg h]
      exact ⟨.inr, fun z => z.elim (fun q => absurd q.symm h) id⟩
theorem getD?_put (D : List (Pl × α)) (k j : Pl) (v : α) : getD? (putD D k v) j = if j = k then some v else getD? D j := by
  by_cases h : k ∈ D.map (·.1)
  · rw [putD_old h, getD?_old]
    by_cases e : j = k
    · rw [if_pos e]
      have : (getD? D j).isSome = true := getD?_some.mpr (e ▸ h)
      obtain ⟨x, hx⟩ := Option.isSome_iff_exists.mp this
      rw [hx]
      show some (if j = k then v else x) = _
      rw [if_pos e]
    · rw [if_neg e]
      cases getD? D j with
      | none => rfl
      | some x =>
        show some (if j = k then v else x) = _
        rw [if_neg e]
  · rw [putD_new h, getD?_app]
    by_cases e : j = k
    · subst e
      rw [getD?_none h, if_pos rfl]
      rfl
    · rw [if_neg e, if_neg (fun z => e z.symm)]
      cases getD? D j <;> rfl
end
/-! ### counted ahead -/
def addAll (k : Int) (now : List (Pl × Int)) (ss : List (Nat × Pl)) : List (Pl × Int) := ss.foldl (fun now s => putD now s.2 ((getD? now s.2).getD 0 + k)) now
def Rec.aheadStep (R : Rec) (t : Nat) (D : List (Pl × Int)) : List (Pl × Int) := D.foldl (fun now e => addAll e.2 now (R.steps t e.1)) []
def Rec.aheadD (R : Rec) : Nat → List (Pl × Int)
  | 0 => R.begins.map fun p => (p, 1)
  | t + 1 => R.aheadStep t (R.aheadD t)
theorem addAll_len (k : Int) : ∀ (ss : List (Nat × Pl)) (now : List (Pl × Int)), (addAll k now ss).length ≤ now.length + ss.length
  | [], _ => Nat.le_refl _
  | s :: ss, now => by
    show (addAll k (putD now s.2 _) ss).length ≤ _
    have h1 := addAll_len k ss (putD now s.2 ((getD? now s.2).getD 0 + k))
    have h2 := putD_len now s.2 ((getD? now s.2).getD 0 + k)
    rw [List.length_cons]
    omega
theorem addAll_nodup (k : Int) : ∀ (ss : List (Nat × Pl)) (now : List (Pl × Int)), (now.map (·.1)).Nodup → ((addAll k now ss).map (·.1)).Nodup
  | [], _, h => h
  | s :: ss, now, h => addAll_nodup k ss _ (putD_nodup _ _ h)
theorem addAll_mem (k : Int) {x : Pl} : ∀ (ss : List (Nat × Pl)) (now : List (Pl × Int)), x ∈ (addAll k now ss).map (·.1) ↔ x ∈ now.map (·.1) ∨ x ∈ ss.map (·.2)
  | [], now => by simp [addAll]
  | s :: ss, now => by
    show x ∈ (addAll k (putD now s.2 _) ss).map (·.1) ↔ _
    rw [addAll_mem k ss, putD_key_mem, List.map_cons, List.mem_cons, or_assoc]
theorem fold_len (R : Rec) (t : Nat) : ∀ (D now : List (Pl × Int)), (D.foldl (fun now e => addAll e.2 now (R.steps t e.1)) now).length ≤ now.length + D.length * (R.top + 1)
  | [], now => by simp
  | e :: D, now => by
    rw [List.foldl_cons, List.length_cons]
    have h1 := fold_len R t D (addAll e.2 now (R.steps t e.1))
    have h2 := addAll_len e.2 (R.steps t e.1) now
    have h3 := R.steps_len t e.1
    rw [Nat.succ_mul]
    omega
theorem fold_nodup (R : Rec) (t : Nat) : ∀ (D now : List (Pl × Int)), (now.map (·.1)).Nodup → ((D.foldl (fun now e => addAll e.2 now (R.steps t e.1)) now).map (·.1)).Nodup
  | [], _, h => h
  | e :: D, now, h => fold_nodup R t D _ (addAll_nodup _ _ _ h)
theorem fold_mem (R : Rec) (t : Nat) {x : Pl} : ∀ (D now : List (Pl × Int)), x ∈ (D.foldl (fun now e => addAll e.2 now (R.steps t e.1)) now).map (·.1) ↔ x ∈ now.map (·.1) ∨ ∃ e ∈ D, x ∈ (R.steps t e.1).map (·.2)
  | [], now => by simp
  | e :: D, now => by
    rw [List.foldl_cons, fold_mem R t D, addAll_mem]
    simp only [List.mem_cons, exists_eq_or_imp, or_assoc]
theorem Rec.begins_len (R : Rec) : R.begins.length ≤ 1 := by
  unfold Rec.begins
  split <;> simp
theorem aheadD_nodup (R : Rec) : ∀ t, ((R.aheadD t).map (·.1)).Nodup
  | 0 => by
    show ((R.begins.map fun p => (p, (1 : Int))).map (·.1)).Nodup
    rw [List.map_map]
    have : R.begins = [] ∨ R.begins = [(0, 0)] := by
      unfold Rec.begins
      split
      · exact .inr rfl
      · exact .inl rfl
    rcases this with h | h <;> rw [h] <;> simp
  | t + 1 => fold_nodup R t _ _ (by simp)
theorem aheadD_len (R : Rec) : ∀ t, (R.aheadD t).length ≤ (R.top + 1) ^ t
  | 0 => by
    show (R.begins.map _).length ≤ _
    rw [List.length_map]
    simpa using R.begins_len
  | t + 1 => by
    have h1 := fold_len R t (R.aheadD t) []
    have h2 := aheadD_len R t
    have h3 : (R.aheadD t).length * (R.top + 1) ≤ (R.top + 1) ^ t * (R.top + 1) := Nat.mul_le_mul_right _ h2
    rw [← Nat.pow_succ] at h3
    show (R.aheadStep t (R.aheadD t)).length ≤ _
    unfold Rec.aheadStep
    simp only [List.length_nil, Nat.zero_add] at h1
    exact Nat.le_trans h1 h3
theorem okRec.aheadD_le {R : Rec} (ok : okRec R) {t : Nat} (h : t ≤ R.ticks) : (R.aheadD t).length ≤ 6561 := Nat.le_trans (aheadD_len R t) (Nat.le_trans (Nat.pow_le_pow_right (by omega) h) ok.sz)
theorem steps_snd {R : Rec} {t : Nat} {p x : Pl} (h : x ∈ (R.steps t p).map (·.2)) : ∃ d, d ∈ R.left t ∧ x = R.met.next p d := by
  obtain ⟨s, hs, e⟩ := List.mem_map.mp h
  unfold Rec.steps at hs
  obtain ⟨d, hd, e2⟩ := List.mem_map.mp hs
  exact ⟨d, (List.mem_filter.mp hd).1, by rw [← e, ← e2]⟩
theorem okRec.ahead0 {R : Rec} (ok : okRec R) : ∀ t, ∀ x ∈ (R.aheadD t).map (·.1), 0 ≤ x.1
  | 0, x, h => by
    obtain ⟨e, he, q⟩ := List.mem_map.mp h
    obtain ⟨p, hp, e2⟩ := List.mem_map.mp (show e ∈ R.begins.map _ from he)
    unfold Rec.begins at hp
    split at hp
    · rw [← q, ← e2, List.mem_singleton.mp hp]
      exact Int.le_refl _
    · cases hp
  | t + 1, x, h => by
    rcases (fold_mem R t (R.aheadD t) []).mp h with z | ⟨e, he, z⟩
    · cases z
    · obtain ⟨d, hd, rfl⟩ := steps_snd z
      exact ok.met.countOn0 (okRec.ahead0 ok t e.1 (List.mem_map.mpr ⟨e, he, rfl⟩)) (Rec.left_lt ok.top t d hd)
end Cab
/-! text CabR4 -/
set_option Elab.async false
set_option linter.all false
set_option maxRecDepth 100000
set_option maxHeartbeats 4000000
namespace Cab
open PySem PySem.Spec PyProof.Rows L2 He
theorem RecAtF.but {K : PySem.W.Frag} {q p f : Addr} {R : Rec} {H H' : Hp} {o' : HO} (b : But q H H') (hq : H q = some o') (no : ¬ TI o') (h : RecAtF K H p f R) : RecAtF K H' p f R := by
  obtain ⟨dx, m, t, qs, h1, h2, h3, h4, h5⟩ := h.ex
  exact ⟨dx, m, t, qs, b.ti hq no h1 trivial, h2.but b hq no, b.ti hq no h3 trivial, b.ti hq no h4 trivial, Paired.mapP h5 fun _ _ z => b.ti hq no z trivial⟩
theorem RecAt.but {K : PySem.W.Frag} {q p : Addr} {R : Rec} {H H' : Hp} {o' : HO} (b : But q H H') (hq : H q = some o') (no : ¬ TI o') (h : RecAt K H p R) : RecAt K H' p R := let ⟨f, h⟩ := h; ⟨f, h.but b hq no⟩
theorem StepAt.but {q t : Addr} {x : Nat × Pl} {H H' : Hp} {o' : HO} (b : But q H H') (hq : H q = some o') (no : ¬ TI o') (h : StepAt H t x) : StepAt H' t x := let ⟨g, a, e⟩ := h; ⟨g, b.ti hq no a trivial, b.ti hq no e trivial⟩
theorem PlAt.but {q g : Addr} {x : Pl} {H H' : Hp} {o' : HO} (b : But q H H') (hq : H q = some o') (no : ¬ TI o') (h : PlAt H g x) : PlAt H' g x := b.ti hq no h trivial
def PlsAt (H : Hp) (l : Addr) (ps : List Pl) : Prop := ∃ qs : List Addr, H l = some (.lst (qs.map V.ref)) ∧ Paired (PlAt H) qs ps
/-- the dicts of a list -/
def DictsAt {α : Type} (f : α → V) (H : Hp) (l : Addr) (Ds : List (List (Pl × α))) : Prop := ∃ ds : List Addr, H l = some (.lst (ds.map V.ref)) ∧ Paired (DictAt f H) ds Ds
theorem DictsAt.mono {α : Type} {f : α → V} {H H' : Hp} {l : Addr} {Ds : List (List (Pl × α))} (s : Same H H') (h : DictsAt f H l Ds) : DictsAt f H' l Ds := let ⟨ds, a, b⟩ := h; ⟨ds, s _ _ a, Paired.mapP b fun _ _ z => s _ _ z⟩
theorem DGet.tf {H : Hp} {a b : Addr} {o : Obj} {kvs : List (List Key × V)} {k : List Key} (e : H a = some (.frz o (.dT kvs))) (eb : H b = some (.tup (k.map kV))) : DGet H a (.ref b) (valV kvs k) := .inr ⟨kvs, k, b, .inr ⟨o, e⟩, rfl, eb, rfl⟩
/-- d.get(k, x) -/
theorem we_dget2 {X : Cx} {o e f : Expr} {σ : L2.St} {H : Hp} {Q : VK} {apos cpos : Pos} {j : Nat} (hr : Room j X.A) (h : WE X o σ H fun x H1 => ∃ a, x = .ref a ∧ IsD H1 a ∧ WE X e σ H1 fun y H2 => WE X f σ H2 fun z H3 => ∃ r, DGet H3 a y r ∧ Q (r.getD z) H3) (m : M2 X o "get" apos e f cpos := by exact ⟨rfl, rfl, rfl, rfl⟩) :
    WE X (.Call (.Attribute o "get" apos) [e, f] [] cpos) σ H Q := wE (pe_dget2 (hu_of hr) pE pE pE m) h
section
variable {P : Program} {w : World} {K : PySem.W.Frag} {mg : Str → Option Value} {base : Heap}
def spBegins (K : PySem.W.Frag) : Sp := sp1 fun a H Q => ∃ (p : Addr) (R : Rec), a = .ref p ∧ RecAt K H p R ∧ okRec R ∧ ∀ l H', Same H H' → PlsAt H' l R.begins → Q (.ref l) H'
theorem ok_Record_begins (T : TX K mg) : FnP P w K mg base d_Record_begins 5 ["self"] (spBegins K) [] := by
  refine fn1 (T.d D_Record_begins) rfl sc_Record_begins bd_Record_begins fun cdv A outer s H Q E a hr h => ?_
  obtain ⟨p, R, rfl, hRR, ok, q⟩ := h
  obtain ⟨f, hR⟩ := id hRR
  obtain ⟨dx, m, t, qs, h1, h2, h3, h4, h5⟩ := hR.ex
  refine wb_cons <| ws_ret <| we_ifExp <| wt_val <| we_meth (ok_Record_agrees_at T) (T.c c_Record) (T.m m_Record_agrees_at) hr <| we_var 0 rfl ⟨p, dx, _, rfl, h1, by kernel_rfl, wa_cons <| we_int <| wa_cons <| we_tup <| wa_cons <| we_int <| wa_cons <| we_int <| wa_nil ⟨by show 2 ≤ sizeLine; decide, fun g H1 hg s1 e1 => wa_nil ⟨_, _, _, rfl, p, R, 0, g, (0, 0), rfl, hRR.mono s1, ok, rfl, rfl, e1, Int.le_refl _, fun H2 s2 => ⟨_, rfl, ?_⟩⟩⟩⟩
  have s12 := Same.trans s1 s2
  cases hb : R.agreesAt 0 (0, 0) with
  | true =>
    have e : R.begins = [(0, 0)] := by unfold Rec.begins; rw [if_pos hb]
    rw [e] at q
    exact iteT <| we_lst <| wa_cons <| we_tup <| wa_cons <| we_int <| wa_cons <| we_int <| wa_nil ⟨by show 2 ≤ sizeLine; decide, fun u H3 hu s3 e3 => wa_nil ⟨by show 1 ≤ sizeLine; decide, fun l H4 hl s4 e4 => q l H4 (Same.trans s12 (Same.trans s3 s4)) ⟨[u], e4, .cons (s4 _ _ e3) .nil⟩⟩⟩
  | false =>
    have e : R.begins = [] := by unfold Rec.begins; rw [if_neg (by rw [hb]; exact Bool.false_ne_true)]
    rw [e] at q
    exact iteF <| we_lst <| wa_nil ⟨Nat.zero_le _, fun l H4 hl s4 e4 => q l H4 (Same.trans s12 s4) ⟨[], e4, .nil⟩⟩
theorem paired_last {α β : Type} {F : α → β → Prop} : ∀ {m : List β} {l : List α} {b : β}, Paired F l (m ++ [b]) → ∃ l0 a, l = l0 ++ [a] ∧ Paired F l0 m ∧ F a b
  | [], l, b, h => by
    cases h with
    | cons r t =>
      cases t
      exact ⟨[], _, rfl, .nil, r⟩
  | c :: m, l, b, h => by
    cases h with
    | cons r t =>
      obtain ⟨l0, a, e, h1, h2⟩ := paired_last t
      exact ⟨_ :: l0, a, by rw [e]; rfl, .cons r h1, h2⟩
theorem range_map_last {α : Type} (g : Nat → α) (i : Nat) : (List.range (i + 1)).map g = (List.range i).map g ++ [g i] := (range_map_succ g i).symm
theorem opt_int (o : Option Int) (a : Int) : (o.map V.int).getD (.int a) = .int (o.getD a) := by cases o <;> rfl
/-- what a locked dict's loop keeps, told at its end -/
theorem same_locked {nw d : Addr} {H5 H6 Hf H' H'' : Hp} {kvs : List (List Key × V)} (n : H5 nw = none) (s6 : Same H5 H6) (hd : H6 d = some (.dT kvs)) (bf : But d H6 Hf) (b : But nw Hf H') (b2 : But d H' H'') (e2 : H'' d = some (.dT kvs)) : Same H5 H'' := by
  intro c o e
  have e6 := s6 _ _ e
  by_cases hc : c = d
  · subst hc
    rw [hd] at e6
    rw [← e6]
    exact e2
  · exact b2 _ _ (b _ _ (bf _ _ e6 hc) (ne_of_none e n)) hc
/-- the dict of the begins: {place: v for place in l} -/
theorem begins_pls {R : Rec} {H : Hp} {l : Addr} (h : PlsAt H l R.begins) : (R.begins = [] ∧ H l = some (.lst [])) ∨ (R.begins = [(0, 0)] ∧ ∃ z, H l = some (.lst [.ref z]) ∧ PlAt H z (0, 0)) := by
  obtain ⟨qs, e, pr⟩ := h
  have : R.begins = [] ∨ R.begins = [(0, 0)] := by
    unfold Rec.begins
    split
    · exact .inr rfl
    · exact .inl rfl
  rcases this with h | h
  · rw [h] at pr
    cases pr
    exact .inl ⟨h, e⟩
  · rw [h] at pr
    cases pr with
    | cons r t =>
      cases t
      exact .inr ⟨h, _, e, r⟩
def spAhead (K : PySem.W.Frag) : Sp := sp1 fun a H Q => ∃ (p : Addr) (R : Rec), a = .ref p ∧ RecAt K H p R ∧ okRec R ∧ ∀ l H', Same H H' → DictsAt V.int H' l ((List.range (R.ticks + 1)).map R.aheadD) → Q (.ref l) H'
theorem ok_Record_numbers_ahead (T : TX K mg) : FnP P w K mg base d_Record_numbers_ahead 8 ["self"] (spAhead K) [] := by
  refine fn1 (T.d D_Record_numbers_ahead) rfl sc_Record_numbers_ahead bd_Record_numbers_ahead fun cdv A outer s H Q E a hr h => ?_
  obtain ⟨p, R, rfl, hRR, ok, q⟩ := h
  obtain ⟨f, hR⟩ := id hRR
  obtain ⟨dx, m, t, qs, h1, h2, h3, h4, h5⟩ := hR.ex
  have top9 := ok.top
  have t8 := ok.t
  refine wb_cons <| ws_set 1 (we_lst <| wa_cons <| we_dc hr sc_Record_numbers_ahead [("place", 4)] <| wi_list <| we_meth0 (ok_Record_begins T) (T.c c_Record) (T.m m_Record_begins) hr <| we_var 0 rfl ⟨p, dx, _, rfl, h1, by kernel_rfl, _, rfl, p, R, rfl, hRR, ok, fun l H1 s1 hl => ?_⟩) sc_Record_numbers_ahead.nd
  -- the first dict
  have bl := R.begins_len
  have hbp : ∃ qs : List Addr, H1 l = some (.lst (qs.map V.ref)) ∧ Paired (PlAt H1) qs R.begins := hl
  obtain ⟨zs, el, pr⟩ := hbp
  have zl := paired_len pr
  refine ⟨l, zs.map V.ref, rfl, SqL.of el, _, _, _, walk_list (xs := zs.map V.ref), fun D hD => ⟨fun i acc H' => Same H1 H' ∧ acc = enc V.int ((R.begins.take i).map fun p => (p, (1 : Int))), fun H' s' e => ⟨s', rfl⟩, fun _ _ _ _ z _ => z.1.seq (SqL.of el), ?_, by rw [List.length_map]; omega, ?_⟩⟩
  · rintro i acc x H2 H3 hi ha ⟨s2, rfl⟩ hDl ⟨rfl, hx⟩ s0 H0 C cl fp
    obtain ⟨z, hz, rfl⟩ := map_get hx
    obtain ⟨pl, hpl, hat⟩ := paired_get' pr hz
    refine wg_name 4 ⟨rfl, fun s0 H0 C cl fp => wts_nil <| iteT fun s0 H0 C cl fp => we_var 4 rfl fun s0 H0 C cl fp => we_int ⟨kp pl, z, rfl, s2 _ _ hat, hDl, fun H4 b4 e4 => ⟨But.of_new s2 hD b4, ?_⟩⟩⟩ sc_Record_numbers_ahead.nd
    have i0 : i = 0 := by
      rw [List.length_map] at hi
      omega
    subst i0
    have e1 : R.begins.take 1 = [pl] := by
      rw [List.take_succ_eq_append_getElem (List.getElem?_eq_some_iff.mp hpl).1, (List.getElem?_eq_some_iff.mp hpl).2]
      rfl
    rw [show 0 + 1 = 1 from rfl, e1]
    rfl
  rintro acc H2 ha ⟨s2, rfl⟩ hDl
  have hd0 : DictAt V.int H2 D (R.aheadD 0) := by
    rw [List.length_map, zl, List.take_length] at hDl
    exact hDl
  refine wa_nil ⟨by show 1 ≤ sizeLine; decide, fun L H3 hL s3 eL => ?_⟩
  have s13 : Same H H3 := Same.trans s1 (Same.trans s2 s3)
  have nL : H L = none := by
    cases hx : H L with
    | none => rfl
    | some o =>
      rw [Same.trans s1 s2 _ _ hx] at hL
      cases hL
  -- the ticks
  refine wb_cons <| ws_forW PassesOwn.never rfl (fun _ => rfl) <| wi_tup <| we_rfld (T := T) (T.n n_Record_own_ticks) (s13 _ _ h1) rFs_t (we_var 0 rfl ⟨rfl, rfl⟩) ⟨t, _, rfl, SqT.of (s13 _ _ h3), _, _, _, walk_tup (xs := (List.range R.ticks).map fun (i : Nat) => V.int ((i : Nat) : Int)), fun i σ H' => Same H H' ∧ DictsAt V.int H' L ((List.range (i + 1)).map R.aheadD) ∧ ∃ v2 v3 v4 v5 v6, σ = [some (.ref p), some (.ref L), v2, v3, v4, v5, v6], ⟨s13, ⟨[D], eL, .cons (s3 _ _ hd0) .nil⟩, _, _, _, _, _, rfl⟩, fun _ _ _ _ z => Cab.Same.seqT z.1 (SqT.of h3), ?_, ?_⟩
  · rintro i x σ H4 H5 hi ⟨s5, ⟨ds, eL5, prd⟩, v2, v3, v4, v5, v6, rfl⟩ ⟨rfl, hx⟩
    obtain ⟨i', hi', rfl⟩ := map_get hx
    have ei : i' = i := by
      have := List.getElem?_eq_some_iff.mp hi'
      obtain ⟨a1, a2⟩ := this
      rw [List.getElem_range] at a2
      exact a2.symm
    subst ei
    have hti : i' < R.ticks := by
      rw [List.length_map, List.length_range] at hi
      exact hi
    refine wg_name 2 ?_ sc_Record_numbers_ahead.nd
    -- now = {}
    refine wb_cons <| ws_set 3 (wE pe_dnewT fun nw hnw => ?_) sc_Record_numbers_ahead.nd
    have s6 : Same H5 (upd H5 nw (.dT [])) := Same.new hnw
    have en6 : (upd H5 nw (.dT [])) nw = some (.dT []) := upd_same
    generalize upd H5 nw (.dT []) = H6 at s6 en6
    rw [range_map_last] at prd
    obtain ⟨ds0, d, rfl, prd0, hd5⟩ := paired_last prd
    have hd6 : H6 d = some (.dT (enc V.int (R.aheadD i'))) := s6 _ _ hd5
    have hdn : d ≠ nw := ne_of_none hd5 hnw
    have al := ok.aheadD_le (Nat.le_of_lt hti)
    have hm5 := s5
    have eLm : (ds0 ++ [d]).map V.ref = ds0.map V.ref ++ [V.ref d] := by rw [List.map_append]; rfl
    have hz0 := ok.ahead0 i'
    have hnd := aheadD_nodup R i'
    refine wb_cons <| ws_forKeys PassesOwn.never rfl (fun _ => rfl) hd6 fun od Hf bf ef => ?_
    have nd5 : ∀ b o, H5 b = some o → o ≠ .dT (enc V.int (R.aheadD i')) → Hf b = some o := fun b o e n => bf _ _ (s6 _ _ e) (fun z => by subst z; rw [hd5] at e; exact n (Option.some.inj e).symm)
    have eLf : Hf L = some (.lst ((ds0 ++ [d]).map V.ref)) := nd5 _ _ eL5 (by intro z; cases z)
    have enf : Hf nw = some (.dT []) := bf _ _ en6 hdn.symm
    have hRf : RecAt K Hf p R := (hRR.mono (Same.trans s5 s6)).but bf hd6 (fun z => z)
    obtain ⟨ff, hRff⟩ := id hRf
    obtain ⟨dxf, mf, tf', qsf, h1f, _⟩ := hRff.ex
    refine we_ix ix_list <| we_var 1 rfl <| we_un un_neg <| we_int ⟨1, rfl, L, _, -1, _, rfl, rfl, SqL.of eLf, by rw [eLm]; exact atI_last _ _, rfl, ef, fun j σ H' => But nw Hf H' ∧ H' nw = some (.dT (enc V.int (((R.aheadD i').take j).foldl (fun now e => addAll e.2 now (R.steps i' e.1)) []))) ∧ ∃ v4 v5 v6, σ = [some (.ref p), some (.ref L), some (.int (i' : Nat)), some (.ref nw), v4, v5, v6], ⟨But.same fun _ _ e => e, enf, _, _, _, rfl⟩, ?_, ?_⟩
    · rintro j k v q σ H7 hk ⟨b7, e7, v4, v5, v6, rfl⟩ hd7 hq
      obtain ⟨pl, x, hDj, rfl, rfl⟩ := enc_at hk
      have hmem := List.mem_of_getElem? hDj
      have hp0 : 0 ≤ pl.1 := hz0 pl (List.mem_map.mpr ⟨_, hmem, rfl⟩)
      have hget : getD? (R.aheadD i') pl = some x := getD?_mem hnd hmem
      have ef7 := foldl_take (fun now (e : Pl × Int) => addAll e.2 now (R.steps i' e.1)) [] hDj
      have fl := fold_len R i' ((R.aheadD i').take j) []
      generalize hcur : ((R.aheadD i').take j).foldl (fun now e => addAll e.2 now (R.steps i' e.1)) [] = cur at *
      have cl : cur.length ≤ 65610 := by
        have h1 := List.length_take_le' j (R.aheadD i')
        have h2 : ((R.aheadD i').take j).length * (R.top + 1) ≤ 6561 * 10 := Nat.mul_le_mul (by omega) (by omega)
        simp only [List.length_nil, Nat.zero_add] at fl
        omega
      have hR7 : RecAt K H7 p R := hRf.but b7 enf (fun z => z)
      obtain ⟨f7, hRf7⟩ := id hR7
      obtain ⟨dx7, m7, t7, qs7, h17, _⟩ := hRf7.ex
      refine wg_name 4 ?_ sc_Record_numbers_ahead.nd
      refine wb_cons <| ws_forW PassesOwn.never rfl (fun _ => rfl) <| wi_list <| we_meth (ok_Record_steps_from T) (T.c c_Record) (T.m m_Record_steps_from) hr <| we_var 0 rfl ⟨p, dx7, _, rfl, h17, by kernel_rfl, wa_cons <| we_var 2 rfl <| wa_cons <| we_var 4 rfl <| wa_nil ⟨_, _, _, rfl, p, R, i', q, pl, rfl, hR7, ok, rfl, hti, rfl, hq, hp0, fun l8 H8 s8 nl8 hl8 => ?_⟩⟩
      obtain ⟨ts, el8, prs⟩ := hl8
      have tsl := paired_len prs
      have stl := R.steps_len i' pl
      have en8 := s8 _ _ e7
      refine ⟨l8, _, rfl, SqL.of el8, _, _, _, walk_list (xs := ts.map V.ref), fun j2 σ H' => But nw H8 H' ∧ H' nw = some (.dT (enc V.int (addAll x cur ((R.steps i' pl).take j2)))) ∧ ∃ v5 v6, σ = [some (.ref p), some (.ref L), some (.int (i' : Nat)), some (.ref nw), some (.ref q), v5, v6], ⟨But.same fun _ _ e => e, en8, _, _, rfl⟩, fun _ _ _ _ z => SqL.of (z.1 _ _ el8 (ne_of el8 en8 (by intro z; cases z))), ?_, ?_⟩
      · rintro j2 y σ H9 H10 hj2 ⟨b9, e9, v5, v6, rfl⟩ ⟨rfl, hy⟩
        obtain ⟨u, hu, rfl⟩ := map_get hy
        obtain ⟨⟨dd, g⟩, hst, hstep⟩ := paired_get' prs hu
        obtain ⟨ga', est, eg⟩ := hstep.but b9 en8 (fun z => z)
        have ef9 : addAll x cur ((R.steps i' pl).take (j2 + 1)) = putD (addAll x cur ((R.steps i' pl).take j2)) g ((getD? (addAll x cur ((R.steps i' pl).take j2)) g).getD 0 + x) := foldl_take (fun now (s : Nat × Pl) => putD now s.2 ((getD? now s.2).getD 0 + x)) cur hst
        have al9 := addAll_len x ((R.steps i' pl).take j2) cur
        have tl9 := List.length_take_le' j2 (R.steps i' pl)
        generalize hcu : addAll x cur ((R.steps i' pl).take j2) = cu at *
        refine wg_tup2 5 6 (SqT.of est) ?_ rfl sc_Record_numbers_ahead.nd
        have hd10 : H10 d = some (.frz od (.dT (enc V.int (R.aheadD i')))) := b9 _ _ (s8 _ _ hd7) hdn
        have hL10 : H10 L = some (.lst ((ds0 ++ [d]).map V.ref)) := b9 _ _ (s8 _ _ (b7 _ _ eLf (ne_of eLf enf (by intro z; cases z)))) (ne_of (s8 _ _ (b7 _ _ eLf (ne_of eLf enf (by intro z; cases z)))) en8 (by intro z; cases z))
        have hq10 : PlAt H10 q pl := b9 _ _ (s8 _ _ hq) (ne_of (s8 _ _ hq) en8 (by intro z; cases z))
        refine wb_cons <| ws_dput hr <| we_add <| we_dget2 hr <| we_var 3 rfl ⟨nw, rfl, .inr ⟨_, .inl e9⟩, we_var 6 rfl <| we_int ⟨_, DictAt.get (f := V.int) e9 eg, ?_⟩⟩
        rw [opt_int]
        have hg2 : DGet H10 d (.ref q) (some (.int x)) := by
          have z := DGet.tf (k := kp pl) hd10 hq10
          rw [enc_get, hget] at z
          exact z
        refine we_dget hr <| we_ix ix_list <| we_var 1 rfl <| we_un un_neg <| we_int ⟨1, rfl, L, _, -1, _, rfl, rfl, SqL.of hL10, by rw [eLm]; exact atI_last _ _, we_var 4 rfl ⟨d, _, rfl, hg2, _, _, rfl, rfl, ?_⟩⟩
        refine we_var 3 rfl <| we_var 6 rfl ⟨nw, _, kp g, ga', rfl, rfl, e9, eg, sz_lt (by rw [enc_len]; omega), fun H11 b11 e11 => wb_nil ⟨But.trans b9 b11, ?_, _, _, rfl⟩⟩
        rw [ef9, ← enc_put]
        exact e11
      · rintro σ H9 ⟨b9, e9, v5, v6, rfl⟩
        refine wb_nil ⟨⟨But.trans b7 (But.trans (But.same s8) b9), ?_, _, _, _, rfl⟩, b9 _ _ (s8 _ _ hd7) hdn⟩
        rw [ef7]
        rw [List.length_map, tsl, List.take_length] at e9
        exact e9
    · rintro σ H7 ⟨b7, e7, v4, v5, v6, rfl⟩ hd7 H8 b8 e8
      have s58 := same_locked hnw s6 hd6 bf b7 b8 e8
      have eL8 : H8 L = some (.lst ((ds0 ++ [d]).map V.ref)) := s58 _ _ eL5
      have en8 : H8 nw = some (.dT (enc V.int (R.aheadD (i' + 1)))) := by
        rw [enc_len, List.take_length] at e7
        exact b8 _ _ e7 hdn.symm
      have dl := paired_len prd
      rw [List.length_append, List.length_append, List.length_map, List.length_range] at dl
      refine wb_cons <| ws_append <| we_var 1 rfl ⟨L, rfl, ⟨_, eL8⟩, we_var 3 rfl ⟨(ds0 ++ [d]).map V.ref, eL8, sz_lt (by rw [List.length_map, List.length_append]; simp at dl ⊢; omega), fun H9 b9 e9 => wb_nil ⟨But.of_new (Same.trans s5 s58) nL b9, ⟨ds0 ++ [d] ++ [nw], by rw [List.map_append]; exact e9, ?_⟩, _, _, _, _, _, rfl⟩⟩⟩
      rw [range_map_last, range_map_last R.aheadD i']
      refine paired_snoc (Paired.mapP prd fun a D' h => ?_) (b9 _ _ en8 (ne_of en8 eL8 (by intro z; cases z)))
      exact b9 _ _ (s58 _ _ h) (ne_of (s58 _ _ h) eL8 (by intro z; cases z))
  · rintro σ H4 ⟨s4, hd, v2, v3, v4, v5, v6, rfl⟩
    rw [List.length_map, List.length_range] at hd
    exact wb_cons <| ws_ret <| we_var 1 rfl <| q L H4 s4 hd
end
end Cab
/-! text CabR5 -/
set_option Elab.async false
set_option linter.all false
set_option maxRecDepth 100000
set_option maxHeartbeats 4000000
namespace Cab
open PySem PySem.Spec PyProof.Rows L2 He
/-! ### counted behind -/
def onesOf {α : Type} (v : α) (ps : List Pl) : List (Pl × α) := ps.foldl (fun acc p => putD acc p v) []
def Rec.num (R : Rec) (t : Nat) (B : List (Pl × Int)) (p : Pl) : Int := (((R.steps t p).filter fun s => (getD? B s.2).isSome).map fun s => (getD? B s.2).getD 0).sum
def Rec.behStep (R : Rec) (t : Nat) (A B : List (Pl × Int)) : List (Pl × Int) := A.foldl (fun now e => if 0 < R.num t B e.1 then putD now e.1 (R.num t B e.1) else now) []
def Rec.beh (R : Rec) : Nat → List (Pl × Int)
  | 0 => onesOf 1 ((R.aheadD R.ticks).map (·.1))
  | k + 1 => R.behStep (R.ticks - 1 - k) (R.aheadD (R.ticks - 1 - k)) (R.beh k)
def Rec.behindAt (R : Rec) (t : Nat) : List (Pl × Int) := R.beh (R.ticks - t)
theorem ones_len {α : Type} (v : α) : ∀ (ps : List Pl) (acc : List (Pl × α)), (ps.foldl (fun acc p => putD acc p v) acc).length ≤ acc.length + ps.length
  | [], _ => Nat.le_refl _
  | p :: ps, acc => by
    have h1 := ones_len v ps (putD acc p v)
    have h2 := putD_len acc p v
    rw [List.foldl_cons, List.length_cons]
    omega
theorem behFold_len (R : Rec) (t : Nat) (B : List (Pl × Int)) : ∀ (A now : List (Pl × Int)), (A.foldl (fun now e => if 0 < R.num t B e.1 then putD now e.1 (R.num t B e.1) else now) now).length ≤ now.length + A.length
  | [], _ => Nat.le_refl _
  | e :: A, now => by
    have h1 := behFold_len R t B A (if 0 < R.num t B e.1 then putD now e.1 (R.num t B e.1) else now)
    have h2 := putD_len now e.1 (R.num t B e.1)
    rw [List.foldl_cons, List.length_cons]
    refine Nat.le_trans h1 ?_
    split <;> omega
theorem beh_succ (R : Rec) (i : Nat) : (List.range (i + 2)).map (fun j => R.beh (i + 1 - j)) = R.beh (i + 1) :: (List.range (i + 1)).map fun j => R.beh (i - j) := by
  rw [List.range_succ_eq_map, List.map_cons, List.map_map]
  congr 1
  apply List.map_congr_left
  intro j _
  simp only [Function.comp]
  congr 1
  omega
theorem same_locked0 {d : Addr} {H6 Hf H' H'' : Hp} {kvs : List (List Key × V)} (hd : H6 d = some (.dT kvs)) (bf : But d H6 Hf) (b : Same Hf H') (b2 : But d H' H'') (e2 : H'' d = some (.dT kvs)) : Same H6 H'' := by
  intro c o e6
  by_cases hc : c = d
  · subst hc
    rw [hd] at e6
    rw [← e6]
    exact e2
  · exact b2 _ _ (b _ _ (bf _ _ e6 hc)) hc
theorem Rd.get {α : Type} {f : α → V} {H : Hp} {d q : Addr} {D : List (Pl × α)} {p : Pl} (h : Rd H d (.dT (enc f D))) (hq : PlAt H q p) : DGet H d (.ref q) ((getD? D p).map f) := by
  rw [← enc_get]
  exact .inr ⟨_, kp p, q, h, rfl, hq, rfl⟩
theorem Rd.same {H H' : Hp} {d : Addr} {u : HO} (s : Same H H') (h : Rd H d u) : Rd H' d u := h.elim (fun e => .inl (s _ _ e)) (fun ⟨o, e⟩ => .inr ⟨o, s _ _ e⟩)
theorem Rd.but {H H' : Hp} {q d : Addr} {u : HO} (b : But q H H') (n : d ≠ q) (h : Rd H d u) : Rd H' d u := h.elim (fun e => .inl (b _ _ e n)) (fun ⟨o, e⟩ => .inr ⟨o, b _ _ e n⟩)
theorem Rd.lock {H H' : Hp} {d c : Addr} {kvs kvs2 : List (List Key × V)} {od : Obj} (hd : H d = some (.dT kvs)) (b : But d H H') (e : H' d = some (.frz od (.dT kvs))) (h : H c = some (.dT kvs2)) : Rd H' c (.dT kvs2) := by
  by_cases n : c = d
  · subst n
    rw [hd] at h
    cases h
    exact .inr ⟨od, e⟩
  · exact .inl (b _ _ h n)
section
variable {P : Program} {w : World} {K : PySem.W.Frag} {mg : Str → Option Value} {base : Heap}
def spBehind (K : PySem.W.Frag) : Sp := sp1 fun a H Q => ∃ (p : Addr) (R : Rec), a = .ref p ∧ RecAt K H p R ∧ okRec R ∧ ∀ l H', Same H H' → DictsAt V.int H' l ((List.range (R.ticks + 1)).map R.behindAt) → Q (.ref l) H'
theorem ok_Record_numbers_behind (T : TX K mg) : FnP P w K mg base d_Record_numbers_behind 9 ["self"] (spBehind K) [] := by
  refine fn1 (T.d D_Record_numbers_behind) rfl sc_Record_numbers_behind bd_Record_numbers_behind fun cdv A outer s H Q E a hr h => ?_
  obtain ⟨p, R, rfl, hRR, ok, q⟩ := h
  obtain ⟨f, hR⟩ := id hRR
  obtain ⟨dx, m, t, qs, h1, h2, h3, h4, h5⟩ := hR.ex
  have top9 := ok.top
  have t8 := ok.t
  refine wb_cons <| ws_set 1 (we_meth0 (ok_Record_numbers_ahead T) (T.c c_Record) (T.m m_Record_numbers_ahead) hr <| we_var 0 rfl ⟨p, dx, _, rfl, h1, by kernel_rfl, _, rfl, p, R, rfl, hRR, ok, fun L H1 s1 hl => ?_⟩) sc_Record_numbers_behind.nd
  obtain ⟨ds, eL, prd⟩ := hl
  have prd' := prd
  rw [range_map_last] at prd'
  obtain ⟨ds0, d, eds, prd0, hd1⟩ := paired_last prd'
  have dlen := paired_len prd
  rw [List.length_map, List.length_range] at dlen
  have eLm : ds.map V.ref = ds0.map V.ref ++ [V.ref d] := by rw [eds, List.map_append]; rfl
  have al := ok.aheadD_le (Nat.le_refl R.ticks)
  -- the last dict: ones
  refine wb_cons <| ws_set 2 (we_lst <| wa_cons <| we_lock hd1 fun od Hf bf ef => ?_) sc_Record_numbers_behind.nd
  have eLf : Hf L = some (.lst (ds.map V.ref)) := bf _ _ eL (ne_of eL hd1 (by intro z; cases z))
  refine we_dc hr sc_Record_numbers_behind [("place", 5)] <| wi_keysT <| we_ix ix_list <| we_var 1 rfl <| we_un un_neg <| we_int ⟨1, rfl, L, _, -1, _, rfl, rfl, SqL.of eLf, by rw [eLm]; exact atI_last _ _, d, od, _, rfl, ef, ?_⟩
  refine ⟨_, _, _, walk_keysT, fun D hD => ⟨fun i acc H' => Same Hf H' ∧ acc = enc V.int ((((R.aheadD R.ticks).map (·.1)).take i).foldl (fun acc p => putD acc p 1) []), fun H' s' e => ⟨s', rfl⟩, fun _ _ _ _ z _ => z.1 _ _ ef, ?_, by rw [enc_len]; omega, ?_⟩⟩
  · rintro i acc x H2 H3 hi ha ⟨s2, rfl⟩ hDl ⟨rfl, k, v, z, hk, rfl, hz⟩ s0 H0 C cl fp
    obtain ⟨pl, y, hDi, rfl, rfl⟩ := enc_at hk
    have hDi' : ((R.aheadD R.ticks).map (·.1))[i]? = some pl := by rw [List.getElem?_map, hDi]; rfl
    refine wg_name 5 ⟨rfl, fun s0 H0 C cl fp => wts_nil <| iteT fun s0 H0 C cl fp => we_var 5 rfl fun s0 H0 C cl fp => we_int ⟨kp pl, z, rfl, hz, hDl, fun H4 b4 e4 => ⟨But.of_new s2 hD b4, ?_⟩⟩⟩ sc_Record_numbers_behind.nd
    rw [foldl_take (fun acc (p : Pl) => putD acc p (1 : Int)) [] hDi', ← enc_put]
  rintro acc H2 ha ⟨s2, rfl⟩ hDl
  refine ⟨s2 _ _ ef, fun H3 b3 e3 => ?_⟩
  have s13 : Same H1 H3 := same_locked0 hd1 bf s2 b3 e3
  have nDd : D ≠ d := fun z => by
    rw [z, ef] at hD
    cases hD
  have hD3 : DictAt V.int H3 D (R.beh 0) := by
    have e := b3 _ _ hDl nDd
    rw [enc_len] at e
    have e2 : ((R.aheadD R.ticks).map (·.1)).take (R.aheadD R.ticks).length = (R.aheadD R.ticks).map (·.1) := List.take_of_length_le (by rw [List.length_map]; exact Nat.le_refl _)
    rw [e2] at e
    exact e
  refine wa_nil ⟨by show 1 ≤ sizeLine; decide, fun F H4 hF s4 eF => ?_⟩
  have s04 : Same H H4 := Same.trans s1 (Same.trans s13 s4)
  have s14 : Same H1 H4 := Same.trans s13 s4
  -- the ticks, from the last
  refine wb_cons <| ws_forW PassesOwn.never rfl (fun _ => rfl) <| wi_tup <| we_turned <| we_rfld (T := T) (T.n n_Record_own_ticks) (s04 _ _ h1) rFs_t (we_var 0 rfl ⟨rfl, rfl⟩) ⟨t, _, rfl, SqT.of (s04 _ _ h3), fun tr H5 htr s5 etr => ⟨tr, _, rfl, SqT.of etr, _, _, _, walk_tup (xs := ((List.range R.ticks).map fun (i : Nat) => V.int ((i : Nat) : Int)).reverse), fun i σ H' => Same H5 H' ∧ ∃ F, DictsAt V.int H' F ((List.range (i + 1)).map fun j => R.beh (i - j)) ∧ ∃ v3 v4 v5 v6 v7 v8, σ = [some (.ref p), some (.ref L), some (.ref F), v3, v4, v5, v6, v7, v8], ⟨fun _ _ e => e, F, ⟨[D], s5 _ _ eF, .cons (s5 _ _ (s4 _ _ hD3)) .nil⟩, _, _, _, _, _, _, rfl⟩, fun _ _ _ _ z => Cab.Same.seqT z.1 (SqT.of etr), ?_, ?_⟩⟩
  · rintro i x σ H6 H7 hi ⟨s7, F7, ⟨bs, eF7, prb⟩, v3, v4, v5, v6, v7, v8, rfl⟩ ⟨rfl, hx⟩
    rw [List.length_reverse, List.length_map, List.length_range] at hi
    have hx2 : x = .int ((R.ticks - 1 - i : Nat) : Int) := by
      rw [List.getElem?_reverse (by rw [List.length_map, List.length_range]; exact hi), List.length_map, List.length_range] at hx
      obtain ⟨k, hk, rfl⟩ := map_get hx
      obtain ⟨a1, a2⟩ := List.getElem?_eq_some_iff.mp hk
      rw [List.getElem_range] at a2
      rw [a2]
    subst hx2
    generalize htk : R.ticks - 1 - i = tk
    have htk2 : tk < R.ticks := by omega
    have s17 : Same H1 H7 := Same.trans s14 (Same.trans s5 s7)
    refine wg_name 3 ?_ sc_Record_numbers_behind.nd
    refine wb_cons <| ws_set 4 (wE pe_dnewT fun nw hnw => ?_) sc_Record_numbers_behind.nd
    have s8 : Same H7 (upd H7 nw (.dT [])) := Same.new hnw
    have en8 : (upd H7 nw (.dT [])) nw = some (.dT []) := upd_same
    generalize upd H7 nw (.dT []) = H8 at s8 en8
    -- ahead[tick]
    obtain ⟨dt, hdt, hdd⟩ := paired_get prd (show ((List.range (R.ticks + 1)).map R.aheadD)[tk]? = some (R.aheadD tk) by rw [List.getElem?_map, List.getElem?_range (by omega)]; rfl)
    have hd7 : H7 dt = some (.dT (enc V.int (R.aheadD tk))) := s17 _ _ hdd
    have hd8 := s8 _ _ hd7
    have hdn : dt ≠ nw := ne_of_none hd7 hnw
    have alt := ok.aheadD_le (Nat.le_of_lt htk2)
    -- found[0]
    have prb' := prb
    obtain ⟨fb, bs', ebs, hfb⟩ : ∃ fb bs', bs = fb :: bs' ∧ DictAt V.int H7 fb (R.beh i) := by
      have e : (List.range (i + 1)).map (fun j => R.beh (i - j)) = R.beh i :: (List.range i).map fun j => R.beh (i - (j + 1)) := by
        rw [List.range_succ_eq_map, List.map_cons, List.map_map]
        rfl
      rw [e] at prb'
      cases prb' with
      | cons r t => exact ⟨_, _, rfl, r⟩
    have hfbn : fb ≠ nw := ne_of_none hfb hnw
    have eF7' : H7 F7 = some (.lst (V.ref fb :: bs'.map V.ref)) := by rw [eF7, ebs]; rfl
    refine wb_cons <| ws_forKeys PassesOwn.never rfl (fun _ => rfl) hd8 fun od2 Hg bg eg => ?_
    have nd7 : ∀ b o, H7 b = some o → o ≠ .dT (enc V.int (R.aheadD tk)) → Hg b = some o := fun b o e n => bg _ _ (s8 _ _ e) (fun z => by subst z; rw [hd7] at e; exact n (Option.some.inj e).symm)
    have eLg : Hg L = some (.lst (ds.map V.ref)) := nd7 _ _ (s17 _ _ eL) (by intro z; cases z)
    have eFg : Hg F7 = some (.lst (V.ref fb :: bs'.map V.ref)) := nd7 _ _ eF7' (by intro z; cases z)
    have eng : Hg nw = some (.dT []) := bg _ _ en8 hdn.symm
    have hRg : RecAt K Hg p R := (hRR.mono (Same.trans s1 (Same.trans s17 s8))).but bg hd8 (fun z => z)
    have rfb : Rd Hg fb (.dT (enc V.int (R.beh i))) := Rd.lock hd8 bg eg (s8 _ _ hfb)
    refine we_ix ix_list <| we_var 1 rfl <| we_var 3 rfl ⟨L, _, _, _, rfl, rfl, SqL.of eLg, at_of (j := tk) (v := .ref dt) rfl (by rw [List.getElem?_map, hdt]; rfl), rfl, eg, fun j σ H' => But nw Hg H' ∧ H' nw = some (.dT (enc V.int (((R.aheadD tk).take j).foldl (fun now e => if 0 < R.num tk (R.beh i) e.1 then putD now e.1 (R.num tk (R.beh i) e.1) else now) []))) ∧ ∃ v5 v6 v7 v8, σ = [some (.ref p), some (.ref L), some (.ref F7), some (.int (tk : Nat)), some (.ref nw), v5, v6, v7, v8], ⟨But.same fun _ _ e => e, eng, _, _, _, _, rfl⟩, ?_, ?_⟩
    · rintro j k v z σ H9 hk ⟨b9, e9, v5, v6, v7, v8, rfl⟩ hd9 hz
      obtain ⟨pl, y, hDj, rfl, rfl⟩ := enc_at hk
      have hmem := List.mem_of_getElem? hDj
      have hp0 : 0 ≤ pl.1 := ok.ahead0 tk pl (List.mem_map.mpr ⟨_, hmem, rfl⟩)
      have efj := foldl_take (fun now (e : Pl × Int) => if 0 < R.num tk (R.beh i) e.1 then putD now e.1 (R.num tk (R.beh i) e.1) else now) [] hDj
      have fl := behFold_len R tk (R.beh i) ((R.aheadD tk).take j) []
      generalize hcur : ((R.aheadD tk).take j).foldl (fun now e => if 0 < R.num tk (R.beh i) e.1 then putD now e.1 (R.num tk (R.beh i) e.1) else now) [] = cur at *
      have cl : cur.length ≤ 6561 := by
        have h1 := List.length_take_le' j (R.aheadD tk)
        simp only [List.length_nil, Nat.zero_add] at fl
        omega
      have hR9 : RecAt K H9 p R := hRg.but b9 eng (fun z => z)
      obtain ⟨f9, hRf9⟩ := id hR9
      obtain ⟨dx9, m9, t9, qs9, h19, _⟩ := hRf9.ex
      have eF9 : H9 F7 = some (.lst (V.ref fb :: bs'.map V.ref)) := b9 _ _ eFg (ne_of eFg eng (by intro z; cases z))
      have rfb9 : Rd H9 fb (.dT (enc V.int (R.beh i))) := Cab.Rd.but b9 hfbn rfb
      refine wg_name 5 ?_ sc_Record_numbers_behind.nd
      refine wb_cons <| ws_set 6 (we_blt (cr_sum rfl) (T.fr f_sum) (by decide +kernel) <| wa_cons <| we_lc sc_Record_numbers_behind [("digit", 7), ("goal", 8)] <| wi_list <| we_meth (ok_Record_steps_from T) (T.c c_Record) (T.m m_Record_steps_from) hr <| we_var 0 rfl ⟨p, dx9, _, rfl, h19, by kernel_rfl, wa_cons <| we_var 3 rfl <| wa_cons <| we_var 5 rfl <| wa_nil ⟨_, _, _, rfl, p, R, tk, z, pl, rfl, hR9, ok, rfl, htk2, rfl, hz, hp0, fun l8 H10 s10 nl8 hl8 => ?_⟩⟩) sc_Record_numbers_behind.nd
      obtain ⟨ts, el8, prs⟩ := hl8
      have tsl := paired_len prs
      have stl := R.steps_len tk pl
      refine ⟨l8, _, rfl, SqL.of el8, ?_⟩
      refine lcFil (fun n => (getD? (R.beh i) ((R.steps tk pl).getD n (0, (0, 0))).2).isSome) (fun n => V.int ((getD? (R.beh i) ((R.steps tk pl).getD n (0, (0, 0))).2).getD 0)) (walk_list (xs := ts.map V.ref)) (fun _ _ _ _ y => y.1) (by rw [List.length_map]; omega) (fun _ s' => s'.seq (SqL.of el8)) ?_ ?_
      · rintro n u H11 hn s11 ⟨_, hu⟩ s0 H0 C cl fp
        obtain ⟨u', hu', rfl⟩ := map_get hu
        obtain ⟨⟨dd, g⟩, hst, hstep⟩ := paired_get' prs hu'
        obtain ⟨gad, est, eg11⟩ := hstep.mono s11
        have e3 : (R.steps tk pl).getD n (0, (0, 0)) = (dd, g) := by rw [List.getD_eq_getElem?_getD, hst]; rfl
        rw [e3]
        have s911 : Same H9 H11 := Same.trans s10 s11
        have rd11 := Rd.get (f := V.int) (Cab.Rd.same s911 rfb9) eg11
        refine wg_tup2 7 8 (SqT.of est) ⟨rfl, fun s0 H0 C cl fp => ?_⟩ rfl sc_Record_numbers_behind.nd
        refine wt_din hr <| we_var 8 rfl <| we_ix ix_list <| we_var 2 rfl <| we_int ⟨F7, _, 0, _, rfl, rfl, SqL.of (s911 _ _ eF9), at_of (j := 0) rfl rfl, fb, _, rfl, rd11, by rw [Option.isSome_map], fun _ _ e => e, fun hk => ?_⟩
        intro s0 H0 C cl fp
        obtain ⟨w', hw⟩ := Option.isSome_iff_exists.mp (by rw [Option.isSome_map] at hk; exact hk)
        rw [hw] at rd11 ⊢
        exact we_dget hr <| we_ix ix_list <| we_var 2 rfl <| we_int ⟨F7, _, 0, _, rfl, rfl, SqL.of (s911 _ _ eF9), at_of (j := 0) rfl rfl, we_var 8 rfl ⟨fb, _, rfl, rd11, rfl, fun _ _ e => e⟩⟩
      intro D2 H11 hD2 s11 hDl2
      have e4 : ((List.range (ts.map V.ref).length).filter fun n => (getD? (R.beh i) ((R.steps tk pl).getD n (0, (0, 0))).2).isSome).map (fun n => V.int ((getD? (R.beh i) ((R.steps tk pl).getD n (0, (0, 0))).2).getD 0)) = (((R.steps tk pl).filter fun s => (getD? (R.beh i) s.2).isSome).map fun s => (getD? (R.beh i) s.2).getD 0).map V.int := by
        rw [List.length_map, tsl, fil_range_get (fun s : Nat × Pl => (getD? (R.beh i) s.2).isSome) (fun s => V.int ((getD? (R.beh i) s.2).getD 0)) (0, (0, 0)) (R.steps tk pl), List.map_map]
        rfl
      rw [e4] at hDl2
      refine wa_nil ⟨D2, _, rfl, SqL.of hDl2, ?_⟩
      have s911 : Same H9 H11 := Same.trans s10 s11
      show WB _ _ _ _ _
      have e5 : ((((R.steps tk pl).filter fun s => (getD? (R.beh i) s.2).isSome).map fun s => (getD? (R.beh i) s.2).getD 0)).sum = R.num tk (R.beh i) pl := rfl
      rw [e5]
      refine wb_cons <| ws_if <| wt_cmp op_gt <| we_var 6 rfl <| we_int ⟨_, _, rfl, rfl, _, rfl, ?_⟩
      by_cases hn : 0 < R.num tk (R.beh i) pl
      · rw [decide_eq_true (show (0 : Int) < R.num tk (R.beh i) pl from hn)]
        refine iteT <| wb_cons <| ws_dput hr <| we_var 6 rfl <| we_var 4 rfl <| we_var 5 rfl ⟨nw, _, kp pl, z, rfl, rfl, s911 _ _ e9, s911 _ _ hz, sz_lt (by rw [enc_len]; omega), fun H12 b12 e12 => wb_nil <| wb_nil ⟨⟨But.trans b9 (But.trans (But.same s911) b12), ?_, _, _, _, _, rfl⟩, b12 _ _ (s911 _ _ hd9) hdn⟩⟩
        rw [efj]
        show H12 nw = some (.dT (enc V.int (if 0 < R.num tk (R.beh i) pl then putD cur pl (R.num tk (R.beh i) pl) else cur)))
        rw [if_pos hn, ← enc_put]
        exact e12
      · rw [decide_eq_false (show ¬ (0 : Int) < R.num tk (R.beh i) pl from hn)]
        refine iteF <| wb_nil <| wb_nil ⟨⟨But.trans b9 (But.same s911), ?_, _, _, _, _, rfl⟩, s911 _ _ hd9⟩
        rw [efj]
        show H11 nw = some (.dT (enc V.int (if 0 < R.num tk (R.beh i) pl then putD cur pl (R.num tk (R.beh i) pl) else cur)))
        rw [if_neg hn]
        exact s911 _ _ e9
    · rintro σ H9 ⟨b9, e9, v5, v6, v7, v8, rfl⟩ hd9 H10 b10 e10
      have s710 := same_locked hnw s8 hd8 bg b9 b10 e10
      have en10 : DictAt V.int H10 nw (R.beh (i + 1)) := by
        rw [enc_len, List.take_length] at e9
        have e : R.beh (i + 1) = R.behStep tk (R.aheadD tk) (R.beh i) := by
          show R.behStep (R.ticks - 1 - i) _ _ = _
          rw [htk]
        unfold DictAt
        rw [e]
        exact b10 _ _ e9 hdn.symm
      have bl := paired_len prb
      rw [List.length_map, List.length_range] at bl
      refine wb_cons <| ws_set 2 (we_lst <| wa_cons <| we_var 4 rfl <| wa_star <| we_var 2 rfl ⟨F7, _, rfl, .inr (SqL.of (s710 _ _ eF7)), wa_nil ⟨?_, fun F11 H11 hF11 s11 eF11 => wb_nil ⟨Same.trans s7 (Same.trans s710 s11), F11, ⟨nw :: bs, ?_, ?_⟩, _, _, _, _, _, _, rfl⟩⟩⟩) sc_Record_numbers_behind.nd
      · rw [List.length_cons, List.append_nil, List.length_map]
        exact sz_le (by omega)
      · rw [List.append_nil] at eF11
        exact eF11
      · rw [beh_succ]
        exact .cons (s11 _ _ en10) (Paired.mapP prb fun _ _ h => s11 _ _ (s710 _ _ h))
  · rintro σ H6 ⟨s6, F6, hF6, v3, v4, v5, v6, v7, v8, rfl⟩
    rw [List.length_reverse, List.length_map, List.length_range] at hF6
    exact wb_cons <| ws_ret <| we_var 2 rfl <| q F6 H6 (Same.trans s04 (Same.trans s5 s6)) hF6
end
end Cab
/-! text CabR6 -/
set_option Elab.async false
set_option linter.all false
set_option maxRecDepth 100000
set_option maxHeartbeats 4000000
namespace Cab
open PySem PySem.Spec PyProof.Rows L2 He
def Rec.howMany (R : Rec) : Int := ((R.aheadD R.ticks).map (·.2)).sum
def Rec.openOf (R : Rec) (t : Nat) (B : List (Pl × Int)) (p : Pl) : List (Pl × Nat × Pl) := ((R.steps t p).filter fun s => (getD? B s.2).isSome).map fun s => (p, s.1, s.2)
def Rec.openAt (R : Rec) (t : Nat) : List (Pl × Nat × Pl) := (R.behindAt t).flatMap fun e => R.openOf t (R.behindAt (t + 1)) e.1
def TripAt (H : Hp) (t : Addr) (x : Pl × Nat × Pl) : Prop := ∃ a b, H t = some (.tup [.ref a, .str (dg x.2.1), .ref b]) ∧ PlAt H a x.1 ∧ PlAt H b x.2.2
theorem TripAt.mono {H H' : Hp} {t : Addr} {x : Pl × Nat × Pl} (s : Same H H') (h : TripAt H t x) : TripAt H' t x := let ⟨a, b, e1, e2, e3⟩ := h; ⟨a, b, s _ _ e1, s _ _ e2, s _ _ e3⟩
theorem TripAt.but {q t : Addr} {x : Pl × Nat × Pl} {H H' : Hp} {o' : HO} (b : But q H H') (hq : H q = some o') (no : ¬ TI o') (h : TripAt H t x) : TripAt H' t x := let ⟨a, c, e1, e2, e3⟩ := h; ⟨a, c, b.ti hq no e1 trivial, b.ti hq no e2 trivial, b.ti hq no e3 trivial⟩
def TripsAt (H : Hp) (l : Addr) (xs : List (Pl × Nat × Pl)) : Prop := ∃ ts : List Addr, H l = some (.lst (ts.map V.ref)) ∧ Paired (TripAt H) ts xs
theorem TripsAt.mono {H H' : Hp} {l : Addr} {xs : List (Pl × Nat × Pl)} (s : Same H H') (h : TripsAt H l xs) : TripsAt H' l xs := let ⟨ts, a, b⟩ := h; ⟨ts, s _ _ a, Paired.mapP b fun _ _ z => z.mono s⟩
theorem behAt_len {R : Rec} (ok : okRec R) : ∀ k, k ≤ R.ticks → (R.beh k).length ≤ 6561
  | 0, _ => by
    have h1 := ones_len (1 : Int) ((R.aheadD R.ticks).map (·.1)) []
    have h2 := ok.aheadD_le (Nat.le_refl R.ticks)
    rw [List.length_map] at h1
    simp only [List.length_nil, Nat.zero_add] at h1
    exact Nat.le_trans h1 h2
  | k + 1, h => by
    have h1 := behFold_len R (R.ticks - 1 - k) (R.beh k) (R.aheadD (R.ticks - 1 - k)) []
    have h2 := ok.aheadD_le (show R.ticks - 1 - k ≤ R.ticks by omega)
    simp only [List.length_nil, Nat.zero_add] at h1
    exact Nat.le_trans h1 h2
theorem onesFold_key {α : Type} (v : α) {x : Pl} : ∀ (ps : List Pl) (acc : List (Pl × α)), x ∈ (ps.foldl (fun acc p => putD acc p v) acc).map (·.1) ↔ x ∈ acc.map (·.1) ∨ x ∈ ps
  | [], acc => by simp
  | p :: ps, acc => by rw [List.foldl_cons, onesFold_key v ps, putD_key_mem, List.mem_cons, or_assoc]
theorem onesFold_nodup {α : Type} (v : α) : ∀ (ps : List Pl) (acc : List (Pl × α)), (acc.map (·.1)).Nodup → ((ps.foldl (fun acc p => putD acc p v) acc).map (·.1)).Nodup
  | [], _, h => h
  | p :: ps, acc, h => onesFold_nodup v ps _ (putD_nodup _ _ h)
theorem behFold_key (R : Rec) (t : Nat) (B : List (Pl × Int)) {x : Pl} : ∀ (A now : List (Pl × Int)), x ∈ (A.foldl (fun now e => if 0 < R.num t B e.1 then putD now e.1 (R.num t B e.1) else now) now).map (·.1) ↔ x ∈ now.map (·.1) ∨ (x ∈ A.map (·.1) ∧ 0 < R.num t B x)
  | [], now => by simp
  | e :: A, now => by
    rw [List.foldl_cons, behFold_key R t B A, List.map_cons, List.mem_cons]
    by_cases h : 0 < R.num t B e.1
    · rw [if_pos h, putD_key_mem]
      constructor
      · rintro ((z | z) | ⟨z1, z2⟩)
        · exact .inl z
        · exact .inr ⟨.inl z, z ▸ h⟩
        · exact .inr ⟨.inr z1, z2⟩
      · rintro (z | ⟨z1 | z1, z2⟩)
        · exact .inl (.inl z)
        · exact .inl (.inr z1)
        · exact .inr ⟨z1, z2⟩
    · rw [if_neg h]
      constructor
      · rintro (z | ⟨z1, z2⟩)
        · exact .inl z
        · exact .inr ⟨.inr z1, z2⟩
      · rintro (z | ⟨z1 | z1, z2⟩)
        · exact .inl z
        · exact absurd (z1 ▸ z2) h
        · exact .inr ⟨z1, z2⟩
theorem behFold_nodup (R : Rec) (t : Nat) (B : List (Pl × Int)) : ∀ (A now : List (Pl × Int)), (now.map (·.1)).Nodup → ((A.foldl (fun now e => if 0 < R.num t B e.1 then putD now e.1 (R.num t B e.1) else now) now).map (·.1)).Nodup
  | [], _, h => h
  | e :: A, now, h => by
    rw [List.foldl_cons]
    refine behFold_nodup R t B A _ ?_
    split
    · exact putD_nodup _ _ h
    · exact h
theorem beh_sub (R : Rec) : ∀ k, k ≤ R.ticks → ∀ x ∈ (R.beh k).map (·.1), x ∈ (R.aheadD (R.ticks - k)).map (·.1)
  | 0, _, x, h => ((onesFold_key 1 _ []).mp h).elim (fun z => by cases z) id
  | k + 1, hk, x, h => ((behFold_key R _ _ _ []).mp h).elim (fun z => by cases z) (fun z => by
    have e : R.ticks - 1 - k = R.ticks - (k + 1) := by omega
    rw [← e]
    exact z.1)
theorem beh_nodup (R : Rec) : ∀ k, ((R.beh k).map (·.1)).Nodup
  | 0 => onesFold_nodup 1 _ [] (by simp)
  | k + 1 => behFold_nodup R _ _ _ [] (by simp)
theorem okRec.behind0 {R : Rec} (ok : okRec R) {t : Nat} (ht : t ≤ R.ticks) : ∀ x ∈ (R.behindAt t).map (·.1), 0 ≤ x.1 := fun x hx => by
  have h := beh_sub R (R.ticks - t) (by omega) x hx
  exact ok.ahead0 _ x h
theorem flatMap_take_succ {α β : Type} (f : α → List β) {l : List α} {i : Nat} {x : α} (h : l[i]? = some x) : (l.take (i + 1)).flatMap f = (l.take i).flatMap f ++ f x := by
  obtain ⟨h1, h2⟩ := List.getElem?_eq_some_iff.mp h
  rw [List.take_succ_eq_append_getElem h1, List.flatMap_append, h2]
  simp
theorem flat_len {α β : Type} (f : α → List β) (n : Nat) : ∀ (l : List α), (∀ x ∈ l, (f x).length ≤ n) → (l.flatMap f).length ≤ l.length * n
  | [], _ => by simp
  | x :: l, h => by
    rw [List.flatMap_cons, List.length_append, List.length_cons, Nat.succ_mul]
    have h1 := flat_len f n l fun y hy => h y (List.mem_cons_of_mem _ hy)
    have h2 := h x List.mem_cons_self
    omega
theorem fil_take_succ {α β : Type} (b : α → Bool) (g : α → β) {l : List α} {i : Nat} {x : α} (h : l[i]? = some x) : ((l.take (i + 1)).filter b).map g = ((l.take i).filter b).map g ++ (if b x = true then [g x] else []) := by
  obtain ⟨h1, h2⟩ := List.getElem?_eq_some_iff.mp h
  rw [List.take_succ_eq_append_getElem h1, List.filter_append, List.map_append, h2]
  congr 1
  by_cases hb : b x = true
  · rw [if_pos hb, List.filter_cons_of_pos hb]
    rfl
  · rw [if_neg hb, List.filter_cons_of_neg hb]
    rfl
section
variable {P : Program} {w : World} {K : PySem.W.Frag} {mg : Str → Option Value} {base : Heap}
def spHowMany (K : PySem.W.Frag) : Sp := sp1 fun a H Q => ∃ (p : Addr) (R : Rec), a = .ref p ∧ RecAt K H p R ∧ okRec R ∧ ∀ H', Same H H' → Q (.int R.howMany) H'
theorem ok_Record_how_many (T : TX K mg) : FnP P w K mg base d_Record_how_many 9 ["self"] (spHowMany K) [] := by
  refine fn1 (T.d D_Record_how_many) rfl sc_Record_how_many bd_Record_how_many fun cdv A outer s H Q E a hr h => ?_
  obtain ⟨p, R, rfl, hRR, ok, q⟩ := h
  obtain ⟨f, hR⟩ := id hRR
  obtain ⟨dx, m, t, qs, h1, h2, h3, h4, h5⟩ := hR.ex
  refine wb_cons <| ws_ret <| we_blt (cr_sum rfl) (T.fr f_sum) (by decide +kernel) <| wa_cons <| we_listVals (x := "") rfl (T.fr f_list) <| we_ix ix_list <| we_meth0 (ok_Record_numbers_ahead T) (T.c c_Record) (T.m m_Record_numbers_ahead) hr <| we_var 0 rfl ⟨p, dx, _, rfl, h1, by kernel_rfl, _, rfl, p, R, rfl, hRR, ok, fun L H1 s1 hl => ?_⟩
  obtain ⟨ds, eL, prd⟩ := hl
  rw [range_map_last] at prd
  obtain ⟨ds0, d, eds, prd0, hd1⟩ := paired_last prd
  have eLm : ds.map V.ref = ds0.map V.ref ++ [V.ref d] := by rw [eds, List.map_append]; rfl
  refine we_un un_neg <| we_int ⟨1, rfl, L, _, -1, _, rfl, rfl, SqL.of eL, by rw [eLm]; exact atI_last _ _, d, _, rfl, hd1, fun q2 H2 hq2 s2 e2 => ?_⟩
  have e3 : (enc V.int (R.aheadD R.ticks)).map (·.2) = ((R.aheadD R.ticks).map (·.2)).map V.int := by
    unfold enc
    rw [List.map_map, List.map_map]
    rfl
  rw [e3] at e2
  exact wa_nil ⟨q2, _, rfl, SqL.of e2, q H2 (Same.trans s1 s2)⟩
def spOpen (K : PySem.W.Frag) : Sp := sp1 fun a H Q => ∃ (p : Addr) (R : Rec), a = .ref p ∧ RecAt K H p R ∧ okRec R ∧ ∀ l H', Same H H' → (∃ ls : List Addr, H' l = some (.lst (ls.map V.ref)) ∧ Paired (TripsAt H') ls ((List.range R.ticks).map R.openAt)) → Q (.ref l) H'
theorem ok_Record_open_steps (T : TX K mg) : FnP P w K mg base d_Record_open_steps 10 ["self"] (spOpen K) [] := by
  refine fn1 (T.d D_Record_open_steps) rfl sc_Record_open_steps bd_Record_open_steps fun cdv A outer s H Q E a hr h => ?_
  obtain ⟨p, R, rfl, hRR, ok, q⟩ := h
  obtain ⟨f, hR⟩ := id hRR
  obtain ⟨dx, m, t, qs, h1, h2, h3, h4, h5⟩ := hR.ex
  have top9 := ok.top
  have t8 := ok.t
  refine wb_cons <| ws_set 1 (we_meth0 (ok_Record_numbers_behind T) (T.c c_Record) (T.m m_Record_numbers_behind) hr <| we_var 0 rfl ⟨p, dx, _, rfl, h1, by kernel_rfl, _, rfl, p, R, rfl, hRR, ok, fun L H1 s1 hl => ?_⟩) sc_Record_open_steps.nd
  obtain ⟨ds, eL, prd⟩ := hl
  refine wb_cons <| ws_set 2 (we_lst <| wa_nil ⟨Nat.zero_le _, fun F H2 hF s2 eF => ?_⟩) sc_Record_open_steps.nd
  have s02 := Same.trans s1 s2
  have nF : H1 F = none := hF
  refine wb_cons <| ws_forW PassesOwn.never rfl (fun _ => rfl) <| wi_tup <| we_rfld (T := T) (T.n n_Record_own_ticks) (s02 _ _ h1) rFs_t (we_var 0 rfl ⟨rfl, rfl⟩) ⟨t, _, rfl, SqT.of (s02 _ _ h3), _, _, _, walk_tup (xs := (List.range R.ticks).map fun (i : Nat) => V.int ((i : Nat) : Int)), fun i σ H' => Same H1 H' ∧ (∃ ls : List Addr, H' F = some (.lst (ls.map V.ref)) ∧ Paired (fun a c => TripsAt H' a c ∧ a ≠ F) ls ((List.range i).map R.openAt)) ∧ ∃ v3 v4 v5 v6 v7 v8, σ = [some (.ref p), some (.ref L), some (.ref F), v3, v4, v5, v6, v7, v8], ⟨s2, ⟨[], eF, .nil⟩, _, _, _, _, _, _, rfl⟩, fun _ _ _ _ z => Cab.Same.seqT (Same.trans s1 z.1) (SqT.of h3), ?_, ?_⟩
  · rintro i x σ H4 H5 hi ⟨s5, ⟨ls, eF5, prl⟩, v3, v4, v5, v6, v7, v8, rfl⟩ ⟨rfl, hx⟩
    obtain ⟨i', hi', rfl⟩ := map_get hx
    have ei : i' = i := by
      obtain ⟨a1, a2⟩ := List.getElem?_eq_some_iff.mp hi'
      rw [List.getElem_range] at a2
      exact a2.symm
    subst ei
    have hti : i' < R.ticks := by
      rw [List.length_map, List.length_range] at hi
      exact hi
    refine wg_name 3 ?_ sc_Record_open_steps.nd
    refine wb_cons <| ws_set 4 (we_lst <| wa_nil ⟨Nat.zero_le _, fun st H6 hst s6 eS => ?_⟩) sc_Record_open_steps.nd
    obtain ⟨dt, hdt, hdd⟩ := paired_get prd (show ((List.range (R.ticks + 1)).map R.behindAt)[i']? = some (R.behindAt i') by rw [List.getElem?_map, List.getElem?_range (by omega)]; rfl)
    obtain ⟨dn, hdn', hdnn⟩ := paired_get prd (show ((List.range (R.ticks + 1)).map R.behindAt)[i' + 1]? = some (R.behindAt (i' + 1)) by rw [List.getElem?_map, List.getElem?_range (by omega)]; rfl)
    have hd5 : H5 dt = some (.dT (enc V.int (R.behindAt i'))) := s5 _ _ hdd
    have hd6 := s6 _ _ hd5
    have hdst : dt ≠ st := ne_of_none hd5 hst
    have hdnst : dn ≠ st := ne_of_none (s5 _ _ hdnn) hst
    have hLst : L ≠ st := ne_of_none (s5 _ _ eL) hst
    have bl : (R.behindAt i').length ≤ 6561 := behAt_len ok _ (by omega)
    refine wb_cons <| ws_forKeys PassesOwn.never rfl (fun _ => rfl) hd6 fun od Hg bg eg => ?_
    have hdtL : L ≠ dt := ne_of (s5 _ _ eL) hd5 (by intro z; cases z)
    have eLg : Hg L = some (.lst (ds.map V.ref)) := bg _ _ (s6 _ _ (s5 _ _ eL)) hdtL
    have eng : Hg st = some (.lst []) := bg _ _ eS hdst.symm
    have hRg : RecAt K Hg p R := (hRR.mono (Same.trans s1 (Same.trans s5 s6))).but bg hd6 (fun z => z)
    have rdn : Rd Hg dn (.dT (enc V.int (R.behindAt (i' + 1)))) := Rd.lock hd6 bg eg (s6 _ _ (s5 _ _ hdnn))
    refine we_ix ix_list <| we_var 1 rfl <| we_var 3 rfl ⟨L, _, _, _, rfl, rfl, SqL.of eLg, at_of (j := i') (v := .ref dt) rfl (by rw [List.getElem?_map, hdt]; rfl), rfl, eg, fun j σ H' => But st Hg H' ∧ TripsAt H' st (((R.behindAt i').take j).flatMap fun e => R.openOf i' (R.behindAt (i' + 1)) e.1) ∧ ∃ v5 v6 v7 v8, σ = [some (.ref p), some (.ref L), some (.ref F), some (.int (i' : Nat)), some (.ref st), v5, v6, v7, v8], ⟨But.same fun _ _ e => e, ⟨[], eng, .nil⟩, _, _, _, _, rfl⟩, ?_, ?_⟩
    · rintro j k v z σ H9 hk ⟨b9, ⟨us, e9, pr9⟩, v5, v6, v7, v8, rfl⟩ hd9 hz
      obtain ⟨pl, y, hDj, rfl, rfl⟩ := enc_at hk
      have hmem := List.mem_of_getElem? hDj
      have hp0 : 0 ≤ pl.1 := ok.behind0 (Nat.le_of_lt hti) pl (List.mem_map.mpr ⟨_, hmem, rfl⟩)
      have efj := flatMap_take_succ (fun e : Pl × Int => R.openOf i' (R.behindAt (i' + 1)) e.1) hDj
      have ol : ∀ q, (R.openOf i' (R.behindAt (i' + 1)) q).length ≤ 10 := fun q => by
        unfold Rec.openOf
        rw [List.length_map]
        have h1 := List.length_filter_le (fun s : Nat × Pl => (getD? (R.behindAt (i' + 1)) s.2).isSome) (R.steps i' q)
        have h2 := R.steps_len i' q
        omega
      have fl := flat_len (fun e : Pl × Int => R.openOf i' (R.behindAt (i' + 1)) e.1) 10 ((R.behindAt i').take j) fun e _ => ol e.1
      have ul := paired_len pr9
      have tkl := List.length_take_le' j (R.behindAt i')
      have hR9 : RecAt K H9 p R := hRg.but b9 eng (fun z => z)
      obtain ⟨f9, hRf9⟩ := id hR9
      obtain ⟨dx9, m9, t9, qs9, h19, _⟩ := hRf9.ex
      have eL9 : H9 L = some (.lst (ds.map V.ref)) := b9 _ _ eLg hLst
      have rdn9 : Rd H9 dn (.dT (enc V.int (R.behindAt (i' + 1)))) := Cab.Rd.but b9 hdnst rdn
      refine wg_name 5 ?_ sc_Record_open_steps.nd
      refine wb_cons <| ws_set 6 (we_meth (ok_Record_steps_from T) (T.c c_Record) (T.m m_Record_steps_from) hr <| we_var 0 rfl ⟨p, dx9, _, rfl, h19, by kernel_rfl, wa_cons <| we_var 3 rfl <| wa_cons <| we_var 5 rfl <| wa_nil ⟨_, _, _, rfl, p, R, i', z, pl, rfl, hR9, ok, rfl, hti, rfl, hz, hp0, fun l8 H10 s10 nl8 hl8 => ?_⟩⟩) sc_Record_open_steps.nd
      obtain ⟨ts, el8, prs⟩ := hl8
      have tsl := paired_len prs
      have stl := R.steps_len i' pl
      have e10 := s10 _ _ e9
      refine wb_cons <| ws_expr <| wE (pe_bm PySem.F.plainAttrs_list PySem.F.slot_list_extend PySem.F.type_list_extend mt_extend pE (pa_cons pE pa_nil)) <| we_var 4 rfl ⟨.inl ⟨rfl, _, SqL.of e10⟩, ?_⟩
      refine we_lc sc_Record_open_steps [("digit", 7), ("goal", 8)] <| wi_list <| we_var 6 rfl ⟨l8, _, rfl, SqL.of el8, _, _, _, walk_list (xs := ts.map V.ref), fun D hD => ⟨fun n acc H' => Same H10 H' ∧ ∃ vs : List Addr, acc = vs.map V.ref ∧ Paired (TripAt H') vs ((((R.steps i' pl).take n).filter fun s => (getD? (R.behindAt (i' + 1)) s.2).isSome).map fun s => (pl, s.1, s.2)), fun H' s' _ => ⟨s', [], rfl, .nil⟩, fun _ _ _ _ z _ => z.1.seq (SqL.of el8), ?_, by rw [List.length_map]; omega, ?_⟩⟩
      · rintro n acc x H11 H12 hn ha ⟨s11, vs, rfl, prv⟩ hDl ⟨rfl, hu⟩ s0 H0 C cl fp
        obtain ⟨u', hu', rfl⟩ := map_get hu
        obtain ⟨⟨dd, g⟩, hst', hstep⟩ := paired_get' prs hu'
        obtain ⟨gad, est, eg11⟩ := hstep.mono s11
        have eft := fil_take_succ (fun s : Nat × Pl => (getD? (R.behindAt (i' + 1)) s.2).isSome) (fun s : Nat × Pl => (pl, s.1, s.2)) hst'
        have s911 : Same H9 H12 := Same.trans s10 s11
        have rd11 := Rd.get (f := V.int) (Cab.Rd.same s911 rdn9) eg11
        refine wg_tup2 7 8 (SqT.of est) ⟨rfl, fun s0 H0 C cl fp => ?_⟩ rfl sc_Record_open_steps.nd
        refine wts_one <| wt_din hr <| we_var 8 rfl <| we_ix ix_list <| we_var 1 rfl <| we_add <| we_var 3 rfl <| we_int ⟨_, _, rfl, rfl, L, _, _, _, rfl, rfl, SqL.of (s911 _ _ eL9), at_of (j := i' + 1) (v := .ref dn) rfl (by rw [List.getElem?_map, hdn']; rfl), dn, _, rfl, rd11, ?_⟩
        rw [Option.isSome_map]
        cases hk : (getD? (R.behindAt (i' + 1)) g).isSome with
        | false =>
          refine iteF ⟨⟨s11, vs, rfl, ?_⟩, hDl⟩
          rw [eft]
          show Paired _ _ (_ ++ if (getD? (R.behindAt (i' + 1)) g).isSome = true then _ else _)
          rw [hk, if_neg Bool.false_ne_true, List.append_nil]
          exact prv
        | true =>
          refine iteT fun s0 H0 C cl fp => we_tup <| wa_cons <| we_var 5 rfl <| wa_cons <| we_var 7 rfl <| wa_cons <| we_var 8 rfl <| wa_nil ⟨by show 3 ≤ sizeLine; decide, fun u H13 hu s13 e13 => ⟨s13 _ _ hDl, fun H14 b14 e14 => ⟨But.of_new (Same.trans s11 s13) hD b14, vs ++ [u], by rw [List.map_append]; rfl, ?_⟩⟩⟩
          rw [eft]
          show Paired _ _ (_ ++ if (getD? (R.behindAt (i' + 1)) g).isSome = true then _ else _)
          rw [hk, if_pos rfl]
          have hD13 := s13 _ _ hDl
          exact paired_snoc (Paired.mapP prv fun a c h => (h.mono s13).but b14 hD13 (fun z => z)) (TripAt.but b14 hD13 (fun z => z) ⟨z, gad, e13, s13 _ _ (s911 _ _ hz), s13 _ _ eg11⟩)
      · rintro acc H11 ha ⟨s11, vs, rfl, prv⟩ hDl
        rw [List.length_map, tsl, List.take_length] at prv
        have e11 := s11 _ _ e10
        have vl := paired_len prv
        have vl2 := ol pl
        have prv' : Paired (TripAt H11) vs (R.openOf i' (R.behindAt (i' + 1)) pl) := prv
        have vl3 := paired_len prv'
        refine ⟨st, D, us.map V.ref, vs.map V.ref, rfl, rfl, e11, hDl, sz_le (by rw [List.length_map, List.length_map]; omega), ?_⟩
        have b12 : But st H11 (upd H11 st (.lst (us.map V.ref ++ vs.map V.ref))) := But.upd
        have e12 : (upd H11 st (.lst (us.map V.ref ++ vs.map V.ref))) st = some (.lst (us.map V.ref ++ vs.map V.ref)) := upd_same
        generalize upd H11 st (.lst (us.map V.ref ++ vs.map V.ref)) = H12 at b12 e12
        have s911 : Same H9 H11 := Same.trans s10 s11
        refine wb_nil ⟨⟨But.trans b9 (But.trans (But.same s911) b12), ⟨us ++ vs, by rw [List.map_append]; exact e12, ?_⟩, _, _, _, _, rfl⟩, b12 _ _ (s911 _ _ hd9) hdst⟩
        rw [efj]
        have app : ∀ {l1 l2 : List Addr} {m1 m2 : List (Pl × Nat × Pl)}, Paired (TripAt H12) l1 m1 → Paired (TripAt H12) l2 m2 → Paired (TripAt H12) (l1 ++ l2) (m1 ++ m2) := by
          intro l1 l2 m1 m2 h1 h2
          induction h1 with
          | nil => exact h2
          | cons r t ih => exact .cons r ih
        exact app (Paired.mapP pr9 fun a c h => (h.mono s911).but b12 e11 (fun z => z)) (Paired.mapP prv' fun a c h => h.but b12 e11 (fun z => z))
    · rintro σ H9 ⟨b9, ⟨us, e9, pr9⟩, v5, v6, v7, v8, rfl⟩ hd9 H10 b10 e10
      have s510 := same_locked hst s6 hd6 bg b9 b10 e10
      rw [enc_len, List.take_length] at pr9
      have hst10 : TripsAt H10 st (R.openAt i') := ⟨us, b10 _ _ e9 hdst.symm, Paired.mapP pr9 fun a c h => h.but b10 hd9 (fun z => z)⟩
      have ll := paired_len prl
      rw [List.length_map, List.length_range] at ll
      have eF10 := s510 _ _ eF5
      refine wb_cons <| ws_append <| we_var 2 rfl ⟨F, rfl, ⟨_, eF10⟩, we_var 4 rfl ⟨ls.map V.ref, eF10, sz_lt (by rw [List.length_map]; omega), fun H11 b11 e11 => wb_nil ⟨But.of_new (Same.trans s5 s510) nF b11, ⟨ls ++ [st], by rw [List.map_append]; exact e11, ?_⟩, _, _, _, _, _, _, rfl⟩⟩⟩
      rw [range_map_last]
      have keep : ∀ a (c : List (Pl × Nat × Pl)), a ≠ F → TripsAt H10 a c → TripsAt H11 a c := fun a c n ⟨ts, x1, x2⟩ => ⟨ts, b11 _ _ x1 n, Paired.mapP x2 fun _ _ h => h.but b11 eF10 (fun z => z)⟩
      have nst : st ≠ F := fun z => by
        rw [z, eF5] at hst
        cases hst
      exact paired_snoc (Paired.mapP prl fun a c h => ⟨keep a c h.2 (h.1.mono s510), h.2⟩) ⟨keep st _ nst hst10, nst⟩
  · rintro σ H4 ⟨s4, hd, v3, v4, v5, v6, v7, v8, rfl⟩
    rw [List.length_map, List.length_range] at hd
    obtain ⟨ls, a1, a2⟩ := hd
    exact wb_cons <| ws_ret <| we_var 2 rfl <| q F H4 (Same.trans s1 s4) ⟨ls, a1, Paired.mapP a2 fun _ _ h => h.1⟩
end
end Cab
/-! text CabR7 -/
set_option Elab.async false
set_option linter.all false
set_option maxRecDepth 100000
set_option maxHeartbeats 4000000
namespace Cab
open PySem PySem.Spec PyProof.Rows L2 He
/-! ### a dict made on the way, walked -/
section
variable {X : Cx} {tg iter e : Expr} {σ : L2.St} {H : Hp}
theorem wi_keysL {R : It → Hp → Prop} (h : WE X iter σ H fun x H1 => ∃ d kvs, x = .ref d ∧ H1 d = some (.dT kvs) ∧ ∀ od Hf, But d H1 Hf → Hf d = some (.frz od (.dT kvs)) → (∀ o' u', X.H_0 d ≠ some (.frz o' u')) → R (Itkt d od kvs) Hf) : WI X tg iter σ H R := by
  refine wi_keysT fun pins s I => thn (h pins s I) fun v s1 ⟨x, H1, I1, r1, d, kvs, ex, hd, k⟩ => ?_
  obtain ⟨od, I2⟩ := I1.lock hd trivial
  exact ⟨x, _, I2, r1, d, od, kvs, ex, upd_same, k od _ But.upd upd_same (I1.nofrz hd trivial)⟩
theorem we_unlock {Q : VK} (h : WE X e σ H fun v H' => ∃ d od kvs, H' d = some (.frz od (.dT kvs)) ∧ (∀ o' u', X.H_0 d ≠ some (.frz o' u')) ∧ ∀ H'', But d H' H'' → H'' d = some (.dT kvs) → Q v H'') : WE X e σ H Q :=
  fun pins s I => thn (h pins s I) fun _ s' ⟨v, H', I', r, d, od, kvs, e, nf, k⟩ => ⟨v, _, I'.unlock e nf, r, k _ But.upd upd_same⟩
end
/-! ### bounds -/
theorem okMet.jumps_le {M : Met} (ok : okMet M) {c : Int} (h0 : 0 ≤ c) : M.jumpsAt c ≤ 1 + c := by
  unfold Met.jumpsAt
  split
  · omega
  · have h1 := ok.d1
    have h2 := ok.f1
    have h3 : (c - M.first) / M.drop ≤ c - M.first := by
      have := Int.ediv_le_self (a := c - M.first) M.drop (by omega)
      omega
    omega
theorem okRec.aheadB {R : Rec} (ok : okRec R) : ∀ t, ∀ x ∈ (R.aheadD t).map (·.1), 0 ≤ x.1 ∧ x.1 ≤ 60 * (t : Int) ∧ 0 ≤ x.2 ∧ x.2 ≤ 9 * (t : Int)
  | 0, x, h => by
    obtain ⟨e, he, q⟩ := List.mem_map.mp h
    obtain ⟨p, hp, e2⟩ := List.mem_map.mp (show e ∈ R.begins.map _ from he)
    unfold Rec.begins at hp
    split at hp
    · rw [← q, ← e2, List.mem_singleton.mp hp]
      exact ⟨Int.le_refl _, Int.le_refl _, Int.le_refl _, Int.le_refl _⟩
    · cases hp
  | t + 1, x, h => by
    rcases (fold_mem R t (R.aheadD t) []).mp h with z | ⟨e, he, z⟩
    · cases z
    · obtain ⟨d, hd, rfl⟩ := steps_snd z
      have h1 := okRec.aheadB ok t e.1 (List.mem_map.mpr ⟨e, he, rfl⟩)
      have h2 := Rec.left_lt ok.top t d hd
      have h3 := ok.met.worth0 (R.met.jumpsAt e.1.1) h2
      have e1 : (R.met.next e.1 d).1 = e.1.1 + R.met.worth (R.met.jumpsAt e.1.1) d := rfl
      have e2 : (R.met.next e.1 d).2 = e.1.2 + (d : Int) := rfl
      rw [e1, e2]
      have e3 : ((t + 1 : Nat) : Int) = (t : Int) + 1 := by omega
      rw [e3]
      omega
theorem okRec.behindB {R : Rec} (ok : okRec R) {t : Nat} (ht : t ≤ R.ticks) : ∀ x ∈ (R.behindAt t).map (·.1), 0 ≤ x.1 ∧ x.1 ≤ 480 ∧ 0 ≤ x.2 ∧ x.2 ≤ 72 := fun x hx => by
  have h := beh_sub R (R.ticks - t) (by omega) x hx
  have h2 := ok.aheadB _ x h
  have h3 := ok.t
  omega
theorem pw_lt {l : List Int} (h : l.Pairwise (· ≤ ·)) (n : l.Nodup) : l.Pairwise (· < ·) := by
  have h2 : l.Pairwise (fun a b => a ≤ b ∧ a ≠ b) := List.pairwise_and_iff.mpr ⟨h, n⟩
  exact h2.imp fun ⟨a, b⟩ => by omega
theorem inl_nodup {l : List Int} : (l.map (Sum.inl : Int → Key)).Nodup ↔ l.Nodup := by
  rw [List.nodup_iff_pairwise_ne, List.nodup_iff_pairwise_ne, List.pairwise_map]
  constructor
  · exact fun h => h.imp fun h e => h (congrArg _ e)
  · exact fun h => h.imp fun h e => h (by injection e)
theorem inr_nodup {l : List Str} : (l.map (Sum.inr : Str → Key)).Nodup ↔ l.Nodup := by
  rw [List.nodup_iff_pairwise_ne, List.nodup_iff_pairwise_ne, List.pairwise_map]
  constructor
  · exact fun h => h.imp fun h e => h (congrArg _ e)
  · exact fun h => h.imp fun h e => h (by injection e)
open Classical in
noncomputable def addS {α : Type} (ns : List α) (x : α) : List α := if x ∈ ns then ns else ns ++ [x]
theorem addK_inl (ns : List Int) (x : Int) : addK (ns.map Sum.inl) (Sum.inl x) = (addS ns x).map Sum.inl := by
  unfold addK addS
  have e : (Sum.inl x : Key) ∈ ns.map (Sum.inl : Int → Key) ↔ x ∈ ns := by
    rw [List.mem_map]
    constructor
    · rintro ⟨y, hy, e⟩
      injection e with e
      exact e ▸ hy
    · exact fun h => ⟨x, h, rfl⟩
  by_cases h : x ∈ ns
  · rw [if_pos (e.mpr h), if_pos h]
  · rw [if_neg (fun z => h (e.mp z)), if_neg h, List.map_append]
    rfl
theorem addK_inr (ns : List Str) (x : Str) : addK (ns.map Sum.inr) (Sum.inr x) = (addS ns x).map Sum.inr := by
  unfold addK addS
  have e : (Sum.inr x : Key) ∈ ns.map (Sum.inr : Str → Key) ↔ x ∈ ns := by
    rw [List.mem_map]
    constructor
    · rintro ⟨y, hy, e⟩
      injection e with e
      exact e ▸ hy
    · exact fun h => ⟨x, h, rfl⟩
  by_cases h : x ∈ ns
  · rw [if_pos (e.mpr h), if_pos h]
  · rw [if_neg (fun z => h (e.mp z)), if_neg h, List.map_append]
    rfl
/-- a set in the making: what the first i gave -/
def SetOf {α : Type} (f : Nat → α) (i : Nat) (ns : List α) : Prop := ns.Nodup ∧ ∀ x, x ∈ ns ↔ ∃ j, j < i ∧ f j = x
theorem SetOf.step {α : Type} {f : Nat → α} {i : Nat} {ns : List α} (h : SetOf f i ns) : SetOf f (i + 1) (addS ns (f i)) := by
  obtain ⟨h1, h2⟩ := h
  unfold addS
  by_cases hm : f i ∈ ns
  · rw [if_pos hm]
    refine ⟨h1, fun x => ?_⟩
    rw [h2 x]
    constructor
    · exact fun ⟨j, a, b⟩ => ⟨j, by omega, b⟩
    · rintro ⟨j, a, b⟩
      by_cases e : j = i
      · subst e
        rw [b] at hm
        exact (h2 x).mp hm
      · exact ⟨j, by omega, b⟩
  · rw [if_neg hm]
    refine ⟨List.nodup_append.mpr ⟨h1, by simp, fun a ha b hb => by
      rw [List.mem_singleton.mp hb]
      intro e
      exact hm (e ▸ ha)⟩, fun x => ?_⟩
    rw [List.mem_append, List.mem_singleton, h2 x]
    constructor
    · rintro (⟨j, a, b⟩ | e)
      · exact ⟨j, by omega, b⟩
      · exact ⟨i, by omega, e.symm⟩
    · rintro ⟨j, a, b⟩
      by_cases e : j = i
      · subst e
        exact .inr b.symm
      · exact .inl ⟨j, by omega, b⟩
theorem setOf_mem {α β : Type} {g : β → α} {d : β} {l : List β} {ns : List α} (h : SetOf (fun i => g (l.getD i d)) l.length ns) (x : α) : x ∈ ns ↔ x ∈ l.map g := by
  rw [h.2 x, List.mem_map]
  constructor
  · rintro ⟨j, a, b⟩
    refine ⟨l.getD j d, ?_, b⟩
    rw [List.getD_eq_getElem?_getD, List.getElem?_eq_getElem a]
    exact List.getElem_mem a
  · rintro ⟨y, hy, e⟩
    obtain ⟨j, hj, e2⟩ := List.mem_iff_getElem.mp hy
    refine ⟨j, hj, ?_⟩
    show g (l.getD j d) = x
    rw [List.getD_eq_getElem?_getD, List.getElem?_eq_getElem hj, ← e, ← e2]
    rfl
section
variable {P : Program} {w : World} {K : PySem.W.Frag} {mg : Str → Option Value} {base : Heap}
def spWays (K : PySem.W.Frag) : Sp := sp2 fun a b H Q => ∃ (p : Addr) (R : Rec) (t : Nat), a = .ref p ∧ RecAt K H p R ∧ okRec R ∧ b = .int (t : Nat) ∧ t ≤ R.ticks ∧ ∀ (ws : List Int) (l : Addr) (H' : Hp), Same H H' → ws.Pairwise (· < ·) → (∀ x, x ∈ ws ↔ x ∈ (R.behindAt t).map fun e => e.1.2) → H' l = some (.lst (ws.map V.int)) → Q (.ref l) H'
theorem ok_Record_ways (T : TX K mg) : FnP P w K mg base d_Record_ways 10 ["self", "tick"] (spWays K) [] := by
  refine fn2 (T.d D_Record_ways) rfl sc_Record_ways bd_Record_ways fun cdv A outer s H Q E a b hr h => ?_
  obtain ⟨p, R, tk, rfl, hRR, ok, rfl, htk, q⟩ := h
  obtain ⟨f, hR⟩ := id hRR
  obtain ⟨dx, m, t, qs, h1, h2, h3, h4, h5⟩ := hR.ex
  have hl3 : (((List.range R.ticks).map fun (i : Nat) => V.int ((i : Nat) : Int)).length : Int) = (R.ticks : Nat) := by rw [List.length_map, List.length_range]
  refine wb_cons <| ws_expr <| we_meth (ok_Record_check_tick T) (T.c c_Record) (T.m m_Record_check_tick) hr <| we_var 0 rfl ⟨p, dx, _, rfl, h1, by kernel_rfl, wa_cons <| we_var 1 rfl <| wa_cons <| we_blt call_len_seq (T.fr f_len) boot_len <| wa_cons <| we_rfld (T := T) (T.n n_Record_own_ticks) h1 rFs_t (we_var 0 rfl ⟨rfl, rfl⟩) <| wa_nil ⟨t, _, rfl, .inr (SqT.of h3), wa_nil ⟨_, _, _, rfl, _, _, rfl, rfl, by omega, by rw [hl3]; omega, ?_⟩⟩⟩
  refine wb_cons <| ws_ret <| we_blt (cr_sortedMI rfl) (T.fr f_sorted) (by decide +kernel) <| wa_cons <| we_unlock <| we_sc sc_Record_ways [("place", 2)] <| wi_keysL <| we_ix ix_list <| we_meth0 (ok_Record_numbers_behind T) (T.c c_Record) (T.m m_Record_numbers_behind) hr <| we_var 0 rfl ⟨p, dx, _, rfl, h1, by kernel_rfl, _, rfl, p, R, rfl, hRR, ok, fun L H1 s1 hl => ?_⟩
  obtain ⟨ds, eL, prd⟩ := hl
  obtain ⟨d, hd, hdd⟩ := paired_get prd (show ((List.range (R.ticks + 1)).map R.behindAt)[tk]? = some (R.behindAt tk) by rw [List.getElem?_map, List.getElem?_range (by omega)]; rfl)
  refine we_var 1 rfl ⟨L, _, _, _, rfl, rfl, SqL.of eL, at_of (j := tk) (v := .ref d) rfl (by rw [List.getElem?_map, hd]; rfl), d, _, rfl, hdd, fun od Hf bf ef nf => ?_⟩
  have B := ok.behindB htk
  generalize hG : (fun i => ((R.behindAt tk).getD i ((0, 0), 0)).1.2) = g
  refine ⟨_, _, _, walk_keysT, fun D hD => ⟨fun i acc H' => Same Hf H' ∧ ∃ ns : List Int, acc = ns.map Sum.inl ∧ SetOf g i ns, fun H' s' => ⟨s', [], rfl, List.nodup_nil, fun x => ⟨(fun z => by cases z), fun ⟨j, z, _⟩ => by omega⟩⟩, fun _ _ _ _ z _ => z.1 _ _ ef, ?_, ?_⟩⟩
  · rintro i acc x H2 H3 hi ⟨s2, ns, rfl, hns⟩ hDl ⟨rfl, k, v, z, hk, rfl, hz⟩ s0 H0 C cl fp
    obtain ⟨pl, y, hDi, rfl, rfl⟩ := enc_at hk
    have eg : g i = pl.2 := by
      rw [← hG]
      show ((R.behindAt tk).getD i ((0, 0), 0)).1.2 = _
      rw [List.getD_eq_getElem?_getD, hDi]
      rfl
    have nsB : ns.length ≤ 73 := by
      have := nodup_le ns ((List.range 73).map fun (n : Nat) => ((n : Nat) : Int)) hns.1 fun x hx => by
        obtain ⟨j, hj, e⟩ := (hns.2 x).mp hx
        rw [← hG] at e
        rw [enc_len] at hi
        have hj2 : j < (R.behindAt tk).length := by omega
        have e2 : ((R.behindAt tk).getD j ((0, 0), 0)) ∈ R.behindAt tk := by
          rw [List.getD_eq_getElem?_getD, List.getElem?_eq_getElem hj2]
          exact List.getElem_mem hj2
        have b1 := B _ (List.mem_map.mpr ⟨_, e2, rfl⟩)
        have e3 : ((R.behindAt tk).getD j ((0, 0), 0)).1.2 = x := e
        rw [e3] at b1
        exact List.mem_map.mpr ⟨x.toNat, List.mem_range.mpr (by omega), by omega⟩
      rw [List.length_map, List.length_range] at this
      exact this
    refine wg_name 2 ⟨rfl, fun s0 H0 C cl fp => wts_nil <| iteT fun s0 H0 C cl fp => we_pl1 (pl := pl) <| we_var 2 rfl ⟨rfl, hz, Sum.inl pl.2, rfl, hDl, by rw [List.length_map]; show _ < 4096; omega, fun H5 b5 e5 => ⟨But.of_new s2 hD b5, _, addK_inl ns pl.2, ?_⟩⟩⟩ sc_Record_ways.nd
    have := hns.step
    rw [eg] at this
    exact this
  rintro acc H2 ⟨s2, ns, rfl, hns⟩ hDl
  refine ⟨d, od, _, s2 _ _ ef, nf, fun H3 b3 e3 => ?_⟩
  have s13 : Same H1 H3 := same_locked0 hdd bf s2 b3 e3
  have nDd : D ≠ d := fun z => by
    rw [z, ef] at hD
    cases hD
  refine wa_nil ⟨D, ns, rfl, b3 _ _ hDl nDd, fun ns' l H4 pm pw hl s4 e4 => q ns' l H4 (Same.trans s1 (Same.trans s13 s4)) (pw_lt pw (pm.nodup_iff.mpr hns.1)) (fun x => ?_) e4⟩
  rw [pm.mem_iff]
  rw [← hG, enc_len] at hns
  exact setOf_mem (g := fun e : Pl × Int => e.1.2) hns x
end
end Cab
/-! text CabQ8 -/
set_option Elab.async false
set_option linter.all false
set_option maxRecDepth 100000
set_option maxHeartbeats 2000000
/-! a dict comprehension over a dict made on the way, assigned (after the library's rule for lists) -/
namespace Cab
open PySem PySem.Spec PyProof.Rows L2 He
section
variable {X : Cx}
theorem swD_true {kx vx : Expr} {gs : List Comprehension} {scope : Scope} {pos py : Pos} {y : PySem.Str} {l : Nat} {env : Env} (hk : env.scope.kind = .function) (hy : env.scope.names.lookup y = some .local) (hl : (py.line == pos.line) = true)
    (ha : (scope.names.any fun (n, k) => n == y && (k == .local || k == .cell)) = false) : swapsWith (.DictComp kx vx gs scope pos) (some (.Name y py)) l env = pure true := by
  have ky : env.kindOf y = some .local := hy
  have hb : env.blockKind = .function := by unfold Env.blockKind; rw [hk]; rfl
  unfold swapsWith
  simp only [hb, ky, ha, Expr.pos, hl]
  rfl
theorem ps_setDcT {i : Nat} {y : PySem.Str} {py : Pos} {kx vx tg iter : Expr} {ifs : List Expr} {scope : Scope} {own : List (PySem.Str × Nat)} {pos spos : Pos} {wi : L2.TI} {g : TG} {tt : TT} {tk tv : TE} (hu' : X.A.units + 1 < cLine) (hc : X.calm = true) (hN : X.N.Nodup) (hy : X.N[i]? = some y) (hyl : X.env.scope.names.lookup y = some .local)
    (hsw : swapsWith (.DictComp kx vx [⟨tg, iter, ifs, 0⟩] scope pos) (some (.Name y py)) spos.line X.env = pure true) (hi : PI X tg iter wi) (ok : BlkOk X.N X.env.scope scope own)
    (hg : ∀ (s : Shared) (H : Hp) (C : Addr) (cl : List (PySem.Str × Addr)) (fp : List Addr), PG (X.blk s H scope (compEnvC scope cl C X.env) fp) tg g) (ht : ∀ (s : Shared) (H : Hp) (C : Addr) (cl : List (PySem.Str × Addr)) (fp : List Addr), PTs (X.blk s H scope (compEnvC scope cl C X.env) fp) ifs tt)
    (hk : ∀ (s : Shared) (H : Hp) (C : Addr) (cl : List (PySem.Str × Addr)) (fp : List Addr), PE (X.blk s H scope (compEnvC scope cl C X.env) fp) kx tk)
    (he : ∀ (s : Shared) (H : Hp) (C : Addr) (cl : List (PySem.Str × Addr)) (fp : List Addr), PE (X.blk s H scope (compEnvC scope cl C X.env) fp) vx tv) (hs : ∀ x, foldedSetIterable iter X.env x = pure x := by intro _; rfl) :
    PS X (.Assign [.Name y py] (.DictComp kx vx [⟨tg, iter, ifs, 0⟩] scope pos) spos) (fun D σ H => tDcT wi g tt tk tv (own.map (·.2)) σ H (fun x H1 => gName i x σ H1 D.nx)) := by
  refine ⟨fun pins s σ H D I h => ?_⟩
  rw [exec_Assign_Name_used _ _ _ _ hsw]
  refine wpAny_bind (wpAny_standAt (wpAny_bind ?_))
  show wpAny _ X.A (do let _ ← comprehension (.DictComp kx vx [⟨tg, iter, ifs, 0⟩] scope pos) scope X.env (firstIterPos [⟨tg, iter, ifs, 0⟩] pos) newDict false (eval iter X.env) (some (assign (.Name y py) X.env))) _ _ s
  refine wpAny_bind (thn (dcT_core (Qf := fun _ s' => SP X pins D .next s') hu' hc hN I hi ok hg ht hk he hs h fun L C s' m H' I' q hn f => ?_) fun _ s' hq => wpAny_pure (wpAny_pure hq))
  show wpAny _ _ (assign (.Name y py) X.env (.ref L)) _ _ _
  refine wpAny_assign_Name (store_ok2 (v := V.ref L) I' hN hy (.inl hyl) rfl (fun s2 I2 ⟨a, sb, ha⟩ => ?_) (.inr hyl))
  obtain ⟨f0, f1, f2, f3, f4, f5⟩ := f
  have haC : C ≠ a := by
    rcases ha with z | z
    · rw [z]; exact f1
    · exact fun e => f4 y a z e.symm
  refine ⟨m, hn.sameBut sb haC, fun h3 sb3 => ?_⟩
  exact ⟨_, H', I2.turned (t' := s2.toks) (fun b o hb e => (sb3.2 b hb).trans e) f0 f1 f3 f4 f5, q⟩
variable {kx vx tg iter : Expr} {ifs : List Expr} {scope : Scope} {pos : Pos} {σ : L2.St} {H : Hp}
theorem ws_setDc {D : Ends} {y : PySem.Str} {py spos : Pos} {N ps : List PySem.Str} {sc : Scope} {j : Nat} (hr : Room j X.A) (S : FnScope N ps sc) (i : Nat) (own : List (PySem.Str × Nat)) (h : WI X tg iter σ H fun J H1 => DcR X scope kx vx tg ifs (own.map (·.2)) σ J H1 fun v H' => D.nx (σ.set i (some v)) H') (ok : blkC N sc scope own = true := by decide +kernel) (eN : X.N = N := by rfl) (eS : X.env.scope = sc := by rfl)
    (hy : X.N[i]? = some y := by rfl) (hyl : X.env.scope.names.lookup y = some .local := by rfl) (hl : (py.line == pos.line) = true := by rfl) (ha : (scope.names.any fun (n, k) => n == y && (k == .local || k == .cell)) = false := by decide +kernel)
    (hk : X.env.scope.kind = .function := by rfl) (hc : X.calm = true := by rfl) (hs : ∀ x, foldedSetIterable iter X.env x = pure x := by intro _; rfl) : WS X (.Assign [.Name y py] (.DictComp kx vx [⟨tg, iter, ifs, 0⟩] scope pos) spos) D σ H :=
  wS (ps_setDcT (i := i) (own := own) (hu_of hr) hc (by rw [eN]; exact S.nd) hy hyl (swD_true hk hyl hl ha) pI (by rw [eN, eS]; exact blkOk_by ok) pgU ptU peU peU hs)
    (show tDcT _ _ _ _ _ _ σ H (fun x H1 => gName i x σ H1 D.nx) from fun pins s I => thn (h pins s I) fun v s1 k => thn k fun itv s2 ⟨it, fp, tn, J, H', e1, I2, T, t0, hf, r⟩ => ⟨it, fp, tn, J, H', e1, I2, T, t0, hf, dcR r⟩)
/-- a statement at whose end a dict that was locked is unlocked -/
theorem ws_unlock {st : Stmt} {D : Ends} (h : WS X st { nx := fun σ' H' => ∃ d od kvs, H' d = some (.frz od (.dT kvs)) ∧ (∀ o' u', X.H_0 d ≠ some (.frz o' u')) ∧ ∀ H'', But d H' H'' → H'' d = some (.dT kvs) → D.nx σ' H'', rt := fun _ _ => False, bk := fun _ _ => False, ct := fun _ _ => False } σ H) : WS X st D σ H := by
  intro pins s I
  refine thn (h pins s I) fun f s' q => ?_
  cases f with
  | next =>
    obtain ⟨σ', H', I', d, od, kvs, e, nf, k⟩ := q
    exact ⟨σ', _, I'.unlock e nf, k _ But.upd upd_same⟩
  | brk => obtain ⟨_, _, _, z⟩ := q; exact z.elim
  | cont => obtain ⟨_, _, _, z⟩ := q; exact z.elim
  | ret u => obtain ⟨_, _, _, _, _, z⟩ := q; exact z.elim
end
end Cab
/-! text CabR8 -/
set_option Elab.async false
set_option linter.all false
set_option maxRecDepth 100000
set_option maxHeartbeats 4000000
namespace Cab
open PySem PySem.Spec PyProof.Rows L2 He
theorem dg_inj {a b : Nat} (h : dg a = dg b) : a = b := by
  have e := congrArg (fun z : Str => z.cps.toList) h
  have e2 : [48 + a] = [48 + b] := e
  injection e2 with e3
  omega
theorem dec_dg (a b : Nat) : decide (V.str (dg a) = V.str (dg b)) = decide (a = b) := by
  apply decide_eq_decide.mpr
  constructor
  · intro z
    injection z with z
    exact dg_inj z
  · intro z
    rw [z]
def Rec.fitsP (R : Rec) (l : List Nat) : Nat → List Pl
  | 0 => R.begins
  | t + 1 => (R.fitsP l t).flatMap fun p => ((R.steps t p).filter fun s => decide (s.1 = l.getD t 0)).map (·.2)
theorem fitsP_len (R : Rec) (l : List Nat) : ∀ t, (R.fitsP l t).length ≤ (R.top + 1) ^ t
  | 0 => by
    show R.begins.length ≤ (R.top + 1) ^ 0
    rw [Nat.pow_zero]
    exact R.begins_len
  | t + 1 => by
    have h1 := flat_len (fun p => ((R.steps t p).filter fun s => decide (s.1 = l.getD t 0)).map (·.2)) (R.top + 1) (R.fitsP l t) fun p _ => by
      rw [List.length_map]
      exact Nat.le_trans (List.length_filter_le _ _) (R.steps_len t p)
    have h2 := Nat.mul_le_mul_right (R.top + 1) (fitsP_len R l t)
    rw [← Nat.pow_succ] at h2
    exact Nat.le_trans h1 h2
theorem fitsP_0 {R : Rec} (ok : okRec R) (l : List Nat) : ∀ t, ∀ x ∈ R.fitsP l t, 0 ≤ x.1
  | 0, x, h => by
    have h : x ∈ R.begins := h
    unfold Rec.begins at h
    split at h
    · rw [List.mem_singleton.mp h]
      exact Int.le_refl _
    · cases h
  | t + 1, x, h => by
    obtain ⟨p, hp, h2⟩ := List.mem_flatMap.mp (show x ∈ (R.fitsP l t).flatMap _ from h)
    obtain ⟨s, hs, e⟩ := List.mem_map.mp h2
    have h3 : x ∈ (R.steps t p).map (·.2) := List.mem_map.mpr ⟨s, (List.mem_filter.mp hs).1, e⟩
    obtain ⟨d, hd, rfl⟩ := steps_snd h3
    exact ok.met.countOn0 (fitsP_0 ok l t p hp) (Rec.left_lt ok.top t d hd)
section
variable {P : Program} {w : World} {K : PySem.W.Frag} {mg : Str → Option Value} {base : Heap}
def spPrices (K : PySem.W.Frag) : Sp := sp2 fun a b H Q => ∃ (p : Addr) (R : Rec) (t : Nat), a = .ref p ∧ RecAt K H p R ∧ okRec R ∧ b = .int (t : Nat) ∧ t ≤ R.ticks ∧ ∀ (ws : List Int) (l : Addr) (H' : Hp), Same H H' → ws.Pairwise (· < ·) → (∀ x, x ∈ ws ↔ x ∈ (R.behindAt t).map fun e => R.met.price e.1.1) → H' l = some (.lst (ws.map V.int)) → Q (.ref l) H'
theorem ok_Record_prices (T : TX K mg) : FnP P w K mg base d_Record_prices 10 ["self", "tick"] (spPrices K) [] := by
  refine fn2 (T.d D_Record_prices) rfl sc_Record_prices bd_Record_prices fun cdv A outer s H Q E a b hr h => ?_
  obtain ⟨p, R, tk, rfl, hRR, ok, rfl, htk, q⟩ := h
  obtain ⟨f, hR⟩ := id hRR
  obtain ⟨dx, m, t, qs, h1, h2, h3, h4, h5⟩ := hR.ex
  obtain ⟨mdx, mn, mt, mu, mv, mps, m1, _⟩ := id h2.ex
  have hl3 : (((List.range R.ticks).map fun (i : Nat) => V.int ((i : Nat) : Int)).length : Int) = (R.ticks : Nat) := by rw [List.length_map, List.length_range]
  refine wb_cons <| ws_expr <| we_meth (ok_Record_check_tick T) (T.c c_Record) (T.m m_Record_check_tick) hr <| we_var 0 rfl ⟨p, dx, _, rfl, h1, by kernel_rfl, wa_cons <| we_var 1 rfl <| wa_cons <| we_blt call_len_seq (T.fr f_len) boot_len <| wa_cons <| we_rfld (T := T) (T.n n_Record_own_ticks) h1 rFs_t (we_var 0 rfl ⟨rfl, rfl⟩) <| wa_nil ⟨t, _, rfl, .inr (SqT.of h3), wa_nil ⟨_, _, _, rfl, _, _, rfl, rfl, by omega, by rw [hl3]; omega, ?_⟩⟩⟩
  refine wb_cons <| ws_ret <| we_blt (cr_sortedMI rfl) (T.fr f_sorted) (by decide +kernel) <| wa_cons <| we_unlock <| we_sc sc_Record_prices [("place", 2)] <| wi_keysL <| we_ix ix_list <| we_meth0 (ok_Record_numbers_behind T) (T.c c_Record) (T.m m_Record_numbers_behind) hr <| we_var 0 rfl ⟨p, dx, _, rfl, h1, by kernel_rfl, _, rfl, p, R, rfl, hRR, ok, fun L H1 s1 hl => ?_⟩
  obtain ⟨ds, eL, prd⟩ := hl
  obtain ⟨d, hd, hdd⟩ := paired_get prd (show ((List.range (R.ticks + 1)).map R.behindAt)[tk]? = some (R.behindAt tk) by rw [List.getElem?_map, List.getElem?_range (by omega)]; rfl)
  refine we_var 1 rfl ⟨L, _, _, _, rfl, rfl, SqL.of eL, at_of (j := tk) (v := .ref d) rfl (by rw [List.getElem?_map, hd]; rfl), d, _, rfl, hdd, fun od Hf bf ef nf => ?_⟩
  have B := ok.behindB htk
  have hRf : RecAt K Hf p R := (hRR.mono s1).but bf hdd (fun z => z)
  obtain ⟨ff, hRff⟩ := id hRf
  obtain ⟨dxf, mf, tf', qsf, h1f, h2f, _⟩ := hRff.ex
  obtain ⟨mdxf, mnf, mtf, muf, mvf, mpsf, m1f, _⟩ := id h2f.ex
  generalize hG : (fun i => R.met.price ((R.behindAt tk).getD i ((0, 0), 0)).1.1) = g
  refine ⟨_, _, _, walk_keysT, fun D hD => ⟨fun i acc H' => Same Hf H' ∧ ∃ ns : List Int, acc = ns.map Sum.inl ∧ SetOf g i ns, fun H' s' => ⟨s', [], rfl, List.nodup_nil, fun x => ⟨(fun z => by cases z), fun ⟨j, z, _⟩ => by omega⟩⟩, fun _ _ _ _ z _ => z.1 _ _ ef, ?_, ?_⟩⟩
  · rintro i acc x H2 H3 hi ⟨s2, ns, rfl, hns⟩ hDl ⟨rfl, k, v, z, hk, rfl, hz⟩ s0 H0 C cl fp
    obtain ⟨pl, y, hDi, rfl, rfl⟩ := enc_at hk
    have hmem := List.mem_of_getElem? hDi
    have hp0 := (B pl (List.mem_map.mpr ⟨_, hmem, rfl⟩)).1
    have eg : g i = R.met.price pl.1 := by
      rw [← hG]
      show R.met.price ((R.behindAt tk).getD i ((0, 0), 0)).1.1 = _
      rw [List.getD_eq_getElem?_getD, hDi]
      rfl
    have nsB : ns.length ≤ 482 := by
      have := nodup_le ns ((List.range 482).map fun (n : Nat) => R.met.flag + R.met.each * ((n : Nat) : Int)) hns.1 fun x hx => by
        obtain ⟨j, hj, e⟩ := (hns.2 x).mp hx
        rw [← hG] at e
        rw [enc_len] at hi
        have hj2 : j < (R.behindAt tk).length := by omega
        have e2 : ((R.behindAt tk).getD j ((0, 0), 0)) ∈ R.behindAt tk := by
          rw [List.getD_eq_getElem?_getD, List.getElem?_eq_getElem hj2]
          exact List.getElem_mem hj2
        have b1 := B _ (List.mem_map.mpr ⟨_, e2, rfl⟩)
        have e3 : R.met.flag + R.met.each * R.met.jumpsAt ((R.behindAt tk).getD j ((0, 0), 0)).1.1 = x := e
        have j0 := ok.met.jumps0 (c := ((R.behindAt tk).getD j ((0, 0), 0)).1.1)
        have j1 := ok.met.jumps_le b1.1
        refine List.mem_map.mpr ⟨(R.met.jumpsAt ((R.behindAt tk).getD j ((0, 0), 0)).1.1).toNat, List.mem_range.mpr (by omega), ?_⟩
        rw [← e3]
        have e4 : (((R.met.jumpsAt ((R.behindAt tk).getD j ((0, 0), 0)).1.1).toNat : Nat) : Int) = R.met.jumpsAt ((R.behindAt tk).getD j ((0, 0), 0)).1.1 := by omega
        rw [e4]
      rw [List.length_map, List.length_range] at this
      exact this
    refine wg_name 2 ⟨rfl, fun s0 H0 C cl fp => wts_nil <| iteT fun s0 H0 C cl fp => ?_⟩ sc_Record_prices.nd
    refine we_meth (ok_Meter_price_at T) (T.c c_Meter) (T.m m_Meter_price_at) hr <| we_rfld (T := T) (T.n n_Record_own_meter) (s2 _ _ h1f) rFs_m (we_var 0 rfl ⟨rfl, rfl⟩) ⟨mf, mdxf, _, rfl, s2 _ _ m1f, by kernel_rfl, wa_cons <| we_pl0 (pl := pl) <| we_var 2 rfl ⟨rfl, hz, wa_nil ⟨_, _, rfl, mf, R.met, pl.1, rfl, h2f.mono s2, ok.met, rfl, hp0, fun H4 s4 => ⟨Sum.inl (R.met.price pl.1), rfl, s4 _ _ hDl, by rw [List.length_map]; show _ < 4096; omega, fun H5 b5 e5 => ⟨But.of_new (Same.trans s2 s4) hD b5, _, addK_inl ns _, ?_⟩⟩⟩⟩⟩
    have := hns.step
    rw [eg] at this
    exact this
  rintro acc H2 ⟨s2, ns, rfl, hns⟩ hDl
  refine ⟨d, od, _, s2 _ _ ef, nf, fun H3 b3 e3 => ?_⟩
  have s13 : Same H1 H3 := same_locked0 hdd bf s2 b3 e3
  have nDd : D ≠ d := fun z => by
    rw [z, ef] at hD
    cases hD
  refine wa_nil ⟨D, ns, rfl, b3 _ _ hDl nDd, fun ns' l H4 pm pw hl s4 e4 => q ns' l H4 (Same.trans s1 (Same.trans s13 s4)) (pw_lt pw (pm.nodup_iff.mpr hns.1)) (fun x => ?_) e4⟩
  rw [pm.mem_iff]
  rw [← hG, enc_len] at hns
  exact setOf_mem (g := fun e : Pl × Int => R.met.price e.1.1) hns x
def spRSpeeds (K : PySem.W.Frag) : Sp := sp2 fun a b H Q => ∃ (p : Addr) (R : Rec) (t : Nat), a = .ref p ∧ RecAt K H p R ∧ okRec R ∧ b = .int (t : Nat) ∧ t < R.ticks ∧ ∀ (es : List Nat) (H' : Hp), Same H H' → es.Nodup → (∀ x, x ∈ es ↔ x ∈ (R.openAt t).map fun e => e.2.1) → (∀ x ∈ es, x < 10) → Q (.str (tx es)) H'
theorem openAt_lt {R : Rec} (ok : okRec R) (t : Nat) : ∀ e ∈ R.openAt t, e.2.1 < 10 := by
  intro e he
  obtain ⟨b, hb, h2⟩ := List.mem_flatMap.mp (show e ∈ (R.behindAt t).flatMap _ from he)
  obtain ⟨s, hs, rfl⟩ := List.mem_map.mp (show e ∈ ((R.steps t b.1).filter _).map _ from h2)
  have h3 := (List.mem_filter.mp hs).1
  obtain ⟨d, hd, rfl⟩ := List.mem_map.mp (show s ∈ ((R.left t).filter _).map _ from h3)
  exact Rec.left_lt ok.top t d (List.mem_filter.mp hd).1
theorem dg_nodup {l : List Nat} : (l.map dg).Nodup ↔ l.Nodup := by
  rw [List.nodup_iff_pairwise_ne, List.nodup_iff_pairwise_ne, List.pairwise_map]
  constructor
  · exact fun h => h.imp fun h e => h (congrArg _ e)
  · exact fun h => h.imp fun h e => h (dg_inj e)
theorem mem_dg {l : List Nat} {x : Nat} : dg x ∈ l.map dg ↔ x ∈ l := by
  rw [List.mem_map]
  constructor
  · rintro ⟨y, hy, e⟩
    exact dg_inj e ▸ hy
  · exact fun h => ⟨x, h, rfl⟩
theorem addS_dg (es : List Nat) (n : Nat) : addS (es.map dg) (dg n) = (addS es n).map dg := by
  unfold addS
  by_cases h : n ∈ es
  · rw [if_pos h, if_pos (mem_dg.mpr h)]
  · rw [if_neg h, if_neg (fun z => h (mem_dg.mp z)), List.map_append]
    rfl
theorem ok_Record_speeds (T : TX K mg) : FnP P w K mg base d_Record_speeds 11 ["self", "tick"] (spRSpeeds K) [] := by
  refine fn2 (T.d D_Record_speeds) rfl sc_Record_speeds bd_Record_speeds fun cdv A outer s H Q E a b hr h => ?_
  obtain ⟨p, R, tk, rfl, hRR, ok, rfl, htk, q⟩ := h
  obtain ⟨f, hR⟩ := id hRR
  obtain ⟨dx, m, t, qs, h1, h2, h3, h4, h5⟩ := hR.ex
  have hl3 : (((List.range R.ticks).map fun (i : Nat) => V.int ((i : Nat) : Int)).length : Int) = (R.ticks : Nat) := by rw [List.length_map, List.length_range]
  refine wb_cons <| ws_expr <| we_meth (ok_Record_check_tick T) (T.c c_Record) (T.m m_Record_check_tick) hr <| we_var 0 rfl ⟨p, dx, _, rfl, h1, by kernel_rfl, wa_cons <| we_var 1 rfl <| wa_cons <| we_sub <| we_blt call_len_seq (T.fr f_len) boot_len <| wa_cons <| we_rfld (T := T) (T.n n_Record_own_ticks) h1 rFs_t (we_var 0 rfl ⟨rfl, rfl⟩) <| wa_nil ⟨t, _, rfl, .inr (SqT.of h3), we_int ⟨_, _, rfl, rfl, wa_nil ⟨_, _, _, rfl, _, _, rfl, rfl, by omega, by rw [hl3]; omega, ?_⟩⟩⟩⟩
  refine wb_cons <| ws_ret <| we_join <| we_str ⟨_, rfl, we_blt (cr_sortedMS rfl) (T.fr f_sorted) (by decide +kernel) <| wa_cons <| we_sc sc_Record_speeds [("place", 2), ("digit", 3), ("goal", 4)] <| wi_list <| we_ix ix_list <| we_meth0 (ok_Record_open_steps T) (T.c c_Record) (T.m m_Record_open_steps) hr <| we_var 0 rfl ⟨p, dx, _, rfl, h1, by kernel_rfl, _, rfl, p, R, rfl, hRR, ok, fun L H1 s1 hl => ?_⟩⟩
  obtain ⟨ls, eL, prl⟩ := hl
  obtain ⟨l, hl, hll⟩ := paired_get prl (show ((List.range R.ticks).map R.openAt)[tk]? = some (R.openAt tk) by rw [List.getElem?_map, List.getElem?_range htk]; rfl)
  obtain ⟨ts, el, prt⟩ := hll
  have tl := paired_len prt
  have O := openAt_lt ok tk
  generalize hG : (fun i => ((R.openAt tk).getD i ((0, 0), 0, (0, 0))).2.1) = g
  refine we_var 1 rfl ⟨L, _, _, _, rfl, rfl, SqL.of eL, at_of (j := tk) (v := .ref l) rfl (by rw [List.getElem?_map, hl]; rfl), l, _, rfl, SqL.of el, _, _, _, walk_list (xs := ts.map V.ref), fun D hD => ⟨fun i acc H' => Same H1 H' ∧ ∃ ns : List Nat, acc = (ns.map dg).map Sum.inr ∧ SetOf g i ns, fun H' s' => ⟨s', [], rfl, List.nodup_nil, fun x => ⟨(fun z => by cases z), fun ⟨j, z, _⟩ => by omega⟩⟩, fun _ _ _ _ z _ => z.1.seq (SqL.of el), ?_, ?_⟩⟩
  · rintro i acc x H2 H3 hi ⟨s2, ns, rfl, hns⟩ hDl ⟨rfl, hx⟩ s0 H0 C cl fp
    obtain ⟨z, hz, rfl⟩ := map_get hx
    obtain ⟨⟨pl, dd, go⟩, ho, hat⟩ := paired_get' prt hz
    obtain ⟨a1, b1, e1, e2, e3⟩ := hat.mono s2
    have eg : g i = dd := by
      rw [← hG]
      show ((R.openAt tk).getD i ((0, 0), 0, (0, 0))).2.1 = _
      rw [List.getD_eq_getElem?_getD, ho]
      rfl
    have nsB : ns.length ≤ 10 := by
      have := nodup_le ns (List.range 10) hns.1 fun x hx => by
        obtain ⟨j, hj, e⟩ := (hns.2 x).mp hx
        rw [← hG] at e
        rw [List.length_map] at hi
        have hj2 : j < (R.openAt tk).length := by omega
        have e2 : ((R.openAt tk).getD j ((0, 0), 0, (0, 0))) ∈ R.openAt tk := by
          rw [List.getD_eq_getElem?_getD, List.getElem?_eq_getElem hj2]
          exact List.getElem_mem hj2
        have b1 := O _ e2
        have e3 : ((R.openAt tk).getD j ((0, 0), 0, (0, 0))).2.1 = x := e
        rw [e3] at b1
        exact List.mem_range.mpr b1
      rw [List.length_range] at this
      exact this
    refine wg_tup3 2 3 4 (SqT.of e1) ⟨rfl, fun s0 H0 C cl fp => wts_nil <| iteT fun s0 H0 C cl fp => we_var 3 rfl ⟨Sum.inr (dg dd), rfl, hDl, by rw [List.length_map, List.length_map]; show _ < 4096; omega, fun H5 b5 e5 => ⟨But.of_new s2 hD b5, addS ns dd, by rw [addK_inr, addS_dg], ?_⟩⟩⟩ rfl sc_Record_speeds.nd
    have := hns.step
    rw [eg] at this
    exact this
  rintro acc H2 ⟨s2, ns, rfl, hns⟩ hDl
  refine wa_nil ⟨D, ns.map dg, rfl, hDl, fun ns' l2 H4 pm pw hl s4 e4 => ?_⟩
  obtain ⟨es, rfl, pe⟩ := perm_map_inv pm
  rw [← hG, List.length_map, tl] at hns
  have hm := fun x => setOf_mem (g := fun e : Pl × Nat × Pl => e.2.1) hns x
  have nd : es.Nodup := pe.nodup_iff.mpr hns.1
  have lt : ∀ x ∈ es, x < 10 := fun x hx => by
    obtain ⟨e, he, e2⟩ := List.mem_map.mp ((hm x).mp (pe.mem_iff.mp hx))
    rw [← e2]
    exact O e he
  have el10 : es.length ≤ 10 := by
    have := nodup_le es (List.range 10) nd fun x hx => List.mem_range.mpr (lt x hx)
    rw [List.length_range] at this
    exact this
  refine ⟨l2, es.map dg, rfl, SqL.of e4, ?_, ?_⟩
  · have e5 : (Str.ofString "").length = 0 := by decide +kernel
    rw [sum_dg, e5]
    omega
  rw [join_dg]
  exact q es H4 (Same.trans s1 (Same.trans s2 s4)) nd (fun x => by rw [pe.mem_iff]; exact hm x) lt
def spFits (K : PySem.W.Frag) : Sp := sp2 fun a b H Q => ∃ (p : Addr) (R : Rec) (l : List Nat), a = .ref p ∧ RecAt K H p R ∧ okRec R ∧ b = .str (tx l) ∧ l.length = R.ticks ∧ (∀ n ∈ l, n < 10) ∧ ∀ H', Same H H' → Q (.bl (decide (0 < (R.fitsP l R.ticks).length))) H'
theorem ok_Record_fits (T : TX K mg) : FnP P w K mg base d_Record_fits 8 ["self", "trip"] (spFits K) [] := by
  refine fn2 (T.d D_Record_fits) rfl sc_Record_fits bd_Record_fits fun cdv A outer s H Q E a b hr h => ?_
  obtain ⟨p, R, l, rfl, hRR, ok, rfl, hl, hd, q⟩ := h
  obtain ⟨f, hR⟩ := id hRR
  obtain ⟨dx, m, t, qs, h1, h2, h3, h4, h5⟩ := hR.ex
  have t8 := ok.t
  have top9 := ok.top
  refine wb_cons <| ws_expr <| we_call (ok_check_trip T) (T.g g_check_trip) hr <| wa_cons <| we_var 1 rfl <| wa_nil ⟨_, rfl, l, rfl, hd, by omega, fun H1 s1 => ?_⟩
  refine wb_cons <| ws_guard <| wt_cmp op_ne <| we_blt call_len_str (T.fr f_len) boot_len <| wa_cons <| we_var 1 rfl <| wa_nil ⟨_, rfl, by rw [tx_len]; exact sz_le (by omega), we_blt call_len_seq (T.fr f_len) boot_len <| wa_cons <| we_rfld (T := T) (T.n n_Record_own_ticks) (s1 _ _ h1) rFs_t (we_var 0 rfl ⟨rfl, rfl⟩) <| wa_nil ⟨t, _, rfl, .inr (SqT.of (s1 _ _ h3)), rfl, _, rfl, ?_, ?_⟩⟩
  · rw [tx_len, List.length_map, List.length_range, hl, decide_eq_true rfl]
    rfl
  refine wb_cons <| ws_set 2 (we_meth0 (ok_Record_begins T) (T.c c_Record) (T.m m_Record_begins) hr <| we_var 0 rfl ⟨p, dx, _, rfl, s1 _ _ h1, by kernel_rfl, _, rfl, p, R, rfl, hRR.mono s1, ok, fun L H2 s2 hL => ?_⟩) sc_Record_fits.nd
  have s02 := Same.trans s1 s2
  refine wb_cons <| ws_forW PassesOwn.never rfl (fun _ => rfl) <| wi_tup <| we_rfld (T := T) (T.n n_Record_own_ticks) (s02 _ _ h1) rFs_t (we_var 0 rfl ⟨rfl, rfl⟩) ⟨t, _, rfl, SqT.of (s02 _ _ h3), _, _, _, walk_tup (xs := (List.range R.ticks).map fun (i : Nat) => V.int ((i : Nat) : Int)), fun i σ H' => Same H H' ∧ ∃ L, PlsAt H' L (R.fitsP l i) ∧ ∃ v3 v4 v5 v6, σ = [some (.ref p), some (.str (tx l)), some (.ref L), v3, v4, v5, v6], ⟨s02, L, hL, _, _, _, _, rfl⟩, fun _ _ _ _ z => Cab.Same.seqT z.1 (SqT.of h3), ?_, ?_⟩
  · rintro i x σ H4 H5 hi ⟨s5, L5, ⟨zs, eL5, prz⟩, v3, v4, v5, v6, rfl⟩ ⟨rfl, hx⟩
    obtain ⟨i', hi', rfl⟩ := map_get hx
    have ei : i' = i := by
      obtain ⟨a1, a2⟩ := List.getElem?_eq_some_iff.mp hi'
      rw [List.getElem_range] at a2
      exact a2.symm
    subst ei
    have hti : i' < R.ticks := by
      rw [List.length_map, List.length_range] at hi
      exact hi
    have zl := paired_len prz
    have fl := fitsP_len R l i'
    have fl2 : (R.top + 1) ^ i' ≤ 6561 := Nat.le_trans (Nat.pow_le_pow_right (by omega) (Nat.le_of_lt hti)) ok.sz
    have lt : l[i']? = some (l.getD i' 0) := by
      rw [List.getD_eq_getElem?_getD, List.getElem?_eq_getElem (by omega)]
      rfl
    have hatI : atI (tx l).cps.toList ((i' : Nat) : Int) = some (48 + l.getD i' 0) := by
      refine atI_nat (j := i') ?_
      rw [tx_list, List.getElem?_map, lt]
      rfl
    refine wg_name 3 ?_ sc_Record_fits.nd
    refine wb_cons <| ws_setLc2 (hsw := sw_true rfl rfl rfl (by decide +kernel)) sc_Record_fits 2 [("place", 4), ("digit", 5), ("goal", 6)] [5, 6] <| wi_list <| we_var 2 rfl ⟨L5, _, rfl, SqL.of eL5, _, _, _, walk_list (xs := zs.map V.ref), fun D hD => ⟨fun i acc H' => Same H5 H' ∧ ∃ us : List Addr, acc = us.map V.ref ∧ Paired (PlAt H') us (((R.fitsP l i').take i).flatMap fun p => ((R.steps i' p).filter fun s => decide (s.1 = l.getD i' 0)).map (·.2)), fun H' s' _ => ⟨s', [], rfl, .nil⟩, fun _ _ _ _ z _ => z.1.seq (SqL.of eL5), ?_, ?_⟩⟩
    · rintro j acc x H6 H7 hj ⟨s7, us, rfl, pru⟩ hDl ⟨rfl, hx⟩ s0 H0 C cl fp
      obtain ⟨z, hz, rfl⟩ := map_get hx
      obtain ⟨pl, hpl, hat⟩ := paired_get' prz hz
      have hp0 := fitsP_0 ok l i' pl (List.mem_of_getElem? hpl)
      have s07 : Same H H7 := Same.trans s5 s7
      have efj := flatMap_take_succ (fun p => ((R.steps i' p).filter fun s => decide (s.1 = l.getD i' 0)).map (·.2)) hpl
      have ul := paired_len pru
      have fl3 := flat_len (fun p => ((R.steps i' p).filter fun s => decide (s.1 = l.getD i' 0)).map (·.2)) (R.top + 1) ((R.fitsP l i').take j) fun p _ => by
        rw [List.length_map]
        exact Nat.le_trans (List.length_filter_le _ _) (R.steps_len i' p)
      have tkl := List.length_take_le' j (R.fitsP l i')
      have fl4 : ((R.fitsP l i').take j).length * (R.top + 1) ≤ 6561 * 10 := Nat.mul_le_mul (by omega) (by omega)
      refine wg_name 4 ⟨rfl, fun s0 H0 C cl fp => wts_nil <| iteT fun s0 H0 C cl fp => ?_⟩ sc_Record_fits.nd
      refine wi_list <| we_meth (ok_Record_steps_from T) (T.c c_Record) (T.m m_Record_steps_from) hr <| we_var 0 rfl ⟨p, dx, _, rfl, s07 _ _ h1, by kernel_rfl, wa_cons <| we_var 3 rfl <| wa_cons <| we_var 4 rfl <| wa_nil ⟨_, _, _, rfl, p, R, i', z, pl, rfl, hRR.mono s07, ok, rfl, hti, rfl, s7 _ _ hat, hp0, fun l8 H8 s8 nl8 hl8 => ?_⟩⟩
      obtain ⟨ts, el8, prs⟩ := hl8
      have tsl := paired_len prs
      have stl := R.steps_len i' pl
      have hD8 := s8 _ _ hDl
      have nlD : l8 ≠ D := fun z => by
        rw [z, hDl] at nl8
        cases nl8
      refine ⟨l8, _, rfl, SqL.of el8, _, _, _, walk_list (xs := ts.map V.ref), fun n acc H' => But D H8 H' ∧ ∃ ws : List Addr, acc = us.map V.ref ++ ws.map V.ref ∧ Paired (PlAt H') ws ((((R.steps i' pl).take n).filter fun s => decide (s.1 = l.getD i' 0)).map (·.2)), hD8, ⟨But.same fun _ _ e => e, [], by simp, .nil⟩, fun _ _ _ _ z _ => SqL.of (z.1 _ _ el8 nlD), ?_, ?_⟩
      · rintro n acc x H9 H10 hn ⟨s9, ws, rfl, prw⟩ hDl9 ⟨rfl, hu⟩ s0 H0 C cl fp
        obtain ⟨u', hu', rfl⟩ := map_get hu
        obtain ⟨⟨dd, g⟩, hst, hstep⟩ := paired_get' prs hu'
        obtain ⟨gad, est, eg11⟩ := hstep.but s9 hD8 (fun z => z)
        have eft := fil_take_succ (fun s : Nat × Pl => decide (s.1 = l.getD i' 0)) (·.2) hst
        have wl := paired_len prw
        rw [List.length_map] at wl
        have wl2 := List.length_filter_le (fun s : Nat × Pl => decide (s.1 = l.getD i' 0)) ((R.steps i' pl).take n)
        have wl3 := List.length_take_le' n (R.steps i' pl)
        refine wg_tup2 5 6 (SqT.of est) ⟨rfl, fun s0 H0 C cl fp => ?_⟩ rfl sc_Record_fits.nd
        refine wts_one <| wt_cmp op_eq <| we_var 5 rfl <| we_ix ix_str <| we_var 1 rfl <| we_var 3 rfl ⟨tx l, ((i' : Nat) : Int), 48 + l.getD i' 0, rfl, rfl, by rw [tx_len]; exact sz_le (by omega), hatI, rfl, _, rfl, ?_⟩
        show if decide (V.str (dg dd) = V.str (dg (l.getD i' 0))) = true then _ else _
        rw [dec_dg]
        by_cases hk : dd = l.getD i' 0
        · rw [decide_eq_true hk]
          refine iteT fun s0 H0 C cl fp => we_var 6 rfl ⟨hDl9, by rw [List.length_append, List.length_map, List.length_map]; omega, fun H11 b11 e11 => ⟨But.trans s9 b11, ws ++ [gad], by rw [List.map_append, List.append_assoc]; rfl, ?_⟩⟩
          rw [eft]
          show Paired _ _ (_ ++ if decide (dd = l.getD i' 0) = true then _ else _)
          rw [decide_eq_true hk, if_pos rfl]
          exact paired_snoc (Paired.mapP prw fun a c h => PlAt.but b11 hDl9 (fun z => z) h) (PlAt.but b11 hDl9 (fun z => z) eg11)
        · rw [decide_eq_false hk]
          refine iteF ⟨⟨s9, ws, rfl, ?_⟩, hDl9⟩
          rw [eft]
          show Paired _ _ (_ ++ if decide (dd = l.getD i' 0) = true then _ else _)
          rw [decide_eq_false hk, if_neg Bool.false_ne_true, List.append_nil]
          exact prw
      · rintro acc H9 ⟨s9, ws, rfl, prw⟩ hDl9
        rw [List.length_map, tsl, List.take_length] at prw
        refine ⟨But.of_new (Same.trans s7 s8) hD s9, us ++ ws, by rw [List.map_append], ?_⟩
        rw [efj]
        have app : ∀ {l1 l2 : List Addr} {m1 m2 : List Pl}, Paired (PlAt H9) l1 m1 → Paired (PlAt H9) l2 m2 → Paired (PlAt H9) (l1 ++ l2) (m1 ++ m2) := by
          intro l1 l2 m1 m2 h1 h2
          induction h1 with
          | nil => exact h2
          | cons r t ih => exact .cons r ih
        exact app (Paired.mapP pru fun a c h => PlAt.but s9 hD8 (fun z => z) (s8 _ _ h)) prw
    · rintro acc H6 ⟨s6, us, rfl, pru⟩ hDl
      rw [List.length_map, zl, List.take_length] at pru
      exact wb_nil ⟨Same.trans s5 s6, D, ⟨us, hDl, pru⟩, _, _, _, _, rfl⟩
  · rintro σ H4 ⟨s4, L4, ⟨zs, eL4, prz⟩, v3, v4, v5, v6, rfl⟩
    rw [List.length_map, List.length_range] at prz
    have zl := paired_len prz
    refine wb_cons <| ws_ret <| we_cmp op_gt <| we_blt call_len_seq (T.fr f_len) boot_len <| wa_cons <| we_var 2 rfl <| wa_nil ⟨L4, _, rfl, .inl (SqL.of eL4), we_int ⟨_, _, rfl, rfl, ?_⟩⟩
    rw [List.length_map, zl]
    have e : decide ((0 : Int) < (((R.fitsP l R.ticks).length : Nat) : Int)) = decide (0 < (R.fitsP l R.ticks).length) := decide_eq_decide.mpr (by omega)
    show Q (.bl (decide ((0 : Int) < (((R.fitsP l R.ticks).length : Nat) : Int)))) H4
    rw [e]
    exact q H4 s4
end
end Cab
/-! text CabL -/
set_option Elab.async false
set_option linter.all false
set_option maxRecDepth 100000
set_option maxHeartbeats 2000000
/-! a lambda of one parameter that captures a local, handed to a method (after the library's rules for a lambda without parameters) -/
namespace Cab
open PySem PySem.Spec PyProof.Rows L2 He
open LamX (CodeO TabS Tabs ExtN TabB lam_make2 run_ofS)
structure LamS1 (sc scope : Scope) (x : PySem.Str) : Prop where
  kind : scope.kind = .function
  co : scope.isCoroutine = false
  gen : scope.isGenerator = false
  own : ∀ y ∈ scope.names, y.2 ≠ .cell ∧ (y.2 = .local → y.1 = x)
  par : scope.names.lookup x = some .local
  free : ∀ y ∈ scope.names, y.2 = .free → sc.names.lookup y.1 = some .cell ∨ sc.names.lookup y.1 = some .free
theorem LamS1.has {X : Cx} {scope : Scope} {x : PySem.Str} (L : LamS1 X.env.scope scope x) (ok : X.Ok) : ∀ y ∈ scope.names, y.2 = .free → ∃ c, X.env.cells.lookup y.1 = some c := fun y hy e => by
  rcases L.free y hy e with k | k
  · exact ok.has _ (.inl k)
  · exact ok.has _ (.inr k)
abbrev lamEnv1 (X : Cx) (scope : Scope) (l f c' : Addr) : Env := PySem.W.envX (X.env.qual ++ "<lambda>") scope l f (.ref c') (cloFrom X.env.cells scope.names [])
/-- the context of the lambda's body, entered at s from the frames outer -/
def lamCx1 (X : Cx) (A : Around) (outer : List Env) (s : Shared) (H : Hp) (scope : Scope) (f c' : Addr) : Cx where
  prog := X.prog
  w := X.w
  K := X.K
  mg := X.mg
  base := X.base
  A := A.deeper (lamEnv1 X scope s.heap.objs.size f c')
  N := X.N
  s_0 := s
  H_0 := H
  env := lamEnv1 X scope s.heap.objs.size f c'
  outer := outer
  stack := lamEnv1 X scope s.heap.objs.size f c' :: outer
  ex := []
  fn := fun _ => false
  calm := true
  pn := []
  xe := fun _ _ => False
section
variable {X : Cx} {pins : List (Addr × Obj)} {σ : L2.St} {H HZ : Hp} {s s1 : Shared}
theorem lam_start1 {A : Around} {outer : List Env} {scope : Scope} {f c' : Addr} {h₁ : Heap} {tk : Nat} {x : PySem.Str} {ix : Nat} {v : V} {u : Value} (I : Inv X pins σ H s) (L : LamS1 X.env.scope scope x) (e0 : Env0 X.prog X.w X.K X.mg X.base A outer s1 HZ) (hd : A.handled = none)
    (un : Un (frs X.stack) [] H HZ s.heap s1.heap) (hns : h₁.Ns s1.heap.objs.size fun y => ([(x, u)] : List (PySem.Str × Value)).reverse.lookup y) (kp : ∀ b o, s1.heap.get? b = some o → h₁.get? b = some o) (rv : L2.RelV v u) (hx : X.N[ix]? = some x) (hN : X.N.Nodup) :
    Inv (lamCx1 X A outer s1 HZ scope f c') [] (σ.set ix (some v)) HZ { s1 with heap := h₁, toks := tk } := by
  have hfree := L.has I.ok
  have cm : ∀ {y c}, (cloFrom X.env.cells scope.names []).lookup y = some c → X.env.cells.lookup y = some c := fun {y c} e => by
    rcases cloFrom_mem (PySem.mem_of_lookup e) with hm | ⟨h1, h2⟩
    · cases hm
    · obtain ⟨c1, hc⟩ := hfree _ h1 rfl
      have hc : X.env.cells.lookup y = some c1 := hc
      have e2 : c = c1 := by
        rw [h2, hc] <;> rfl
      rw [e2]
      exact hc
  have look : ∀ {y}, scope.names.lookup y = some .free → ∃ c, (cloFrom X.env.cells scope.names []).lookup y = some c := fun {y} hl => by
    have hy : (y, NameKind.free) ∈ scope.names := PySem.mem_of_lookup hl
    exact mem_lookup (cloFrom_has (cells := X.env.cells) (acc := []) hy)
  have cellK : ∀ {c : Addr} {v : Option Value}, H c = none → s.heap.IsCell c v → h₁.IsCell c v := fun {c v} n ⟨o, ho, hd⟩ => by
    obtain ⟨sl, q⟩ := un.any ho n (by simp)
    exact ⟨_, kp _ _ q, hd⟩
  have noA : ∀ b : Addr, b ∉ (lamCx1 X A outer s1 HZ scope f c').ex := fun b z => absurd (show b ∈ ([] : List Addr) from z) (by simp)
  refine ⟨⟨e0.mod, L.kind, rfl, rfl, Nat.le_refl _, fun y z c e1 e2 => I.ok.inj y z c (cm e1) (cm e2), fun y hy => ?_, fun y c z _ => ?_, fun _ => hd, Around.frames_deeper e0.frames, .inr ⟨rfl, rfl⟩, fun b z => absurd z (noA b), e0.bs, e0.bsz, fun b _ _ => noA b,
      fun b z => absurd z (noA b), e0.funs, e0.frf⟩,
    rfl, e0.bare, Un.kept kp, ⟨_, hns, fun i y v' e1 e2 e3 => ?_⟩, fun y c e => ?_, e0.hok.fresh (Nat.le_refl _), fun y c e => ?_, fun q hq => absurd (show q ∈ ([] : List (Addr × Obj)) ++ [] from hq) (by simp), e0.hok.kept kp, ?_⟩
  · have hy : scope.names.lookup y = some .cell ∨ scope.names.lookup y = some .free := hy
    rcases hy with hy | hy
    · exact absurd rfl (L.own _ (PySem.mem_of_lookup hy)).1
    · exact look hy
  · have z : false = true := z
    cases z
  · have e3 : Vis scope y := e3
    rcases e3 with k | k | k
    · have ey : y = x := (L.own _ (PySem.mem_of_lookup k)).2 rfl
      subst ey
      have ei : i = ix := by
        have e1 : X.N[i]? = some y := e1
        have a1 := (List.getElem?_eq_some_iff.mp e1).1
        exact (List.getElem?_inj a1 hN).mp (e1.trans hx.symm)
      subst ei
      have hlt : i < σ.length := by
        have h := (List.getElem?_eq_some_iff.mp e2).1
        rw [List.length_set] at h
        exact h
      rw [List.getElem?_set_self hlt] at e2
      cases e2
      refine ⟨u, rv, .inl ⟨k, ?_⟩⟩
      simp
    · exact absurd rfl (L.own _ (PySem.mem_of_lookup k)).1
    · obtain ⟨m, hn, hl⟩ := I.loc
      have hvis : Vis X.env.scope y := (L.free _ (PySem.mem_of_lookup k) rfl).elim (fun k => .inr (.inl k)) (fun k => .inr (.inr k))
      have ne : ix ≠ i := fun z => by
        have e1 : X.N[i]? = some y := e1
        rw [z, e1] at hx
        have ez : y = x := Option.some.inj hx
        have lp := L.par
        rw [← ez] at lp
        rw [lp] at k
        cases k
      rw [List.getElem?_set_ne ne] at e2
      obtain ⟨w', r, q⟩ := hl i y v' e1 e2 hvis
      obtain ⟨c2, h2⟩ := look k
      refine ⟨w', r, .inr ⟨.inr k, c2, h2, ?_⟩⟩
      have c1 := cm h2
      rcases q with ⟨k', _⟩ | ⟨_, c3, e', z⟩
      · have k' : X.env.scope.names.lookup y = some .local := k'
        rcases L.free _ (PySem.mem_of_lookup k) rfl with k2 | k2 <;> rw [show X.env.scope.names.lookup y = _ from k2] at k' <;> cases k'
      · rw [c1] at e'
        cases e'
        exact cellK (I.freeC y _ c1) z
  · obtain ⟨w', z⟩ := I.cell y c (cm e)
    exact ⟨w', cellK (I.freeC y c (cm e)) z⟩
  · obtain ⟨v, o, ho, hd⟩ := I.cell y c (cm e)
    exact un.free c o ho (I.freeC y c (cm e)) (by simp)
  · rw [List.length_set]
    exact I.len
/-- a(e), in the def that got the lambda: Z is that def's context, entered at s -/
theorem we_act {d : DefP} {Ng : List PySem.Str} {g f c' : Addr} {cdg pm ctv : Value} {params : Arguments} {body : Expr} {scope : Scope} {k i ix : Nat} {a x : PySem.Str} {p1 p2 : Pos} {e : Expr} {σZ : L2.St} {HZ : Hp} {Q : VK}
    (I : Inv X pins σ H s) (L : LamS1 X.env.scope scope x) (hf : s.heap.get? f = some (PySem.W.kla_obj "<lambda>" (X.env.qual ++ "<lambda>") params body scope (cloFrom X.env.cells scope.names []) pm c' ctv)) (hfn : H f = none) (hfr : f ∉ frs X.stack)
    (hbind : ∀ u, bindArgs (PySem.W.kla_fn "<lambda>" (X.env.qual ++ "<lambda>") params body scope (cloFrom X.env.cells scope.names []) pm (.ref c') ctv) ⟨[u], []⟩ = pure [(x, u)])
    (hx : X.N[ix]? = some x) (hNd : X.N.Nodup) (hr : Room (k + 1) (XC X.prog X.w X.K X.mg X.base d Ng g cdg X.A X.stack s H E0).A)
    (hs : σZ[i]? = some (some (.ref f)))
    (h : WE (XC X.prog X.w X.K X.mg X.base d Ng g cdg X.A X.stack s H E0) e σZ HZ fun y H1 => H1 c' = some (CodeO c' (X.env.qual ++ "<lambda>")) ∧ ∀ (A : Around) (outer : List Env) (s : Shared) (H : Hp), Room k (lamCx1 X A outer s H scope f c').A → WE (lamCx1 X A outer s H scope f c') body (σ.set ix (some y)) H1 Q)
    (hN : Ng[i]? = some a) (hv : Vis d.scope a) (hd : (a == ("__debug__" : PySem.Str)) = false := by decide) (hcd : (a == ("__classdict__" : PySem.Str)) = false := by decide)
    (he : starEach [e] (XC X.prog X.w X.K X.mg X.base d Ng g cdg X.A X.stack s H E0).env = (false, eval e (XC X.prog X.w X.K X.mg X.base d Ng g cdg X.A X.stack s H E0).env) :: starEach [] (XC X.prog X.w X.K X.mg X.base d Ng g cdg X.A X.stack s H E0).env := by rfl) :
    WE (XC X.prog X.w X.K X.mg X.base d Ng g cdg X.A X.stack s H E0) (.Call (.Name a p1) [e] [] p2) σZ HZ Q := by
  intro pinsZ sZ IZ
  refine wpAny_Call_Name_kw (thn ((pe_var (X := XC X.prog X.w X.K X.mg X.base d Ng g cdg X.A X.stack s H E0) (pos := p1) (i := i) hN hv hd hcd).run pinsZ sZ σZ HZ (fun v H1 => v = .ref f ∧ H1 = HZ) IZ ⟨.ref f, hs, rfl, rfl⟩) fun u s1 ⟨v, H1, I1, r1, q1⟩ => ?_)
  obtain ⟨ev, eH⟩ := q1
  subst ev
  rw [eH] at I1
  obtain rfl : u = Value.ref f := r1
  have keep : ∀ {pz σz Hz sz}, Inv (XC X.prog X.w X.K X.mg X.base d Ng g cdg X.A X.stack s H E0) pz σz Hz sz → sz.heap.get? f = some (PySem.W.kla_obj "<lambda>" (X.env.qual ++ "<lambda>") params body scope (cloFrom X.env.cells scope.names []) pm c' ctv) :=
    fun {pz σz Hz sz} J => J.base.keep f _ hf hfn hfr (fun z => nomatch (show f ∈ ([] : List Addr) from z))
  have hA : WA (XC X.prog X.w X.K X.mg X.base d Ng g cdg X.A X.stack s H E0) [e] σZ HZ (fun vs H2 => ∃ y, vs = [y] ∧ H2 c' = some (CodeO c' (X.env.qual ++ "<lambda>")) ∧ ∀ (A : Around) (outer : List Env) (s : Shared) (H : Hp), Room k (lamCx1 X A outer s H scope f c').A → WE (lamCx1 X A outer s H scope f c') body (σ.set ix (some y)) H2 Q) := wa_cons (WE.mono h fun y H1 k => wa_nil ⟨y, rfl, k⟩) he
  refine PySem.W.callWith_F (first := []) ⟨_, _, _, _, keep I1⟩ (thn (hA p2 pinsZ s1 I1) fun us s2 ⟨vs, H2, I2, rr, y, ev, hc, hb⟩ => ⟨⟨_, _, _, _, keep I2⟩, ?_⟩) he (by rfl)
  subst ev
  obtain ⟨u, rfl, ry⟩ := rr.one
  have of1 := keep I2
  have un : Un (frs X.stack) [] H H2 s.heap s2.heap := I2.base
  obtain ⟨⟨oc, vs, t, hoc, hdc, hvc⟩, _, _⟩ := I2.hok c' _ hc
  have rc : codeAny (model X.prog X.w) (XC X.prog X.w X.K X.mg X.base d Ng g cdg X.A X.stack s H E0).A (.call (.ref f) ⟨[u], []⟩) (CR CX0 (envOfC d.qual d.scope s.heap.objs.size g cdg :: X.stack) X.prog X.w H2 s2 Q E0) s2 := by
    refine PySem.W.kla_callFunE hr.depth of1 rfl L.co L.gen rfl ⟨c', oc, vs, t, rfl, hoc, hdc, hvc⟩ ?_
    rw [hbind]
    refine wpAny_pure (wpAny_newFunctionEnv (fun y hy => (L.own y hy).1) (fun y hy => by rw [List.mem_singleton.mp hy]; exact L.par) (fun h₁ hns hsb => ⟨I2.nolimit.fresh _ hsb, ?_⟩) L.kind)
    show codeAny _ _ (.expr body (lamEnv1 X scope s2.heap.objs.size f c')) _ _
    have kp : ∀ b o, s2.heap.get? b = some o → h₁.get? b = some o := fun b o e => hsb.extBut b o (Nat.ne_of_lt (Heap.lt_size e)) (Heap.get?_push_of_some _ e)
    have J : Inv (lamCx1 X (XC X.prog X.w X.K X.mg X.base d Ng g cdg X.A X.stack s H E0).A (envOfC d.qual d.scope s.heap.objs.size g cdg :: X.stack) s2 H2 scope f c') [] (σ.set ix (some y)) H2 { s2 with heap := h₁, toks := s2.toks + ([(x, u)] : List (PySem.Str × Value)).length } :=
      lam_start1 I L I2.env0 hr.hd un hns kp ry hx hNd
    refine PySem.W.kla_codeExpr (wpAny_mono (hb _ _ s2 H2 (hr.deeper _) [] _ J) (fun v s' hq => ?_) fun e s' hq => hq.elim)
    obtain ⟨w', H', J', rv, q⟩ := hq
    exact ⟨w', H', J'.os, J'.bare, J'.base, J'.hok, rv, q⟩
  refine wpAny_call (codeAny_mono rc fun r s' hq => ?_)
  cases r with
  | error e => exact (show False from hq).elim
  | ok fl =>
    cases fl with
    | ret u => exact I2.after hq
    | next => exact False.elim hq
    | brk => exact False.elim hq
    | cont => exact False.elim hq
end
end Cab
/-! text CabR9 -/
set_option Elab.async false
set_option linter.all false
set_option maxRecDepth 100000
set_option maxHeartbeats 4000000
namespace Cab
open PySem PySem.Spec PyProof.Rows L2 He
open LamX (CodeO TabS Tabs ExtN TabB lam_make2 run_ofS)
theorem rp1 {m : Addr} : putF "own_meter" (.ref m) ([] : List (Str × V)) = [(Str.ofString "own_meter", V.ref m)] := by kernel_rfl
theorem rp2 {m t : Addr} : putF "own_ticks" (.ref t) (putF "own_meter" (.ref m) ([] : List (Str × V))) = [(Str.ofString "own_meter", V.ref m), (Str.ofString "own_ticks", V.ref t)] := by kernel_rfl
theorem rp3 {m t : Addr} {i : Int} : putF "own_top" (.int i) (putF "own_ticks" (.ref t) (putF "own_meter" (.ref m) ([] : List (Str × V)))) = [(Str.ofString "own_meter", V.ref m), (Str.ofString "own_ticks", V.ref t), (Str.ofString "own_top", V.int i)] := by kernel_rfl
theorem rp4 {m t f : Addr} {i : Int} : putF "own_facts" (.ref f) (putF "own_top" (.int i) (putF "own_ticks" (.ref t) (putF "own_meter" (.ref m) ([] : List (Str × V))))) = rFs m t i f := by kernel_rfl
theorem rg_tick (n : Nat) : rgV 0 ((n : Nat) : Int) = (List.range n).map fun (i : Nat) => V.int ((i : Nat) : Int) := by
  unfold rgV
  have e : ((n : Int) - 0).toNat = n := by omega
  rw [e]
  apply List.map_congr_left
  intro i _
  rw [Int.zero_add]
def tFs (p f : Addr) : List (Str × V) := [("owner", .ref p), ("kept_facts", .ref f)]
theorem tFs_o {p f : Addr} : (tFs p f).lookup ("owner" : Str) = some (.ref p) := by kernel_rfl
theorem tFs_k {p f : Addr} : (tFs p f).lookup ("kept_facts" : Str) = some (.ref f) := by kernel_rfl
theorem tFs_put {p f g : Addr} : putF "kept_facts" (.ref g) (tFs p f) = tFs p g := by kernel_rfl
theorem tp1 {p : Addr} : putF "owner" (.ref p) ([] : List (Str × V)) = [(Str.ofString "owner", V.ref p)] := by kernel_rfl
theorem tp2 {p f : Addr} : putF "kept_facts" (.ref f) (putF "owner" (.ref p) ([] : List (Str × V))) = tFs p f := by kernel_rfl
section
variable {P : Program} {w : World} {K : PySem.W.Frag} {mg : Str → Option Value} {base : Heap}
def spRInit (K : PySem.W.Frag) : Sp := fun vs H Q _ => ∃ (p dx m : Addr) (M : Met) (n top : Nat), vs = [.ref p, .ref m, .int (n : Nat), .int (top : Nat)] ∧ H p = some (.ins (ga K "Record") dx []) ∧ MetAt K H m M ∧ n ≤ 40 ∧ top ≤ 9 ∧
  ∀ H', But p H H' → RecAt K H' p ⟨M, n, top, []⟩ → Q .non H'
theorem body_Record_init (T : TX K mg) : Body P w K mg base d_Record_init N_Record_init 3 (spRInit K) := by
  intro cdv A outer s H vs Q E hr h
  obtain ⟨p, dx, m, M, n, top, rfl, hp, hM, hn, ht, q⟩ := h
  obtain ⟨u1, mu1, ru1⟩ := T.i i_LONGEST_RECORD
  refine wb_cons <| ws_guard <| wt_not <| wt_val <| we_call (ok_is_between T) (T.g g_is_between) hr <| wa_cons <| we_var 2 rfl <| wa_cons <| we_int <| wa_cons <| we_glob mu1 ru1 <| wa_nil ⟨_, _, _, rfl, _, 0, 40, rfl, rfl, rfl, true, ?_, rfl, ?_⟩
  · rw [decide_eq_true (show (0 : Int) ≤ ((n : Nat) : Int) ∧ ((n : Nat) : Int) ≤ 40 by omega)]
  refine wb_cons <| ws_expr <| we_call (ok_check_top T) (T.g g_check_top) hr <| wa_cons <| we_var 3 rfl <| wa_nil ⟨_, rfl, _, rfl, by omega, by omega, ?_⟩
  refine wb_cons <| ws_fld (T.c c_Record) (T.n n_Record_own_meter) <| we_var 1 rfl <| we_var 0 rfl ⟨p, dx, [], rfl, hp, by decide, fun H1 b1 e1 => ?_⟩
  have hM1 : MetAt K H1 m M := hM.butI b1 hp rfl rfl
  refine wb_cons <| ws_fld (T.c c_Record) (T.n n_Record_own_ticks) <| wE (pe_tupRg rfl (by rfl) (T.fr f_tuple) (prg_1 (by rfl) (T.fr f_range) pE)) <| we_var 2 rfl ⟨_, rfl, RgOk.of_le (by decide) (by omega) (by decide) (by omega), fun t ht' => ?_⟩
  rw [rg_tick]
  have s2 : Same H1 (upd H1 t (.tup ((List.range n).map fun (i : Nat) => V.int ((i : Nat) : Int)))) := Same.new ht'
  have et2 : (upd H1 t (.tup ((List.range n).map fun (i : Nat) => V.int ((i : Nat) : Int)))) t = some (.tup ((List.range n).map fun (i : Nat) => V.int ((i : Nat) : Int))) := upd_same
  generalize upd H1 t (.tup ((List.range n).map fun (i : Nat) => V.int ((i : Nat) : Int))) = H2 at s2 et2
  refine we_var 0 rfl ⟨p, dx, _, rfl, s2 _ _ e1, by rw [rp1]; show 1 < 1000; decide, fun H3 b3 e3 => ?_⟩
  have hp2 := s2 _ _ e1
  have hM3 : MetAt K H3 m M := (hM1.mono s2).butI b3 hp2 (by rw [rp1]; rfl) (by rw [rp1]; rfl)
  have et3 := b3 _ _ et2 (ne_of et2 hp2 (by intro z; cases z))
  refine wb_cons <| ws_fld (T.c c_Record) (T.n n_Record_own_top) <| we_var 3 rfl <| we_var 0 rfl ⟨p, dx, _, rfl, e3, by rw [rp2]; show 2 < 1000; decide, fun H4 b4 e4 => ?_⟩
  have hM4 : MetAt K H4 m M := hM3.butI b4 e3 (by rw [rp2]; rfl) (by rw [rp2]; rfl)
  have et4 := b4 _ _ et3 (ne_of et3 e3 (by intro z; cases z))
  refine wb_cons <| ws_fld (T.c c_Record) (T.n n_Record_own_facts) <| we_tup <| wa_nil ⟨Nat.zero_le _, fun f H5 hf s5 ef5 => we_var 0 rfl ⟨p, dx, _, rfl, s5 _ _ e4, by rw [rp3]; show 3 < 1000; decide, fun H6 b6 e6 => ?_⟩⟩
  have hp5 := s5 _ _ e4
  have hM6 : MetAt K H6 m M := (hM4.mono s5).butI b6 hp5 (by rw [rp3]; rfl) (by rw [rp3]; rfl)
  rw [rp4] at e6
  refine wb_nil (q H6 (But.trans b1 (But.trans (But.same s2) (But.trans b3 (But.trans b4 (But.trans (But.same s5) b6))))) ⟨f, dx, m, t, [], e6, hM6, b6 _ _ (s5 _ _ et4) (ne_of (s5 _ _ et4) hp5 (by intro z; cases z)), b6 _ _ ef5 (ne_of ef5 hp5 (by intro z; cases z)), .nil⟩)
theorem ok_Record_init (T : TX K mg) : FnP P w K mg base d_Record_init 4 ["self", "meter", "ticks", "top"] (spRInit K) [] := by
  obtain ⟨fd, F⟩ := T.d D_Record_init
  obtain ⟨ds, v, b⟩ := F.binds1 (ps := ["self", "meter", "ticks", "top"]) 4 1 (by intro z; cases z) rfl fun T kV doc pm an cdv ct us its l1 l2 => by
    match us, l1 with
    | [a0, a1, a2, a3], _ =>
      match its, l2 with
      | [d0], _ => exact ⟨_, rfl, rfl⟩
  have e : ds = [] := by cases v; rfl
  subst e
  exact ⟨fd, [], fn_ok' F sc_Record_init (fun vs H Q E ⟨p, dx, m, M, n, top, e, _⟩ => by rw [e]; rfl) (body_Record_init T), F, b, .nil⟩
/-! ### the trial -/
def spTInit (K : PySem.W.Frag) : Sp := sp2 fun a b H Q => ∃ (z p dz dx m t f : Addr) (top : Int), a = .ref z ∧ b = .ref p ∧ H z = some (.ins (ga K "RecordTrial") dz []) ∧ H p = some (.ins (ga K "Record") dx (rFs m t top f)) ∧ ∀ H', But z H H' → H' z = some (.ins (ga K "RecordTrial") dz (tFs p f)) → Q .non H'
theorem ok_RecordTrial_init (T : TX K mg) : FnP P w K mg base d_RecordTrial_init 1 ["self", "record"] (spTInit K) [] := by
  refine fn2 (T.d D_RecordTrial_init) rfl sc_RecordTrial_init bd_RecordTrial_init fun cdv A outer s H Q E a b hr h => ?_
  obtain ⟨z, p, dz, dx, m, t, f, top, rfl, rfl, hz, hp, q⟩ := h
  have npz : p ≠ z := fun e => by
    rw [e, hz] at hp
    have h := Option.some.inj hp
    injection h with _ _ h3
    cases h3
  refine wb_cons <| ws_fld (T.c c_RecordTrial) (T.n n_RecordTrial_owner) <| we_var 1 rfl <| we_var 0 rfl ⟨z, dz, [], rfl, hz, by decide, fun H1 b1 e1 => ?_⟩
  refine wb_cons <| ws_fld (T.c c_RecordTrial) (T.n n_RecordTrial_kept_facts) <| we_fld' (T.c c_Record) (T.n n_Record_own_facts) <| we_var 1 rfl ⟨p, dx, _, _, rfl, b1 _ _ hp npz, rFs_f, we_var 0 rfl ⟨z, dz, _, rfl, e1, by rw [tp1]; show 1 < 1000; decide, fun H2 b2 e2 => wb_nil (q H2 (But.trans b1 b2) ?_)⟩⟩
  rw [tp2] at e2
  exact e2
def spTEnter (K : PySem.W.Frag) : Sp := sp1 fun a H Q => ∃ (z p dz dx m t f : Addr) (top : Int), a = .ref z ∧ H z = some (.ins (ga K "RecordTrial") dz (tFs p f)) ∧ H p = some (.ins (ga K "Record") dx (rFs m t top f)) ∧ ∀ H', But z H H' → H' z = some (.ins (ga K "RecordTrial") dz (tFs p f)) → Q (.ref p) H'
theorem ok_RecordTrial_enter (T : TX K mg) : FnP P w K mg base d_RecordTrial_enter 1 ["self"] (spTEnter K) [] := by
  refine fn1 (T.d D_RecordTrial_enter) rfl sc_RecordTrial_enter bd_RecordTrial_enter fun cdv A outer s H Q E a hr h => ?_
  obtain ⟨z, p, dz, dx, m, t, f, top, rfl, hz, hp, q⟩ := h
  refine wb_cons <| ws_fld (T.c c_RecordTrial) (T.n n_RecordTrial_kept_facts) <| we_fld' (T.c c_Record) (T.n n_Record_own_facts) <| we_fld' (T.c c_RecordTrial) (T.n n_RecordTrial_owner) <| we_var 0 rfl ⟨z, dz, _, _, rfl, hz, tFs_o, p, dx, _, _, rfl, hp, rFs_f, we_var 0 rfl ⟨z, dz, _, rfl, hz, by show 2 < 1000; decide, fun H1 b1 e1 => ?_⟩⟩
  rw [tFs_put] at e1
  exact wb_cons <| ws_ret <| we_fld' (T.c c_RecordTrial) (T.n n_RecordTrial_owner) <| we_var 0 rfl ⟨z, dz, _, _, rfl, e1, tFs_o, q H1 b1 e1⟩
def spTExit (K : PySem.W.Frag) : Sp := sp4 fun a _ _ _ H Q => ∃ (z p dz dx m t f f' : Addr) (top : Int), a = .ref z ∧ H z = some (.ins (ga K "RecordTrial") dz (tFs p f)) ∧ H p = some (.ins (ga K "Record") dx (rFs m t top f')) ∧ ∀ H', But p H H' → H' p = some (.ins (ga K "Record") dx (rFs m t top f)) → Q .non H'
theorem ok_RecordTrial_exit (T : TX K mg) : FnP P w K mg base d_RecordTrial_exit 1 ["self", "kind", "value", "trace"] (spTExit K) [] := by
  refine fn4 (T.d D_RecordTrial_exit) rfl sc_RecordTrial_exit bd_RecordTrial_exit fun cdv A outer s H Q E a b c d hr h => ?_
  obtain ⟨z, p, dz, dx, m, t, f, f', top, rfl, hz, hp, q⟩ := h
  refine wb_cons <| ws_fld (T.c c_Record) (T.n n_Record_own_facts) <| we_fld' (T.c c_RecordTrial) (T.n n_RecordTrial_kept_facts) <| we_var 0 rfl ⟨z, dz, _, _, rfl, hz, tFs_k, we_fld' (T.c c_RecordTrial) (T.n n_RecordTrial_owner) <| we_var 0 rfl ⟨z, dz, _, _, rfl, hz, tFs_o, p, dx, _, rfl, hp, by show 4 < 1000; decide, fun H1 b1 e1 => wb_nil (q H1 b1 ?_)⟩⟩
  rw [rFs_put] at e1
  exact e1
def spTrial (K : PySem.W.Frag) : Sp := sp1 fun a H Q => ∃ (p dx m t f : Addr) (top : Int), a = .ref p ∧ H p = some (.ins (ga K "Record") dx (rFs m t top f)) ∧ ∀ z dz H', Same H H' → H z = none → H' z = some (.ins (ga K "RecordTrial") dz (tFs p f)) → Q (.ref z) H'
theorem ok_Record_trial (T : TX K mg) : FnP P w K mg base d_Record_trial 3 ["self"] (spTrial K) [] := by
  refine fn1 (T.d D_Record_trial) rfl sc_Record_trial bd_Record_trial fun cdv A outer s H Q E a hr h => ?_
  obtain ⟨p, dx, m, t, f, top, rfl, hp, q⟩ := h
  exact wb_cons <| ws_ret <| we_make (ok_RecordTrial_init T) (T.k k_RecordTrial) (T.g g_RecordTrial) hr <| wa_cons <| we_var 0 rfl <| wa_nil fun z dz H1 n1 n2 n3 s1 e1 => ⟨_, _, rfl, z, p, dz, dx, m, t, f, top, rfl, rfl, e1, s1 _ _ hp, fun H2 b2 e2 => ⟨rfl, q z dz H2 (But.of_new s1 n1 b2) n1 e2⟩⟩
/-! ### a fact told -/
def Fact.good (R : Rec) : Fact → Prop
  | .passed t i => t ≤ R.ticks ∧ 0 ≤ i
  | .showed t i => t ≤ R.ticks ∧ 0 ≤ i
  | .jumped t _ => t < R.ticks
  | .speeds t ds => t < R.ticks ∧ okDs ds
inductive FactEq : Fact → Fact → Prop where
  | rfl (f : Fact) : FactEq f f
  | sp (t : Nat) {ds es : List Nat} (h : es.Perm ds) : FactEq (.speeds t ds) (.speeds t es)
def spTell (K : PySem.W.Frag) : Sp := sp2 fun a b H Q => ∃ (p q : Addr) (R : Rec) (f : Fact), a = .ref p ∧ b = .ref q ∧ RecAt K H p R ∧ okRec R ∧ FactAt H q f ∧ f.good R ∧ ∀ f' H', FactEq f f' → But p H H' → RecAt K H' p (R.add f') → Q .non H'
theorem ok_law_tell (T : TX K mg) : FnP P w K mg base d_law_tell 5 ["_law_record", "_law_fact"] (spTell K) [] := by
  refine fn2 (T.d D_law_tell) rfl sc_law_tell bd_law_tell fun cdv A outer s H Q E a b hr h => ?_
  obtain ⟨p, fq, R, f, rfl, rfl, hRR, ok, hf, hg, q⟩ := h
  obtain ⟨fa, hR⟩ := id hRR
  obtain ⟨dx, m, t, qs, h1, h2, h3, h4, h5⟩ := hR.ex
  refine wb_cons <| ws_asg <| we_var 1 rfl <| wg_tup3 2 3 4 (SqT.of hf) ?_ rfl sc_law_tell.nd
  refine wb_cons <| ws_if <| wt_cmp op_eq <| we_var 2 rfl <| we_str ⟨rfl, _, rfl, ?_⟩
  cases f with
  | speeds t' ds =>
    exact iteT <| wb_cons <| ws_ret <| we_meth (ok_Record_only T) (T.c c_Record) (T.m m_Record_only) hr <| we_var 0 rfl ⟨p, dx, _, rfl, h1, by kernel_rfl, wa_cons <| we_var 3 rfl <| wa_cons <| we_var 4 rfl <| wa_nil ⟨_, _, _, rfl, p, R, t', ds, rfl, hRR, ok, rfl, hg.1, rfl, hg.2, fun es H' pe b' r' => q _ H' (.sp t' pe) b' r'⟩⟩
  | passed t' i =>
    refine iteF <| wb_nil <| wb_cons <| ws_if <| wt_cmp op_eq <| we_var 2 rfl <| we_str ⟨rfl, _, rfl, iteT ?_⟩
    exact wb_cons <| ws_ret <| we_meth (ok_Record_passed T) (T.c c_Record) (T.m m_Record_passed) hr <| we_var 0 rfl ⟨p, dx, _, rfl, h1, by kernel_rfl, wa_cons <| we_var 3 rfl <| wa_cons <| we_var 4 rfl <| wa_nil ⟨_, _, _, rfl, p, R, t', i, rfl, hRR, ok, rfl, hg.1, rfl, hg.2, fun H' b' r' => q _ H' (.rfl _) b' r'⟩⟩
  | showed t' i =>
    refine iteF <| wb_nil <| wb_cons <| ws_if <| wt_cmp op_eq <| we_var 2 rfl <| we_str ⟨rfl, _, rfl, iteF <| wb_nil ?_⟩
    refine wb_cons <| ws_if <| wt_cmp op_eq <| we_var 2 rfl <| we_str ⟨rfl, _, rfl, iteT ?_⟩
    exact wb_cons <| ws_ret <| we_meth (ok_Record_showed T) (T.c c_Record) (T.m m_Record_showed) hr <| we_var 0 rfl ⟨p, dx, _, rfl, h1, by kernel_rfl, wa_cons <| we_var 3 rfl <| wa_cons <| we_var 4 rfl <| wa_nil ⟨_, _, _, rfl, p, R, t', i, rfl, hRR, ok, rfl, hg.1, rfl, hg.2, fun H' b' r' => q _ H' (.rfl _) b' r'⟩⟩
  | jumped t' i =>
    refine iteF <| wb_nil <| wb_cons <| ws_if <| wt_cmp op_eq <| we_var 2 rfl <| we_str ⟨rfl, _, rfl, iteF <| wb_nil ?_⟩
    refine wb_cons <| ws_if <| wt_cmp op_eq <| we_var 2 rfl <| we_str ⟨rfl, _, rfl, iteF <| wb_nil ?_⟩
    exact wb_cons <| ws_ret <| we_meth (ok_Record_jumped T) (T.c c_Record) (T.m m_Record_jumped) hr <| we_var 0 rfl ⟨p, dx, _, rfl, h1, by kernel_rfl, wa_cons <| we_var 3 rfl <| wa_cons <| we_var 4 rfl <| wa_nil ⟨_, _, _, rfl, p, R, t', i, rfl, hRR, ok, rfl, hg, rfl, fun H' b' r' => q _ H' (.rfl _) b' r'⟩⟩
theorem okRec.add {R : Rec} {f : Fact} (ok : okRec R) (few : R.facts.length ≤ 50) (hg : f.good R) : okRec (R.add f) := by
  refine ⟨ok.met, ok.t, ok.top, ok.sz, ?_, ?_⟩
  · show (R.facts ++ [f]).length ≤ 100
    rw [List.length_append]
    show R.facts.length + 1 ≤ 100
    omega
  · intro g hg' t l e d hd
    rcases List.mem_append.mp (show g ∈ R.facts ++ [f] from hg') with z | z
    · exact ok.ds g z t l e d hd
    · rw [List.mem_singleton.mp z] at e
      subst e
      exact hg.2.lt d hd
theorem FactEq.good {R : Rec} {f f' : Fact} (e : FactEq f f') (h : f.good R) : f'.good R := by
  cases e with
  | rfl => exact h
  | sp t pe => exact ⟨h.1, h.2.perm pe⟩
def spLeft (K : PySem.W.Frag) : Sp := sp2 fun a b H Q => ∃ (p q : Addr) (R : Rec) (f : Fact), a = .ref p ∧ b = .ref q ∧ RecAt K H p R ∧ okRec R ∧ R.facts.length ≤ 50 ∧ FactAt H q f ∧ f.good R ∧ ∀ f' H', FactEq f f' → But p H H' → RecAt K H' p (R.add f') → Q (.int (R.add f').howMany) H'
theorem ok_law_left (T : TX K mg) : FnP P w K mg base d_law_left 10 ["_law_held", "_law_fact"] (spLeft K) [] := by
  refine fn2 (T.d D_law_left) rfl sc_law_left bd_law_left fun cdv A outer s H Q E a b hr h => ?_
  obtain ⟨p, fq, R, f, rfl, rfl, hRR, ok, few, hf, hg, q⟩ := h
  refine wb_cons <| ws_expr <| we_call (ok_law_tell T) (T.g g_law_tell) hr <| wa_cons <| we_var 0 rfl <| wa_cons <| we_var 1 rfl <| wa_nil ⟨_, _, rfl, p, fq, R, f, rfl, rfl, hRR, ok, hf, hg, fun f' H1 fe b1 r1 => ?_⟩
  obtain ⟨fa, hR⟩ := id r1
  obtain ⟨dx, m, t, qs, h1, h2, h3, h4, h5⟩ := hR.ex
  exact wb_cons <| ws_ret <| we_meth0 (ok_Record_how_many T) (T.c c_Record) (T.m m_Record_how_many) hr <| we_var 0 rfl ⟨p, dx, _, rfl, h1, by kernel_rfl, _, rfl, p, R.add f', rfl, r1, ok.add few (fe.good hg), fun H2 s2 => q f' H2 fe (But.trans b1 (But.same s2)) (r1.mono s2)⟩
end
end Cab
/-! text CabR10 -/
set_option Elab.async false
set_option linter.all false
set_option maxRecDepth 100000
set_option maxHeartbeats 4000000
namespace Cab
open PySem PySem.Spec PyProof.Rows L2 He
open LamX (CodeO TabS Tabs ExtN TabB lam_make2 run_ofS)
/-- all but what stands at p, and the tables of code objects -/
def ButN (p : Addr) (H H' : Hp) : Prop := ∀ b o, H b = some o → b ≠ p → (∀ ps, o ≠ .tbl ps) → H' b = some o
theorem ButN.trans {p : Addr} {H H1 H2 : Hp} (a : ButN p H H1) (b : ButN p H1 H2) : ButN p H H2 := fun c o h n t => b c o (a c o h n t) n t
theorem ButN.of {p : Addr} {H H' : Hp} (e : Same H H') : ButN p H H' := fun b o h _ _ => e b o h
theorem Tabs.but {T0 : List (Addr × PySem.Str)} {p C dx : Addr} {fs : List (PySem.Str × V)} {H H' : Hp} (t : Tabs T0 H) (b : But p H H') (hp : H p = some (.ins C dx fs)) : Tabs T0 H' := fun q hq => by
  obtain ⟨ps, h1, h2, h3⟩ := t q hq
  refine ⟨ps, b _ _ h1 (ne_of h1 hp (by intro z; cases z)), h2, fun pos cv hc => ?_⟩
  obtain ⟨c, e1, e2⟩ := h3 pos cv hc
  exact ⟨c, e1, b _ _ e2 (ne_of e2 hp (by unfold CodeO; intro z; cases z))⟩
theorem MetAt.extN {K : PySem.W.Frag} {H H' : Hp} {p : Addr} {M : Met} (e : ExtN H H') (h : MetAt K H p M) : MetAt K H' p M := by
  obtain ⟨dx, n, t, u, v, ps, h1, h2, h3, h4, h5⟩ := h.ex
  exact ⟨dx, n, t, u, v, ps, e _ _ h1 (by intro _ z; cases z), e _ _ h2 (by intro _ z; cases z), e _ _ h3 (by intro _ z; cases z), e _ _ h4 (by intro _ z; cases z), Paired.mapP h5 fun _ _ ⟨dx, q, a, b⟩ => ⟨dx, q, e _ _ a (by intro _ z; cases z), e _ _ b (by intro _ z; cases z)⟩⟩
theorem RecAtF.extN {K : PySem.W.Frag} {H H' : Hp} {p f : Addr} {R : Rec} (e : ExtN H H') (h : RecAtF K H p f R) : RecAtF K H' p f R := by
  obtain ⟨dx, m, t, qs, h1, h2, h3, h4, h5⟩ := h.ex
  exact ⟨dx, m, t, qs, e _ _ h1 (by intro _ z; cases z), h2.extN e, e _ _ h3 (by intro _ z; cases z), e _ _ h4 (by intro _ z; cases z), Paired.mapP h5 fun _ _ x => e _ _ x (by intro _ z; cases z)⟩
theorem RecAt.extN {K : PySem.W.Frag} {H H' : Hp} {p : Addr} {R : Rec} (e : ExtN H H') (h : RecAt K H p R) : RecAt K H' p R := let ⟨f, h⟩ := h; ⟨f, h.extN e⟩
/-- o.tried(lambda x: ..), the lambda tells the record at p something and answers -/
theorem we_tried {X : Cx} {params : Arguments} {lbody : Expr} {scope : Scope} {lpos apos pos : Pos} {o : Expr} {j ix : Nat} {x : PySem.Str} {T0 : List (Addr × PySem.Str)} {c Pt : Addr} {σ : L2.St} {H : Hp} {Q : VK}
    (T : TX X.K X.mg) (TB : TabB X.base X.mg c Pt) (hcode : X.env.code = .ref c) (hmT : (Pt, X.env.qual ++ "<lambda>") ∈ T0) (hu : ∀ p ∈ T0, p.1 = Pt → p.2 = X.env.qual ++ "<lambda>") (hr : Room (j + 3) X.A) (hj : 3 ≤ j) (L : LamS1 X.env.scope scope x) (hdef : defaultsOf params X.env = ([], []))
    (hbind : ∀ (q : PySem.Str) (cl : List (PySem.Str × Addr)) (pm cv ctv u : Value), bindArgs (PySem.W.kla_fn "<lambda>" q params lbody scope cl pm cv ctv) ⟨[u], []⟩ = pure [(x, u)]) (hx : X.N[ix]? = some x) (hNd : X.N.Nodup) {W : V → Prop}
    (h : WE X o σ H fun y H1 => ∃ p R, y = .ref p ∧ RecAt X.K H1 p R ∧ Tabs T0 H1 ∧
      (∀ H3, ExtN H1 H3 → RecAt X.K H3 p R → ∀ f c' (A : Around) (outer : List Env) (s : Shared) (H' : Hp), Room j (lamCx1 X A outer s H' scope f c').A → WE (lamCx1 X A outer s H' scope f c') lbody (σ.set ix (some (.ref p))) H3 fun v H4 => But p H3 H4 ∧ (∃ fc, RecAt X.K H4 p (R.add fc)) ∧ W v) ∧
      ∀ v H5, W v → ButN p H1 H5 → Tabs T0 H5 → RecAt X.K H5 p R → Q v H5)
    {pl : Sem Bool} (ht : eval (.Call (.Attribute o "tried" apos) [.Lambda params lbody scope lpos] [] pos) X.env = (do
      let ov ← eval o X.env
      standAt apos.atName
      let (f, first) ← holding [ov] (getMethod ov "tried" pl)
      callWith pos f first (backTo pos (starEach [.Lambda params lbody scope lpos] X.env)) (backToKw pos (keywordEach [] X.env))) := by rfl)
    (hst : starEach [.Lambda params lbody scope lpos] X.env = (false, eval (.Lambda params lbody scope lpos) X.env) :: starEach [] X.env := by rfl) (hpl : (backTo pos (starEach [] X.env)).any (·.1) = false := by rfl) :
    WE X (.Call (.Attribute o "tried" apos) [.Lambda params lbody scope lpos] [] pos) σ H Q := by
  intro pins s I
  refine PySem.W.methodCall_KW (pl := pl) (thn (h pins s I) fun u s1 ⟨y, H1, I1, ry, p, R, ey, hRR, hT, hb, hq⟩ => ?_) ht
  subst ey
  obtain rfl : u = Value.ref p := ry
  obtain ⟨f0, hR⟩ := id hRR
  obtain ⟨dx, m, t, qs, h1, h2, h3, h4, h5⟩ := hR.ex
  refine getmeth_ok I1 h1 (T.c c_Record) (T.m m_Record_tried) (by kernel_rfl) ?_
  refine PySem.W.callWith_K (first := [.ref p]) (h₀ := X.base) I.ok.mod.kin (T.m m_Record_tried).kp ?_ hst hpl
  rw [hst]
  show wpAny _ _ (spliced ((false, eval (.Lambda params lbody scope lpos) X.env) :: backTo pos (starEach [] X.env))) _ _ s1
  refine Calls.spliced_cons (lam_make2 I1 TB hcode hmT hu hT hdef (L.has I.ok) fun f c' pm' ctv H2 s' I2 eN T2 hf hfn hfr hco => ?_)
  refine Calls.spliced_nil ⟨I2.kIn, ?_⟩
  obtain ⟨fdT, FT⟩ := T.d D_Record_tried
  have FT' := FT
  obtain ⟨oc, od, dV, kV, doc, pm, an, cdv, ct, osl, rfl, lk, hcd, _, _⟩ := FT'.ex
  have bT : Binds X.K _ ["self", "deed"] [] := FunD.bindsN FT fun kV doc pm an cdv ct us hl => bd_Record_tried kV doc pm an cdv ct us hl
  have R2 : RecAtF X.K H2 p f0 R := hR.extN eN
  have rc : codeAny (model X.prog X.w) X.A (.call (.ref (d_Record_tried.path X.K)) ⟨[.ref p, .ref f], []⟩) (CR CX0 X.stack X.prog X.w H2 s' Q E0) s' := by
    refine run_ofS (CX := CX0) (N := N_Record_tried) (ps := ["self", "deed"]) (us := [.ref p, .ref f]) (vs := [.ref p, .ref f]) lk hcd sc_Record_tried (k := j + 2) hr I2.env0 (bT s' [.ref p, .ref f] I2.kIn rfl) (.cons rfl (.cons rfl .nil)) rfl fun hr' => ⟨_, PSs.nox pB, ?_⟩
    show WB (XC X.prog X.w X.K X.mg X.base d_Record_tried N_Record_tried (d_Record_tried.path X.K) cdv X.A X.stack s' H2 E0) d_Record_tried.body _ _ _
    have hrZ : Room (j + 2) (XC X.prog X.w X.K X.mg X.base d_Record_tried N_Record_tried (d_Record_tried.path X.K) cdv X.A X.stack s' H2 E0).A := hr'
    obtain ⟨dx2, m2, t2, qs2, r1, r2, r3, r4, r5⟩ := R2.ex
    refine wb_cons <| ws_with (j := 3) (ok_RecordTrial_enter T) (ok_RecordTrial_exit T) (T.m m_RecordTrial_enter) (T.m m_RecordTrial_exit) (hrZ.mono (by omega)) rfl <| we_meth0 (j := 3) (ok_Record_trial T) (T.c c_Record) (T.m m_Record_trial) (hrZ.mono (by omega)) <| we_var 0 rfl ⟨p, dx2, _, rfl, r1, by kernel_rfl, _, rfl, p, dx2, m2, t2, f0, _, rfl, r1, fun z dz H3 s3 nz ez => ⟨z, dz, _, rfl, ez, _, rfl, z, p, dz, dx2, m2, t2, f0, _, rfl, ez, s3 _ _ r1, fun H3' b3 ez' => ?_⟩⟩
    have s23 : Same H2 H3' := But.of_new s3 nz b3
    have npz : p ≠ z := ne_of_none r1 nz
    have hco3 : H3' c' = some (CodeO c' (X.env.qual ++ "<lambda>")) := s23 _ _ hco
    have R3 : RecAtF X.K H3' p f0 R := R2.mono s23
    have T3 : Tabs T0 H3' := T2.ext s23
    have e13 : ExtN H1 H3' := eN.trans (.of s23)
    refine wb_cons <| ws_set 2 (we_act (k := j) (ix := ix) (i := 1) I2 L hf hfn hfr (fun u => hbind _ _ _ _ _ u) hx hNd (hrZ.mono (by omega)) rfl (we_var 0 rfl ⟨hco3, fun A outer s H hrL => WE.mono (hb H3' e13 ⟨f0, R3⟩ f c' A outer s H hrL) fun v H4 ⟨b4, ⟨fc, R4⟩, wv⟩ => ?_⟩) rfl (by first | exact Or.inl rfl | exact Or.inr rfl)) sc_Record_tried.nd
    refine wb_nil ?_
    obtain ⟨f1, R4f⟩ := R4
    obtain ⟨dx4, m4, t4, qs4, g1, g2, g3, g4, g5⟩ := R4f.ex
    have hp3 : H3' p = some (.ins (ga X.K "Record") dx2 (rFs m2 t2 (R.top : Nat) f0)) := s23 _ _ r1
    refine ⟨_, _, _, _, rfl, z, p, dz, dx4, m4, t4, f0, f1, _, rfl, b4 _ _ ez' npz.symm, g1, fun H5 b5 e5 => ?_⟩
    refine wb_cons <| ws_ret <| we_var 2 rfl <| hq v H5 wv (fun b o e n tb => b5 _ _ (b4 _ _ (e13 _ _ e tb) n) n) (Cab.Tabs.but (Cab.Tabs.but T3 b4 hp3) b5 g1) ⟨f0, dx4, m4, t4, qs2, e5, g2.butI b5 g1 rFs_row rFs_tab, b5 _ _ g3 (ne_of g3 g1 (by intro z; cases z)), ?_, ?_⟩
    · have a1 : H3' f0 = some (.tup (qs2.map V.ref)) := s23 _ _ r4
      have a2 := b4 _ _ a1 (ne_of a1 hp3 (by intro z; cases z))
      exact b5 _ _ a2 (ne_of a2 g1 (by intro z; cases z))
    · refine Paired.mapP r5 fun y v h => ?_
      have a1 : H3' y = _ := s23 _ _ h
      have a2 := b4 _ _ a1 (ne_of a1 hp3 (by intro z; cases z))
      exact b5 _ _ a2 (ne_of a2 g1 (by intro z; cases z))
  refine wpAny_call (codeAny_mono rc fun r s2 hq => ?_)
  cases r with
  | error e => exact (show False from hq).elim
  | ok fl =>
    cases fl with
    | ret u => exact I2.after hq
    | next => exact False.elim hq
    | brk => exact False.elim hq
    | cont => exact False.elim hq
end Cab
/-! text CabR11 -/
set_option Elab.async false
set_option linter.all false
set_option maxRecDepth 100000
set_option maxHeartbeats 4000000
namespace Cab
open PySem PySem.Spec PyProof.Rows L2 He
open LamX (CodeO TabS Tabs ExtN TabB lam_make2 run_ofS)
def lamS1B (sc scope : Scope) (x : PySem.Str) : Bool :=
  decide (scope.kind = .function) && !scope.isCoroutine && !scope.isGenerator && decide (scope.names.lookup x = some .local) && scope.names.all fun y => !decide (y.2 = .cell) && (!decide (y.2 = .local) || decide (y.1 = x)) && (!decide (y.2 = .free) || decide (sc.names.lookup y.1 = some .cell) || decide (sc.names.lookup y.1 = some .free))
theorem lamS1_by {sc scope : Scope} {x : PySem.Str} (h : lamS1B sc scope x = true) : LamS1 sc scope x := by
  unfold lamS1B at h
  simp only [Bool.and_eq_true, Bool.or_eq_true, Bool.not_eq_true', decide_eq_true_eq, decide_eq_false_iff_not, List.all_eq_true] at h
  obtain ⟨⟨⟨⟨h1, h2⟩, h3⟩, h5⟩, h4⟩ := h
  refine ⟨h1, h2, h3, fun y hy => ⟨(h4 y hy).1.1, fun e => ?_⟩, h5, fun y hy e => ?_⟩
  · rcases (h4 y hy).1.2 with z | z
    · exact absurd e z
    · exact z
  · rcases (h4 y hy).2 with (z | z) | z
    · exact absurd e z
    · exact .inl z
    · exact .inr z
def cLam (K : PySem.W.Frag) : Addr := codeAt K (pG "_law_left_by" K)
def tLam (K : PySem.W.Frag) : Addr := tabOf K (cLam K)
def qLam : PySem.Str := (envOfC d_law_left_by.qual d_law_left_by.scope 0 0 .none).qual ++ "<lambda>"
def Tl (K : PySem.W.Frag) : List (Addr × PySem.Str) := [(tLam K, qLam)]
section
variable {P : Program} {w : World} {K : PySem.W.Frag} {mg : Str → Option Value} {base : Heap}
theorem fnp_code {d : DefP} {N ps : List PySem.Str} {k : Nat} {sp : Sp} (F : HasD K d) (hd : d.dfl = []) (S : FnScope N ps d.scope) (hb : HasB d ps) (len : ∀ vs H Q E, sp vs H Q E → vs.length = ps.length)
    (h : ∀ (cdv : Value), cdv = .ref (codeAt K (d.path K)) → ∀ (A : Around) (outer : List Env) (s : Shared) (H : Hp) (vs : List V) (Q : VK) (E : XK), Room k (XC P w K mg base d N (d.path K) cdv A outer s H E).A → sp vs H Q E →
      WB (XC P w K mg base d N (d.path K) cdv A outer s H E) d.body { nx := fun _ H' => Q .non H', rt := Q } (L2.start N vs) H) : FnP P w K mg base d (k + 1) ps sp [] := by
  obtain ⟨fd, F⟩ := F
  have F' := F
  obtain ⟨oc, od, dV, kV, doc, pm, an, cdv, ct, osl, rfl, lk, hcd, _, _⟩ := F'.ex
  have ec : cdv = .ref (codeAt K (d.path K)) := by
    obtain ⟨c, rfl⟩ := He.codeIn_ref hcd
    unfold codeAt
    rw [lk]
  refine ⟨_, [], fn_of lk hcd S len fun A outer s H vs Q E hr hs => ⟨_, PSs.nox pB, h cdv ec A outer s H vs Q E hr hs⟩, F, ?_, .nil⟩
  have e : d.dvs K = [] := by
    unfold DefP.dvs
    rw [hd]
    rfl
  rw [e] at F
  exact F.bindsN hb
def spLeftBy (K : PySem.W.Frag) : Sp := sp2 fun a b H Q => ∃ (p q : Addr) (R : Rec) (f : Fact), a = .ref p ∧ b = .ref q ∧ RecAt K H p R ∧ okRec R ∧ R.facts.length ≤ 50 ∧ FactAt H q f ∧ f.good R ∧ Tabs (Tl K) H ∧
  ∀ f' H', FactEq f f' → ButN p H H' → Tabs (Tl K) H' → RecAt K H' p R → Q (.int (R.add f').howMany) H'
theorem ok_law_left_by (T : TX K mg) (TB : TabB base mg (cLam K) (tLam K)) : FnP P w K mg base d_law_left_by 20 ["_law_record", "_law_fact"] (spLeftBy K) [] := by
  refine fnp_code (T.d D_law_left_by) rfl sc_law_left_by bd_law_left_by (fun vs H Q E ⟨a, b, e, _⟩ => by rw [e]; rfl) fun cdv ec A outer s H vs Q E hr h => ?_
  obtain ⟨a, b, rfl, p, fq, R, f, rfl, rfl, hRR, ok, few, hf, hg, hT, q⟩ := h
  refine wb_cons <| ws_ret <| we_tried (j := 11) (ix := 2) (x := "_law_held") (T0 := Tl K) (W := fun v => ∃ f', FactEq f f' ∧ v = .int (R.add f').howMany) T TB ec (List.mem_singleton.mpr rfl) (fun p hp _ => by rw [List.mem_singleton.mp hp]; rfl) (hr.mono (by decide)) (by decide) (lamS1_by (by show lamS1B d_law_left_by.scope _ _ = true; decide +kernel)) rfl (fun q cl pm cv ctv u => by rfl) rfl sc_law_left_by.nd <| we_var 0 rfl ⟨p, R, rfl, hRR, hT, ?_, ?_⟩
  · intro H3 e3 R3 fl c' A outer s H' hrL
    have hf3 : FactAt H3 fq f := e3 _ _ hf (by intro _ z; cases z)
    exact we_call (ok_law_left T) (T.g g_law_left) hrL <| wa_cons <| we_var 2 rfl <| wa_cons <| we_var 1 rfl <| wa_nil ⟨_, _, rfl, p, fq, R, f, rfl, rfl, R3, ok, few, hf3, hg, fun f' H4 fe b4 r4 => ⟨b4, ⟨f', r4⟩, f', fe, rfl⟩⟩
  · rintro v H5 ⟨f', fe, rfl⟩ b5 t5 r5
    exact q f' H5 fe b5 t5 r5
end
end Cab
/-! text CabV1 -/
set_option Elab.async false
set_option linter.all false
set_option maxRecDepth 100000
set_option maxHeartbeats 4000000
namespace Cab
open PySem PySem.Spec PyProof.Rows L2 He
/-- the claim of a way at q -/
def ClaimAt (H : Hp) (q : Addr) (m : Nat) (x : Int) : Prop := H q = some (.tup [.str "way", .int (m : Nat), .int x])
def wantedAt (m : Nat) (x : Int) (wt : Bool) (mark : Nat) (pl : Pl) : Bool := if m = mark then decide (decide (x ≤ pl.2) = wt) else true
section
variable {P : Program} {w : World} {K : PySem.W.Frag} {mg : Str → Option Value} {base : Heap}
def spIsClaim (K : PySem.W.Frag) : Sp := sp2 fun a b H Q => ∃ (p q : Addr) (R : Rec) (m : Nat) (x : Int), a = .ref p ∧ b = .ref q ∧ RecAt K H p R ∧ R.ticks ≤ 8 ∧ ClaimAt H q m x ∧ m ≤ R.ticks ∧ 0 ≤ x ∧ ∀ H', Same H H' → Q (.bl true) H'
theorem ok_is_claim (T : TX K mg) : FnP P w K mg base d_is_claim 4 ["record", "claim"] (spIsClaim K) [] := by
  refine fn2 (T.d D_is_claim) rfl sc_is_claim bd_is_claim fun cdv A outer s H Q E a b hr h => ?_
  obtain ⟨p, cq, R, m, x, rfl, rfl, hRR, t8, hc, hm, hx, q⟩ := h
  obtain ⟨f, hR⟩ := id hRR
  obtain ⟨dx, me, t, qs, h1, h2, h3, h4, h5⟩ := hR.ex
  have h3c : SqT K H cq [.str "way", .int (m : Nat), .int x] := SqT.of hc
  refine wb_cons <| ws_guard <| wt_W <| ww_or <| wt_not <| wt_val <| we_isi "tuple" (T.fr f_isinstance) (T.fr f_tuple) (by decide +kernel) <| we_var 1 rfl ⟨"tuple", true, .base (.tup hc), by decide +kernel, true, rfl, iteF <| ww_or ?_⟩
  refine wt_cmp op_ne <| we_blt call_len_seq (T.fr f_len) boot_len <| wa_cons <| we_var 1 rfl <| wa_nil ⟨cq, _, rfl, .inr h3c, we_int ⟨rfl, _, rfl, iteF <| ww_or1 <| wt_not <| wt_val ?_⟩⟩
  refine we_isi "str" (T.fr f_isinstance) (T.fr f_str) (by decide +kernel) <| we_ix ix_tup <| we_var 1 rfl <| we_int ⟨cq, _, 0, _, rfl, rfl, h3c, at3_0, "str", true, .base (.str _), by decide +kernel, true, rfl, rfl, ?_⟩
  refine wb_cons <| ws_asg <| we_var 1 rfl <| wg_tup3 2 3 4 h3c ?_ rfl sc_is_claim.nd
  refine wb_cons <| ws_if <| wt_cmp op_eq <| we_var 2 rfl <| we_str ⟨rfl, _, rfl, iteF <| wb_nil ?_⟩
  refine wb_cons <| ws_ret <| we_and <| we_cmp op_in_seq <| we_var 2 rfl <| we_tup <| wa_cons <| we_str <| wa_cons <| we_str <| wa_nil ⟨by show 2 ≤ sizeLine; decide, fun u H1 hu s1 e1 => ?_⟩
  refine ⟨u, [.str "way", .str "price"], rfl, .inr (SqT.of e1), rfl, rfl, true, by decide +kernel, iteT <| we_and ?_⟩
  refine we_call (ok_is_between T) (T.g g_is_between) hr <| wa_cons <| we_var 3 rfl <| wa_cons <| we_int <| wa_cons <| we_lenO (ok_Record_len T) (T.m m_Record_len) hr (T.fr f_len) <| we_var 0 rfl ⟨p, dx, _, rfl, s1 _ _ h1, _, rfl, p, R, rfl, hRR.mono s1, t8, _, rfl, by omega, by omega, wa_nil ⟨_, _, _, rfl, _, 0, _, rfl, rfl, rfl, true, ?_, iteT <| we_and ?_⟩⟩
  · rw [decide_eq_true (show (0 : Int) ≤ ((m : Nat) : Int) ∧ ((m : Nat) : Int) ≤ ((R.ticks : Nat) : Int) by omega)]
  refine we_call (ok_is_whole T) (T.g g_is_whole) hr <| wa_cons <| we_var 4 rfl <| wa_nil ⟨_, rfl, x, rfl, true, rfl, iteT <| we_one <| we_cmp op_ge <| we_var 4 rfl <| we_int ⟨_, _, rfl, rfl, ?_⟩⟩
  show Q (.bl (decide ((0 : Int) ≤ x))) H1
  rw [decide_eq_true hx]
  exact q H1 s1
def spNeedClaim (K : PySem.W.Frag) : Sp := sp2 fun a b H Q => ∃ (p q : Addr) (R : Rec) (m : Nat) (x : Int), a = .ref p ∧ b = .ref q ∧ RecAt K H p R ∧ R.ticks ≤ 8 ∧ ClaimAt H q m x ∧ m ≤ R.ticks ∧ 0 ≤ x ∧ ∀ H', Same H H' → Q .non H'
theorem ok_need_claim (T : TX K mg) : FnP P w K mg base d_need_claim 5 ["record", "claim"] (spNeedClaim K) [] := by
  refine fn2 (T.d D_need_claim) rfl sc_need_claim bd_need_claim fun cdv A outer s H Q E a b hr h => ?_
  obtain ⟨p, cq, R, m, x, rfl, rfl, hRR, t8, hc, hm, hx, q⟩ := h
  exact wb_cons <| ws_guard <| wt_not <| wt_val <| we_call (ok_is_claim T) (T.g g_is_claim) hr <| wa_cons <| we_var 0 rfl <| wa_cons <| we_var 1 rfl <| wa_nil ⟨_, _, rfl, p, cq, R, m, x, rfl, rfl, hRR, t8, hc, hm, hx, fun H' s' => ⟨true, rfl, rfl, wb_nil (q H' s')⟩⟩
def spHoldsAt : Sp := sp4 fun _ b c d H Q => ∃ (q z : Addr) (m mk : Nat) (x : Int) (pl : Pl), b = .ref q ∧ c = .int (mk : Nat) ∧ d = .ref z ∧ ClaimAt H q m x ∧ PlAt H z pl ∧ Q (.bl (if m = mk then decide (x ≤ pl.2) else true)) H
theorem ok_holds_at (T : TX K mg) : FnP P w K mg base d_holds_at 1 ["record", "claim", "mark", "place"] spHoldsAt [] := by
  refine fn4 (T.d D_holds_at) rfl sc_holds_at bd_holds_at fun cdv A outer s H Q E a b c d hr h => ?_
  obtain ⟨cq, z, m, mk, x, pl, rfl, rfl, rfl, hc, hz, q⟩ := h
  refine wb_cons <| ws_asg <| we_var 1 rfl <| wg_tup3 4 5 6 (SqT.of hc) ?_ rfl sc_holds_at.nd
  refine wb_cons <| ws_if <| wt_W <| ww_or <| wt_cmp op_ne <| we_var 5 rfl <| we_var 2 rfl ⟨rfl, _, rfl, ?_⟩
  rw [dec_natInt]
  by_cases h : m = mk
  · rw [decide_eq_true h]
    rw [if_pos h] at q
    refine iteF <| ww_or1 <| wt_cmp op_eq <| we_var 4 rfl <| we_str ⟨rfl, _, rfl, iteF <| wb_nil ?_⟩
    exact wb_cons <| ws_ret <| we_ifExp <| wt_cmp op_eq <| we_var 4 rfl <| we_str ⟨rfl, _, rfl, iteT <| we_cmp op_ge <| we_pl1 <| we_var 3 rfl ⟨rfl, hz, we_var 6 rfl ⟨_, _, rfl, rfl, q⟩⟩⟩
  · rw [decide_eq_false h]
    rw [if_neg h] at q
    exact iteT <| iteT <| wb_cons <| ws_ret <| we_bl q
def spIsWanted : Sp := sp5 fun _ b c d e H Q => ∃ (q z : Addr) (m mk : Nat) (x : Int) (wt : Bool) (pl : Pl), b = .ref q ∧ c = .bl wt ∧ d = .int (mk : Nat) ∧ e = .ref z ∧ ClaimAt H q m x ∧ PlAt H z pl ∧ Q (.bl (wantedAt m x wt mk pl)) H
theorem ok_is_wanted (T : TX K mg) : FnP P w K mg base d_is_wanted 2 ["record", "claim", "wanted", "mark", "place"] spIsWanted [] := by
  refine fn5 (T.d D_is_wanted) rfl sc_is_wanted bd_is_wanted fun cdv A outer s H Q E a b c d e hr h => ?_
  obtain ⟨cq, z, m, mk, x, wt, pl, rfl, rfl, rfl, rfl, hc, hz, q⟩ := h
  unfold wantedAt at q
  refine wb_cons <| ws_if <| wt_W <| ww_or <| wt_cmp op_eq <| we_ix ix_tup <| we_var 1 rfl <| we_int ⟨cq, _, 0, _, rfl, rfl, SqT.of hc, at3_0, we_str ⟨rfl, _, rfl, iteF <| ww_or1 ?_⟩⟩
  refine wt_cmp op_ne <| we_ix ix_tup <| we_var 1 rfl <| we_int ⟨cq, _, 1, _, rfl, rfl, SqT.of hc, at3_1, we_var 3 rfl ⟨rfl, _, rfl, ?_⟩⟩
  rw [dec_natInt]
  by_cases h : m = mk
  · rw [decide_eq_true h]
    rw [if_pos h] at q
    refine iteF <| wb_nil <| wb_cons <| ws_ret <| we_cmp op_eq <| we_call (ok_holds_at T) (T.g g_holds_at) hr <| wa_cons <| we_var 0 rfl <| wa_cons <| we_var 1 rfl <| wa_cons <| we_var 3 rfl <| wa_cons <| we_var 4 rfl <| wa_nil ⟨_, _, _, _, rfl, cq, z, m, mk, x, pl, rfl, rfl, rfl, hc, hz, we_var 2 rfl ⟨rfl, ?_⟩⟩
    rw [if_pos h, dec_blV]
    exact q
  · rw [decide_eq_false h]
    rw [if_neg h] at q
    exact iteT <| wb_cons <| ws_ret <| we_bl q
end
end Cab
/-! text CabV2 -/
set_option Elab.async false
set_option linter.all false
set_option maxRecDepth 100000
set_option maxHeartbeats 4000000
namespace Cab
open PySem PySem.Spec PyProof.Rows L2 He
def fS (l : List Nat) : V := .str (tx l)
def layAll (m : Nat) (x : Int) (wt : Bool) (t : Nat) (v : List Nat) (now : List (Pl × List Nat)) (ss : List (Nat × Pl)) : List (Pl × List Nat) :=
  ss.foldl (fun now s => if (wantedAt m x wt (t + 1) s.2 && (getD? now s.2).isNone) = true then putD now s.2 (v ++ [s.1]) else now) now
def Rec.layStep (R : Rec) (m : Nat) (x : Int) (wt : Bool) (t : Nat) (D : List (Pl × List Nat)) : List (Pl × List Nat) := D.foldl (fun now e => layAll m x wt t e.2 now (R.steps t e.1)) []
def Rec.layD (R : Rec) (m : Nat) (x : Int) (wt : Bool) : Nat → List (Pl × List Nat)
  | 0 => (R.begins.filter fun p => wantedAt m x wt 0 p).map fun p => (p, [])
  | t + 1 => R.layStep m x wt t (R.layD m x wt t)
section
variable {m : Nat} {x : Int} {wt : Bool} {t : Nat}
theorem layAll_len (v : List Nat) : ∀ (ss : List (Nat × Pl)) (now : List (Pl × List Nat)), (layAll m x wt t v now ss).length ≤ now.length + ss.length
  | [], _ => Nat.le_refl _
  | s :: ss, now => by
    have h1 := layAll_len v ss (if (wantedAt m x wt (t + 1) s.2 && (getD? now s.2).isNone) = true then putD now s.2 (v ++ [s.1]) else now)
    have h2 := putD_len now s.2 (v ++ [s.1])
    rw [List.length_cons]
    refine Nat.le_trans h1 ?_
    split <;> omega
theorem layAll_nodup (v : List Nat) : ∀ (ss : List (Nat × Pl)) (now : List (Pl × List Nat)), (now.map (·.1)).Nodup → ((layAll m x wt t v now ss).map (·.1)).Nodup
  | [], _, h => h
  | s :: ss, now, h => by
    show ((layAll m x wt t v (if _ then _ else _) ss).map (·.1)).Nodup
    refine layAll_nodup v ss _ ?_
    split
    · exact putD_nodup _ _ h
    · exact h
theorem layAll_mem (v : List Nat) {y : Pl} : ∀ (ss : List (Nat × Pl)) (now : List (Pl × List Nat)), y ∈ (layAll m x wt t v now ss).map (·.1) ↔ y ∈ now.map (·.1) ∨ (y ∈ ss.map (·.2) ∧ wantedAt m x wt (t + 1) y = true)
  | [], now => by simp [layAll]
  | s :: ss, now => by
    show y ∈ (layAll m x wt t v (if (wantedAt m x wt (t + 1) s.2 && (getD? now s.2).isNone) = true then putD now s.2 (v ++ [s.1]) else now) ss).map (·.1) ↔ _
    rw [layAll_mem v ss, List.map_cons, List.mem_cons]
    by_cases hw : wantedAt m x wt (t + 1) s.2 = true
    · by_cases hn : s.2 ∈ now.map (·.1)
      · have hs := getD?_some.mpr hn
        have e : (wantedAt m x wt (t + 1) s.2 && (getD? now s.2).isNone) = false := by
          rw [hw]
          cases h : getD? now s.2 with
          | none => rw [h] at hs; cases hs
          | some _ => rfl
        rw [e, if_neg Bool.false_ne_true]
        constructor
        · rintro (z | z)
          · exact .inl z
          · exact .inr ⟨.inr z.1, z.2⟩
        · rintro (z | ⟨z1 | z1, z2⟩)
          · exact .inl z
          · exact .inl (z1 ▸ hn)
          · exact .inr ⟨z1, z2⟩
      · have e : (wantedAt m x wt (t + 1) s.2 && (getD? now s.2).isNone) = true := by
          rw [hw, getD?_none hn]
          rfl
        rw [e, if_pos rfl, putD_key_mem]
        constructor
        · rintro ((z | z) | z)
          · exact .inl z
          · exact .inr ⟨.inl z, z ▸ hw⟩
          · exact .inr ⟨.inr z.1, z.2⟩
        · rintro (z | ⟨z1 | z1, z2⟩)
          · exact .inl (.inl z)
          · exact .inl (.inr z1)
          · exact .inr ⟨z1, z2⟩
    · have e : (wantedAt m x wt (t + 1) s.2 && (getD? now s.2).isNone) = false := by
        cases h : wantedAt m x wt (t + 1) s.2 with
        | true => exact absurd h hw
        | false => rfl
      rw [e, if_neg Bool.false_ne_true]
      constructor
      · rintro (z | z)
        · exact .inl z
        · exact .inr ⟨.inr z.1, z.2⟩
      · rintro (z | ⟨z1 | z1, z2⟩)
        · exact .inl z
        · exact absurd (z1 ▸ z2) hw
        · exact .inr ⟨z1, z2⟩
theorem layAll_val (v : List Nat) (n : Nat) (hv : v.length = n) : ∀ (ss : List (Nat × Pl)) (now : List (Pl × List Nat)), (∀ e ∈ now, e.2.length = n + 1) → ∀ e ∈ layAll m x wt t v now ss, e.2.length = n + 1
  | [], _, h => h
  | s :: ss, now, h => by
    show ∀ e ∈ layAll m x wt t v (if (wantedAt m x wt (t + 1) s.2 && (getD? now s.2).isNone) = true then putD now s.2 (v ++ [s.1]) else now) ss, e.2.length = n + 1
    refine layAll_val v n hv ss _ ?_
    split
    · rename_i hc
      simp only [Bool.and_eq_true] at hc
      have hn : s.2 ∉ now.map (·.1) := fun z => by
        have := getD?_some.mpr z
        cases h2 : getD? now s.2 with
        | none => rw [h2] at this; cases this
        | some _ => rw [h2] at hc; exact absurd hc.2 (by simp)
      intro e he
      rw [putD_new hn] at he
      rcases List.mem_append.mp he with z | z
      · exact h e z
      · rw [List.mem_singleton.mp z]
        show (v ++ [s.1]).length = n + 1
        rw [List.length_append, hv]
        rfl
    · exact h
theorem layFold_len (R : Rec) : ∀ (D now : List (Pl × List Nat)), (D.foldl (fun now e => layAll m x wt t e.2 now (R.steps t e.1)) now).length ≤ now.length + D.length * (R.top + 1)
  | [], now => by simp
  | e :: D, now => by
    rw [List.foldl_cons, List.length_cons]
    have h1 := layFold_len R D (layAll m x wt t e.2 now (R.steps t e.1))
    have h2 := layAll_len (m := m) (x := x) (wt := wt) (t := t) e.2 (R.steps t e.1) now
    have h3 := R.steps_len t e.1
    rw [Nat.succ_mul]
    omega
theorem layFold_nodup (R : Rec) : ∀ (D now : List (Pl × List Nat)), (now.map (·.1)).Nodup → ((D.foldl (fun now e => layAll m x wt t e.2 now (R.steps t e.1)) now).map (·.1)).Nodup
  | [], _, h => h
  | e :: D, now, h => layFold_nodup R D _ (layAll_nodup _ _ _ h)
theorem layFold_mem (R : Rec) {y : Pl} : ∀ (D now : List (Pl × List Nat)), y ∈ (D.foldl (fun now e => layAll m x wt t e.2 now (R.steps t e.1)) now).map (·.1) ↔ y ∈ now.map (·.1) ∨ ((∃ e ∈ D, y ∈ (R.steps t e.1).map (·.2)) ∧ wantedAt m x wt (t + 1) y = true)
  | [], now => by simp
  | e :: D, now => by
    rw [List.foldl_cons, layFold_mem R D, layAll_mem]
    constructor
    · rintro ((z | ⟨z1, z2⟩) | ⟨⟨e', h1, h2⟩, z2⟩)
      · exact .inl z
      · exact .inr ⟨⟨e, List.mem_cons_self, z1⟩, z2⟩
      · exact .inr ⟨⟨e', List.mem_cons_of_mem _ h1, h2⟩, z2⟩
    · rintro (z | ⟨⟨e', h1, h2⟩, z2⟩)
      · exact .inl (.inl z)
      · rcases List.mem_cons.mp h1 with rfl | h1
        · exact .inl (.inr ⟨h2, z2⟩)
        · exact .inr ⟨⟨e', h1, h2⟩, z2⟩
theorem layFold_val (R : Rec) (n : Nat) : ∀ (D now : List (Pl × List Nat)), (∀ e ∈ D, e.2.length = n) → (∀ e ∈ now, e.2.length = n + 1) → ∀ e ∈ D.foldl (fun now e => layAll m x wt t e.2 now (R.steps t e.1)) now, e.2.length = n + 1
  | [], _, _, h => h
  | e :: D, now, hD, h => layFold_val R n D _ (fun e' he => hD e' (List.mem_cons_of_mem _ he)) (layAll_val e.2 n (hD e List.mem_cons_self) _ _ h)
end
section
variable {m : Nat} {x : Int} {wt : Bool}
theorem layD_nodup (R : Rec) : ∀ t, ((R.layD m x wt t).map (·.1)).Nodup
  | 0 => by
    show (((R.begins.filter fun p => wantedAt m x wt 0 p).map fun p => (p, ([] : List Nat))).map (·.1)).Nodup
    rw [List.map_map]
    have hb : (R.begins.filter fun p => wantedAt m x wt 0 p).length ≤ 1 := Nat.le_trans (List.length_filter_le _ _) R.begins_len
    match R.begins.filter fun p => wantedAt m x wt 0 p, hb with
    | [], _ => simp
    | [a], _ => simp
    | a :: b :: l, h => simp at h
  | t + 1 => layFold_nodup R _ _ (by simp)
theorem layD_len (R : Rec) : ∀ t, (R.layD m x wt t).length ≤ (R.top + 1) ^ t
  | 0 => by
    show ((R.begins.filter _).map _).length ≤ (R.top + 1) ^ 0
    rw [List.length_map, Nat.pow_zero]
    exact Nat.le_trans (List.length_filter_le _ _) R.begins_len
  | t + 1 => by
    have h1 := layFold_len (m := m) (x := x) (wt := wt) (t := t) R (R.layD m x wt t) []
    have h2 := layD_len R t
    have h3 : (R.layD m x wt t).length * (R.top + 1) ≤ (R.top + 1) ^ t * (R.top + 1) := Nat.mul_le_mul_right _ h2
    rw [← Nat.pow_succ] at h3
    simp only [List.length_nil, Nat.zero_add] at h1
    exact Nat.le_trans h1 h3
theorem okRec.layD_le {R : Rec} (ok : okRec R) {t : Nat} (h : t ≤ R.ticks) : (R.layD m x wt t).length ≤ 6561 := Nat.le_trans (layD_len R t) (Nat.le_trans (Nat.pow_le_pow_right (by omega) h) ok.sz)
theorem layD_val (R : Rec) : ∀ t, ∀ e ∈ R.layD m x wt t, e.2.length = t
  | 0, e, h => by
    obtain ⟨p, _, rfl⟩ := List.mem_map.mp (show e ∈ (R.begins.filter _).map _ from h)
    rfl
  | t + 1, e, h => layFold_val R t _ [] (layD_val R t) (fun e h => by cases h) e h
theorem okRec.lay0 {R : Rec} (ok : okRec R) : ∀ t, ∀ y ∈ (R.layD m x wt t).map (·.1), 0 ≤ y.1
  | 0, y, h => by
    obtain ⟨e, he, q⟩ := List.mem_map.mp h
    obtain ⟨p, hp, e2⟩ := List.mem_map.mp (show e ∈ (R.begins.filter _).map _ from he)
    have hp := (List.mem_filter.mp hp).1
    unfold Rec.begins at hp
    split at hp
    · rw [← q, ← e2, List.mem_singleton.mp hp]
      exact Int.le_refl _
    · cases hp
  | t + 1, y, h => by
    rcases (layFold_mem R (R.layD m x wt t) []).mp h with z | ⟨⟨e, he, z⟩, _⟩
    · cases z
    · obtain ⟨d, hd, rfl⟩ := steps_snd z
      exact ok.met.countOn0 (okRec.lay0 ok t e.1 (List.mem_map.mpr ⟨e, he, rfl⟩)) (Rec.left_lt ok.top t d hd)
end
theorem tx_app (l : List Nat) (d : Nat) : tx l ++ dg d = tx (l ++ [d]) := by
  apply str_ext
  rw [tx_list, List.map_append]
  show ((tx l).cps ++ (dg d).cps).toList = _
  rw [Array.toList_append]
  rfl
section
variable {P : Program} {w : World} {K : PySem.W.Frag} {mg : Str → Option Value} {base : Heap}
def spLayers (K : PySem.W.Frag) : Sp := sp3 fun a b c H Q => ∃ (p q : Addr) (R : Rec) (m : Nat) (x : Int) (wt : Bool), a = .ref p ∧ b = .ref q ∧ c = .bl wt ∧ RecAt K H p R ∧ okRec R ∧ ClaimAt H q m x ∧ ∀ l H', Same H H' → DictsAt fS H' l ((List.range (R.ticks + 1)).map (R.layD m x wt)) → Q (.ref l) H'
theorem ok_layers_of (T : TX K mg) : FnP P w K mg base d_layers_of 8 ["record", "claim", "wanted"] (spLayers K) [] := by
  refine fn3 (T.d D_layers_of) rfl sc_layers_of bd_layers_of fun cdv A outer s H Q E a b c hr h => ?_
  obtain ⟨p, cq, R, m, x, wt, rfl, rfl, rfl, hRR, ok, hc, q⟩ := h
  obtain ⟨f, hR⟩ := id hRR
  obtain ⟨dx, me, t, qs, h1, h2, h3, h4, h5⟩ := hR.ex
  have top9 := ok.top
  have t8 := ok.t
  refine wb_cons <| ws_if <| wt_cmp op_eq <| we_ix ix_tup <| we_var 1 rfl <| we_int ⟨cq, _, 0, _, rfl, rfl, SqT.of hc, at3_0, we_str ⟨rfl, _, rfl, iteF ?_⟩⟩
  refine wb_cons <| ws_set 3 (we_lst <| wa_cons <| we_dc hr sc_layers_of [("place", 6)] <| wi_list <| we_meth0 (ok_Record_begins T) (T.c c_Record) (T.m m_Record_begins) hr <| we_var 0 rfl ⟨p, dx, _, rfl, h1, by kernel_rfl, _, rfl, p, R, rfl, hRR, ok, fun l H1 s1 hl => ?_⟩) sc_layers_of.nd
  have bl := R.begins_len
  have hbp : ∃ qs : List Addr, H1 l = some (.lst (qs.map V.ref)) ∧ Paired (PlAt H1) qs R.begins := hl
  obtain ⟨zs, el, pr⟩ := hbp
  have zl := paired_len pr
  have hc1 : ClaimAt H1 cq m x := s1 _ _ hc
  refine ⟨l, zs.map V.ref, rfl, SqL.of el, _, _, _, walk_list (xs := zs.map V.ref), fun D hD => ⟨fun i acc H' => Same H1 H' ∧ acc = enc fS (((R.begins.take i).filter fun p => wantedAt m x wt 0 p).map fun p => (p, ([] : List Nat))), fun H' s' e => ⟨s', rfl⟩, fun _ _ _ _ z _ => z.1.seq (SqL.of el), ?_, by rw [List.length_map]; omega, ?_⟩⟩
  · rintro i acc y H2 H3 hi ha ⟨s2, rfl⟩ hDl ⟨rfl, hx⟩ s0 H0 C cl fp
    obtain ⟨z, hz, rfl⟩ := map_get hx
    obtain ⟨pl, hpl, hat⟩ := paired_get' pr hz
    have i0 : i = 0 := by
      rw [List.length_map] at hi
      omega
    subst i0
    have e1 : R.begins.take 1 = [pl] := by
      rw [List.take_succ_eq_append_getElem (List.getElem?_eq_some_iff.mp hpl).1, (List.getElem?_eq_some_iff.mp hpl).2]
      rfl
    refine wg_name 6 ⟨rfl, fun s0 H0 C cl fp => wts_one <| wt_val <| we_call (ok_is_wanted T) (T.g g_is_wanted) hr <| wa_cons <| we_var 0 rfl <| wa_cons <| we_var 1 rfl <| wa_cons <| we_var 2 rfl <| wa_cons <| we_int <| wa_cons <| we_var 6 rfl <| wa_nil ⟨_, _, _, _, _, rfl, cq, z, m, 0, x, wt, pl, rfl, rfl, rfl, rfl, s2 _ _ hc1, s2 _ _ hat, _, rfl, ?_⟩⟩ sc_layers_of.nd
    cases hw : wantedAt m x wt 0 pl with
    | true =>
      refine iteT fun s0 H0 C cl fp => we_var 6 rfl fun s0 H0 C cl fp => we_str ⟨kp pl, z, rfl, s2 _ _ hat, hDl, fun H4 b4 e4 => ⟨But.of_new s2 hD b4, ?_⟩⟩
      rw [show 0 + 1 = 1 from rfl, e1, List.filter_cons_of_pos hw]
      rfl
    | false =>
      refine iteF ⟨⟨s2, ?_⟩, hDl⟩
      rw [show 0 + 1 = 1 from rfl, e1, List.filter_cons_of_neg (by rw [hw]; exact Bool.false_ne_true)]
      rfl
  rintro acc H2 ha ⟨s2, rfl⟩ hDl
  have hd0 : DictAt fS H2 D (R.layD m x wt 0) := by
    rw [List.length_map, zl, List.take_length] at hDl
    exact hDl
  refine wa_nil ⟨by show 1 ≤ sizeLine; decide, fun L H3 hL s3 eL => wb_nil ?_⟩
  have s13 : Same H H3 := Same.trans s1 (Same.trans s2 s3)
  have nL : H L = none := by
    cases hx : H L with
    | none => rfl
    | some o =>
      rw [Same.trans s1 s2 _ _ hx] at hL
      cases hL
  refine wb_cons <| ws_forW PassesOwn.never rfl (fun _ => rfl) <| wi_rng1 (T.fr f_range) <| we_lenO (ok_Record_len T) (T.m m_Record_len) hr (T.fr f_len) <| we_var 0 rfl ⟨p, dx, _, rfl, s13 _ _ h1, _, rfl, p, R, rfl, hRR.mono s13, t8, _, rfl, by omega, by omega, _, rfl, by omega, by omega, ?_⟩
  rw [Int.toNat_natCast]
  refine ⟨R.ticks, _, _, walk_range (lo := 0) (n := R.ticks), fun i σ H' => Same H H' ∧ DictsAt fS H' L ((List.range (i + 1)).map (R.layD m x wt)) ∧ ∃ v4 v5 v6 v7 v8 v9, σ = [some (.ref p), some (.ref cq), some (.bl wt), some (.ref L), v4, v5, v6, v7, v8, v9], ⟨s13, ⟨[D], eL, .cons (s3 _ _ hd0) .nil⟩, _, _, _, _, _, _, rfl⟩, fun _ _ _ _ _ => trivial, ?_, ?_⟩
  · rintro i y σ H4 H5 hti ⟨s5, ⟨ds, eL5, prd⟩, v4, v5, v6, v7, v8, v9, rfl⟩ ⟨rfl, rfl⟩
    have e0 : V.int (0 + ((i : Nat) : Int)) = V.int ((i : Nat) : Int) := by rw [Int.zero_add]
    show WG _ _ (V.int (0 + ((i : Nat) : Int))) _ _ _
    rw [e0]
    refine wg_name 4 ?_ sc_layers_of.nd
    refine wb_cons <| ws_set 5 (wE pe_dnewT fun nw hnw => ?_) sc_layers_of.nd
    have s6 : Same H5 (upd H5 nw (.dT [])) := Same.new hnw
    have en6 : (upd H5 nw (.dT [])) nw = some (.dT []) := upd_same
    generalize upd H5 nw (.dT []) = H6 at s6 en6
    rw [range_map_last] at prd
    obtain ⟨ds0, d, rfl, prd0, hd5⟩ := paired_last prd
    have hd6 : H6 d = some (.dT (enc fS (R.layD m x wt i))) := s6 _ _ hd5
    have hdn : d ≠ nw := ne_of_none hd5 hnw
    have al := ok.layD_le (m := m) (x := x) (wt := wt) (Nat.le_of_lt hti)
    have eLm : (ds0 ++ [d]).map V.ref = ds0.map V.ref ++ [V.ref d] := by rw [List.map_append]; rfl
    have hz0 := ok.lay0 (m := m) (x := x) (wt := wt) i
    have hnd := layD_nodup (m := m) (x := x) (wt := wt) R i
    have hvl := layD_val (m := m) (x := x) (wt := wt) R i
    refine wb_cons <| ws_forKeys PassesOwn.never rfl (fun _ => rfl) hd6 fun od Hf bf ef => ?_
    have nd5 : ∀ b o, H5 b = some o → o ≠ .dT (enc fS (R.layD m x wt i)) → Hf b = some o := fun b o e n => bf _ _ (s6 _ _ e) (fun z => by subst z; rw [hd5] at e; exact n (Option.some.inj e).symm)
    have eLf : Hf L = some (.lst ((ds0 ++ [d]).map V.ref)) := nd5 _ _ eL5 (by intro z; cases z)
    have enf : Hf nw = some (.dT []) := bf _ _ en6 hdn.symm
    have hRf : RecAt K Hf p R := (hRR.mono (Same.trans s5 s6)).but bf hd6 (fun z => z)
    have hcf : ClaimAt Hf cq m x := bf.ti hd6 (fun z => z) (s6 _ _ (s5 _ _ hc)) trivial
    refine we_ix ix_list <| we_var 3 rfl <| we_un un_neg <| we_int ⟨1, rfl, L, _, -1, _, rfl, rfl, SqL.of eLf, by rw [eLm]; exact atI_last _ _, rfl, ef, fun j σ H' => But nw Hf H' ∧ H' nw = some (.dT (enc fS (((R.layD m x wt i).take j).foldl (fun now e => layAll m x wt i e.2 now (R.steps i e.1)) []))) ∧ ∃ v6 v7 v8 v9, σ = [some (.ref p), some (.ref cq), some (.bl wt), some (.ref L), some (.int (i : Nat)), some (.ref nw), v6, v7, v8, v9], ⟨But.same fun _ _ e => e, enf, _, _, _, _, rfl⟩, ?_, ?_⟩
    · rintro j k v q6 σ H7 hk ⟨b7, e7, v6, v7, v8, v9, rfl⟩ hd7 hq
      obtain ⟨pl, vl, hDj, rfl, rfl⟩ := enc_at hk
      have hmem := List.mem_of_getElem? hDj
      have hp0 : 0 ≤ pl.1 := hz0 pl (List.mem_map.mpr ⟨_, hmem, rfl⟩)
      have hget : getD? (R.layD m x wt i) pl = some vl := getD?_mem hnd hmem
      have hvl1 : vl.length = i := hvl _ hmem
      have ef7 := foldl_take (fun now (e : Pl × List Nat) => layAll m x wt i e.2 now (R.steps i e.1)) [] hDj
      have fl := layFold_len (m := m) (x := x) (wt := wt) (t := i) R ((R.layD m x wt i).take j) []
      generalize hcur : ((R.layD m x wt i).take j).foldl (fun now e => layAll m x wt i e.2 now (R.steps i e.1)) [] = cur at *
      have cl : cur.length ≤ 65610 := by
        have h1 := List.length_take_le' j (R.layD m x wt i)
        have h2 : ((R.layD m x wt i).take j).length * (R.top + 1) ≤ 6561 * 10 := Nat.mul_le_mul (by omega) (by omega)
        simp only [List.length_nil, Nat.zero_add] at fl
        omega
      have hR7 : RecAt K H7 p R := hRf.but b7 enf (fun z => z)
      have hc7 : ClaimAt H7 cq m x := b7.ti enf (fun z => z) hcf trivial
      obtain ⟨f7, hRf7⟩ := id hR7
      obtain ⟨dx7, m7, t7, qs7, h17, _⟩ := hRf7.ex
      refine wg_name 6 ?_ sc_layers_of.nd
      refine wb_cons <| ws_forW PassesOwn.never rfl (fun _ => rfl) <| wi_list <| we_meth (ok_Record_steps_from T) (T.c c_Record) (T.m m_Record_steps_from) hr <| we_var 0 rfl ⟨p, dx7, _, rfl, h17, by kernel_rfl, wa_cons <| we_var 4 rfl <| wa_cons <| we_var 6 rfl <| wa_nil ⟨_, _, _, rfl, p, R, i, q6, pl, rfl, hR7, ok, rfl, hti, rfl, hq, hp0, fun l8 H8 s8 nl8 hl8 => ?_⟩⟩
      obtain ⟨ts, el8, prs⟩ := hl8
      have tsl := paired_len prs
      have stl := R.steps_len i pl
      have en8 := s8 _ _ e7
      have hc8 : ClaimAt H8 cq m x := s8 _ _ hc7
      refine ⟨l8, _, rfl, SqL.of el8, _, _, _, walk_list (xs := ts.map V.ref), fun j2 σ H' => But nw H8 H' ∧ H' nw = some (.dT (enc fS (layAll m x wt i vl cur ((R.steps i pl).take j2)))) ∧ ∃ v7 v8 v9, σ = [some (.ref p), some (.ref cq), some (.bl wt), some (.ref L), some (.int (i : Nat)), some (.ref nw), some (.ref q6), v7, v8, v9], ⟨But.same fun _ _ e => e, en8, _, _, _, rfl⟩, fun _ _ _ _ z => SqL.of (z.1 _ _ el8 (ne_of el8 en8 (by intro z; cases z))), ?_, ?_⟩
      · rintro j2 y σ H9 H10 hj2 ⟨b9, e9, v7, v8, v9, rfl⟩ ⟨rfl, hy⟩
        obtain ⟨u, hu, rfl⟩ := map_get hy
        obtain ⟨⟨dd, g⟩, hst, hstep⟩ := paired_get' prs hu
        obtain ⟨ga', est, eg⟩ := hstep.but b9 en8 (fun z => z)
        have ef9 : layAll m x wt i vl cur ((R.steps i pl).take (j2 + 1)) = if (wantedAt m x wt (i + 1) g && (getD? (layAll m x wt i vl cur ((R.steps i pl).take j2)) g).isNone) = true then putD (layAll m x wt i vl cur ((R.steps i pl).take j2)) g (vl ++ [dd]) else layAll m x wt i vl cur ((R.steps i pl).take j2) :=
          foldl_take (fun now (s : Nat × Pl) => if (wantedAt m x wt (i + 1) s.2 && (getD? now s.2).isNone) = true then putD now s.2 (vl ++ [s.1]) else now) cur hst
        have al9 := layAll_len (m := m) (x := x) (wt := wt) (t := i) vl ((R.steps i pl).take j2) cur
        have tl9 := List.length_take_le' j2 (R.steps i pl)
        generalize hcu : layAll m x wt i vl cur ((R.steps i pl).take j2) = cu at *
        have hc10 : ClaimAt H10 cq m x := b9.ti en8 (fun z => z) hc8 trivial
        refine wg_tup2 7 8 (SqT.of est) ?_ rfl sc_layers_of.nd
        have hd10 : H10 d = some (.frz od (.dT (enc fS (R.layD m x wt i)))) := b9 _ _ (s8 _ _ hd7) hdn
        have hL10 : H10 L = some (.lst ((ds0 ++ [d]).map V.ref)) := b9 _ _ (s8 _ _ (b7 _ _ eLf (ne_of eLf enf (by intro z; cases z)))) (ne_of (s8 _ _ (b7 _ _ eLf (ne_of eLf enf (by intro z; cases z)))) en8 (by intro z; cases z))
        have hq10 : PlAt H10 q6 pl := b9 _ _ (s8 _ _ hq) (ne_of (s8 _ _ hq) en8 (by intro z; cases z))
        -- fits = ..
        refine wb_cons <| ws_set 9 (we_or <| we_cmp op_ne <| we_ix ix_tup <| we_var 1 rfl <| we_int ⟨cq, _, 0, _, rfl, rfl, SqT.of hc10, at3_0, we_str ⟨rfl, true, by decide +kernel, iteT ?_⟩⟩) sc_layers_of.nd
        have done : ∀ H', But nw H8 H' → H' nw = some (.dT (enc fS (layAll m x wt i vl cur ((R.steps i pl).take (j2 + 1))))) → But nw H8 H' ∧ H' nw = some (.dT (enc fS (layAll m x wt i vl cur ((R.steps i pl).take (j2 + 1))))) ∧ ∃ v7 v8 v9, [some (V.ref p), some (V.ref cq), some (V.bl wt), some (V.ref L), some (V.int (i : Nat)), some (V.ref nw), some (V.ref q6), some (V.str (dg dd)), some (V.ref ga'), some (V.bl true)] = [some (.ref p), some (.ref cq), some (.bl wt), some (.ref L), some (.int (i : Nat)), some (.ref nw), some (.ref q6), v7, v8, v9] := fun H' a b => ⟨a, b, _, _, _, rfl⟩
        refine wb_cons <| ws_if <| wt_W <| ww_and <| wt_val <| we_var 9 rfl ⟨true, rfl, iteT <| ww_and <| wt_val ?_⟩
        refine we_call (ok_is_wanted T) (T.g g_is_wanted) hr <| wa_cons <| we_var 0 rfl <| wa_cons <| we_var 1 rfl <| wa_cons <| we_var 2 rfl <| wa_cons <| we_add <| we_var 4 rfl <| we_int ⟨_, _, rfl, rfl, wa_cons <| we_var 8 rfl <| wa_nil ⟨_, _, _, _, _, rfl, cq, ga', m, i + 1, x, wt, g, rfl, rfl, by rfl, rfl, hc10, eg, _, rfl, ?_⟩⟩
        cases hw : wantedAt m x wt (i + 1) g with
        | false =>
          refine iteF <| iteF <| wb_nil <| wb_nil <| done _ b9 ?_
          rw [ef9, hw]
          exact e9
        | true =>
          have hgd := DictAt.get (f := fS) e9 eg
          refine iteT <| ww_and1 <| wt_dnotin hr <| we_var 8 rfl <| we_var 5 rfl ⟨nw, _, rfl, hgd, ?_⟩
          rw [Option.isSome_map]
          cases hg : getD? cu g with
          | some v0 =>
            refine iteF <| wb_nil <| wb_nil <| done _ b9 ?_
            rw [ef9, hw, hg]
            exact e9
          | none =>
            have hg2 : DGet H10 d (.ref q6) (some (fS vl)) := by
              have z := DGet.tf (k := kp pl) hd10 hq10
              rw [enc_get, hget] at z
              exact z
            refine iteT <| wb_cons <| ws_dput hr <| we_op op_add_str <| we_dget hr <| we_ix ix_list <| we_var 3 rfl <| we_un un_neg <| we_int ⟨1, rfl, L, _, -1, _, rfl, rfl, SqL.of hL10, by rw [eLm]; exact atI_last _ _, we_var 6 rfl ⟨d, _, rfl, hg2, we_var 7 rfl ⟨tx vl, dg dd, rfl, rfl, ?_, ?_⟩⟩⟩
            · rw [tx_len]
              exact sz_le (by show vl.length + 1 ≤ _; omega)
            rw [tx_app]
            refine we_var 5 rfl <| we_var 8 rfl ⟨nw, _, kp g, ga', rfl, rfl, e9, eg, sz_lt (by rw [enc_len]; omega), fun H11 b11 e11 => wb_nil <| wb_nil <| done _ (But.trans b9 b11) ?_⟩
            rw [ef9, hw, hg, if_pos (by rfl), ← enc_put]
            exact e11
      · rintro σ H9 ⟨b9, e9, v7, v8, v9, rfl⟩
        refine wb_nil ⟨⟨But.trans b7 (But.trans (But.same s8) b9), ?_, _, _, _, _, rfl⟩, b9 _ _ (s8 _ _ hd7) hdn⟩
        rw [ef7]
        rw [List.length_map, tsl, List.take_length] at e9
        exact e9
    · rintro σ H7 ⟨b7, e7, v6, v7, v8, v9, rfl⟩ hd7 H8 b8 e8
      have s58 := same_locked hnw s6 hd6 bf b7 b8 e8
      have eL8 : H8 L = some (.lst ((ds0 ++ [d]).map V.ref)) := s58 _ _ eL5
      have en8 : H8 nw = some (.dT (enc fS (R.layD m x wt (i + 1)))) := by
        rw [enc_len, List.take_length] at e7
        exact b8 _ _ e7 hdn.symm
      have dl := paired_len prd
      rw [List.length_append, List.length_append, List.length_map, List.length_range] at dl
      refine wb_cons <| ws_append <| we_var 3 rfl ⟨L, rfl, ⟨_, eL8⟩, we_var 5 rfl ⟨(ds0 ++ [d]).map V.ref, eL8, sz_lt (by rw [List.length_map, List.length_append]; simp at dl ⊢; omega), fun H9 b9 e9 => wb_nil ⟨But.of_new (Same.trans s5 s58) nL b9, ⟨ds0 ++ [d] ++ [nw], by rw [List.map_append]; exact e9, ?_⟩, _, _, _, _, _, _, rfl⟩⟩⟩
      rw [range_map_last, range_map_last (R.layD m x wt) i]
      refine paired_snoc (Paired.mapP prd fun a D' h => ?_) (b9 _ _ en8 (ne_of en8 eL8 (by intro z; cases z)))
      exact b9 _ _ (s58 _ _ h) (ne_of (s58 _ _ h) eL8 (by intro z; cases z))
  · rintro σ H4 ⟨s4, hd, v4, v5, v6, v7, v8, v9, rfl⟩
    exact wb_cons <| ws_ret <| we_var 3 rfl <| q L H4 s4 hd
end
end Cab
/-! text CabV3 -/
set_option Elab.async false
set_option linter.all false
set_option maxRecDepth 100000
set_option maxHeartbeats 4000000
namespace Cab
open PySem PySem.Spec PyProof.Rows L2 He
theorem steps_fst {R : Rec} (ok : okRec R) {t : Nat} {p : Pl} : ∀ s ∈ R.steps t p, s.1 < 10 := by
  intro s hs
  obtain ⟨d, hd, rfl⟩ := List.mem_map.mp (show s ∈ ((R.left t).filter _).map _ from hs)
  exact Rec.left_lt ok.top t d (List.mem_filter.mp hd).1
section
variable {m : Nat} {x : Int} {wt : Bool}
theorem layAll_dig {t : Nat} (v : List Nat) (hv : ∀ d ∈ v, d < 10) : ∀ (ss : List (Nat × Pl)) (now : List (Pl × List Nat)), (∀ s ∈ ss, s.1 < 10) → (∀ e ∈ now, ∀ d ∈ e.2, d < 10) → ∀ e ∈ layAll m x wt t v now ss, ∀ d ∈ e.2, d < 10
  | [], _, _, h => h
  | s :: ss, now, hs, h => by
    show ∀ e ∈ layAll m x wt t v (if (wantedAt m x wt (t + 1) s.2 && (getD? now s.2).isNone) = true then putD now s.2 (v ++ [s.1]) else now) ss, ∀ d ∈ e.2, d < 10
    refine layAll_dig v hv ss _ (fun s' h' => hs s' (List.mem_cons_of_mem _ h')) ?_
    split
    · rename_i hc
      simp only [Bool.and_eq_true] at hc
      have hn : s.2 ∉ now.map (·.1) := fun z => by
        have := getD?_some.mpr z
        cases h2 : getD? now s.2 with
        | none => rw [h2] at this; cases this
        | some _ => rw [h2] at hc; exact absurd hc.2 (by simp)
      intro e he
      rw [putD_new hn] at he
      rcases List.mem_append.mp he with z | z
      · exact h e z
      · rw [List.mem_singleton.mp z]
        intro d hd
        rcases List.mem_append.mp (show d ∈ v ++ [s.1] from hd) with z | z
        · exact hv d z
        · rw [List.mem_singleton.mp z]
          exact hs s List.mem_cons_self
    · exact h
theorem layFold_dig {R : Rec} (ok : okRec R) {t : Nat} : ∀ (D now : List (Pl × List Nat)), (∀ e ∈ D, ∀ d ∈ e.2, d < 10) → (∀ e ∈ now, ∀ d ∈ e.2, d < 10) → ∀ e ∈ D.foldl (fun now e => layAll m x wt t e.2 now (R.steps t e.1)) now, ∀ d ∈ e.2, d < 10
  | [], _, _, h => h
  | e :: D, now, hD, h => layFold_dig ok D _ (fun e' he => hD e' (List.mem_cons_of_mem _ he)) (layAll_dig e.2 (hD e List.mem_cons_self) _ _ (steps_fst ok) h)
theorem layD_dig {R : Rec} (ok : okRec R) : ∀ t, ∀ e ∈ R.layD m x wt t, ∀ d ∈ e.2, d < 10
  | 0, e, h => by
    obtain ⟨p, _, rfl⟩ := List.mem_map.mp (show e ∈ (R.begins.filter _).map _ from h)
    intro d hd
    cases hd
  | t + 1, e, h => layFold_dig ok _ [] (layD_dig ok t) (fun e h => by cases h) e h
end
theorem strOk_tx {l : List Nat} (h : ∀ d ∈ l, d < 10) : PyData.strOk (tx l) = true := by
  unfold PyData.strOk tx
  simp only [List.all_toArray, List.all_eq_true, List.mem_map, forall_exists_index, and_imp]
  rintro c d hd rfl
  have := h d hd
  exact decide_eq_true (by omega)
section
variable {P : Program} {w : World} {K : PySem.W.Frag} {mg : Str → Option Value} {base : Heap}
def spSomeTrip (K : PySem.W.Frag) : Sp := sp3 fun a b c H Q => ∃ (p q : Addr) (R : Rec) (m : Nat) (x : Int) (wt : Bool), a = .ref p ∧ b = .ref q ∧ c = .bl wt ∧ RecAt K H p R ∧ okRec R ∧ ClaimAt H q m x ∧ ∀ v H', Same H H' → decide (v = V.non) = (R.layD m x wt R.ticks).isEmpty → Q v H'
theorem ok_some_trip (T : TX K mg) : FnP P w K mg base d_some_trip 9 ["record", "claim", "wanted"] (spSomeTrip K) [] := by
  refine fn3 (T.d D_some_trip) rfl sc_some_trip bd_some_trip fun cdv A outer s H Q E a b c hr h => ?_
  obtain ⟨p, cq, R, m, x, wt, rfl, rfl, rfl, hRR, ok, hc, q⟩ := h
  refine wb_cons <| ws_set 3 (we_listVals (x := "") rfl (T.fr f_list) <| we_ix ix_list <| we_call (ok_layers_of T) (T.g g_layers_of) hr <| wa_cons <| we_var 0 rfl <| wa_cons <| we_var 1 rfl <| wa_cons <| we_var 2 rfl <| wa_nil ⟨_, _, _, rfl, p, cq, R, m, x, wt, rfl, rfl, rfl, hRR, ok, hc, fun L H1 s1 hl => ?_⟩) sc_some_trip.nd
  obtain ⟨ds, eL, prd⟩ := hl
  rw [range_map_last] at prd
  obtain ⟨ds0, d, eds, prd0, hd1⟩ := paired_last prd
  have eLm : ds.map V.ref = ds0.map V.ref ++ [V.ref d] := by rw [eds, List.map_append]; rfl
  refine we_un un_neg <| we_int ⟨1, rfl, L, _, -1, _, rfl, rfl, SqL.of eL, by rw [eLm]; exact atI_last _ _, d, _, rfl, hd1, fun r H2 hr2 s2 e2 => ?_⟩
  have e3 : (enc fS (R.layD m x wt R.ticks)).map (·.2) = ((R.layD m x wt R.ticks).map fun e => tx e.2).map V.str := by
    unfold enc
    rw [List.map_map, List.map_map]
    rfl
  rw [e3] at e2
  have dig := layD_dig (m := m) (x := x) (wt := wt) ok R.ticks
  generalize R.layD m x wt R.ticks = D at *
  have hsh := lay_strs (D.map fun e => tx e.2) fun z hz => by
    obtain ⟨e, he, rfl⟩ := List.mem_map.mp hz
    exact strOk_tx (dig e he)
  refine wb_cons <| ws_ret <| we_ifExp <| wt_cmp (op_neD hr.units) <| we_var 3 rfl <| we_lst <| wa_nil ⟨Nat.zero_le _, fun u H3 hu s3 e3 => ?_⟩
  refine ⟨_, _, dp_strs (SqL.of (s3 _ _ e2)), dp_strs (l := []) (SqL.of e3), sh_list hsh, sh_list (lay_strs [] fun z hz => by cases hz), _, rfl, ?_⟩
  have s13 : Same H H3 := Same.trans s1 (Same.trans s2 s3)
  cases D with
  | nil => exact iteF <| we_non <| q _ H3 s13 (by rfl)
  | cons e D =>
    have ee : (!PyData.eqv (.list ((List.map (fun e : Pl × List Nat => tx e.2) (e :: D)).map PyData.str)) (.list (([] : List Str).map PyData.str))) = true := by
      simp [PyData.eqv, PyData.eqvAll]
    rw [ee]
    refine iteT <| we_ix ix_list <| we_var 3 rfl <| we_int ⟨r, _, 0, _, rfl, rfl, SqL.of (s3 _ _ e2), at_of (j := 0) rfl rfl, q _ H3 s13 (by rfl)⟩
def Rec.verdict (R : Rec) (m : Nat) (x : Int) : Str :=
  if (R.layD m x true R.ticks).isEmpty && (R.layD m x false R.ticks).isEmpty then "none"
  else if !(R.layD m x true R.ticks).isEmpty && !(R.layD m x false R.ticks).isEmpty then "sometimes"
  else if !(R.layD m x true R.ticks).isEmpty then "always" else "never"
def spVerdict (K : PySem.W.Frag) : Sp := sp2 fun a b H Q => ∃ (p q : Addr) (R : Rec) (m : Nat) (x : Int), a = .ref p ∧ b = .ref q ∧ RecAt K H p R ∧ okRec R ∧ ClaimAt H q m x ∧ m ≤ R.ticks ∧ 0 ≤ x ∧ ∀ H', Same H H' → Q (.str (R.verdict m x)) H'
theorem ok_verdict_on (T : TX K mg) : FnP P w K mg base d_verdict_on 10 ["record", "claim"] (spVerdict K) [] := by
  refine fn2 (T.d D_verdict_on) rfl sc_verdict_on bd_verdict_on fun cdv A outer s H Q E a b hr h => ?_
  obtain ⟨p, cq, R, m, x, rfl, rfl, hRR, ok, hc, hm, hx, q⟩ := h
  refine wb_cons <| ws_expr <| we_call (ok_need_claim T) (T.g g_need_claim) hr <| wa_cons <| we_var 0 rfl <| wa_cons <| we_var 1 rfl <| wa_nil ⟨_, _, rfl, p, cq, R, m, x, rfl, rfl, hRR, ok.t, hc, hm, hx, fun H1 s1 => ?_⟩
  refine wb_cons <| ws_set 2 (we_lst <| wa_cons <| we_cmp op_notN <| we_call (ok_some_trip T) (T.g g_some_trip) hr <| wa_cons <| we_var 0 rfl <| wa_cons <| we_var 1 rfl <| wa_cons <| we_bl <| wa_nil ⟨_, _, _, rfl, p, cq, R, m, x, true, rfl, rfl, rfl, hRR.mono s1, ok, s1 _ _ hc, fun v1 H2 s2 e2 => we_non ⟨rfl, ?_⟩⟩) sc_verdict_on.nd
  have s12 := Same.trans s1 s2
  refine wa_cons <| we_cmp op_notN <| we_call (ok_some_trip T) (T.g g_some_trip) hr <| wa_cons <| we_var 0 rfl <| wa_cons <| we_var 1 rfl <| wa_cons <| we_bl <| wa_nil ⟨_, _, _, rfl, p, cq, R, m, x, false, rfl, rfl, rfl, hRR.mono s12, ok, s12 _ _ hc, fun v2 H3 s3 e3 => we_non ⟨rfl, wa_nil ⟨by show 2 ≤ sizeLine; decide, fun L H4 hL s4 eL => ?_⟩⟩⟩
  rw [e2, e3] at eL
  have s14 : Same H H4 := Same.trans s12 (Same.trans s3 s4)
  unfold Rec.verdict at q
  generalize (R.layD m x true R.ticks).isEmpty = b1 at *
  generalize (R.layD m x false R.ticks).isEmpty = b2 at *
  have eL' : SqL K H4 L ([!b1, !b2].map V.bl) := SqL.of eL
  refine wb_cons <| ws_if <| wt_cmp (op_eqD hr.units) <| we_var 2 rfl <| we_lst <| wa_cons <| we_bl <| wa_cons <| we_bl <| wa_nil ⟨by show 2 ≤ sizeLine; decide, fun u H5 hu s5 e5 => ⟨_, _, dp_bls (s5.seq eL'), dp_bls (l := [false, false]) (SqL.of e5), sh_list (lay_bls _), sh_list (lay_bls _), _, rfl, ?_⟩⟩
  rw [eqv_bls]
  have s15 := Same.trans s14 s5
  cases b1 with
  | true =>
    cases b2 with
    | true => exact iteT <| wb_cons <| ws_ret <| we_str <| q H5 s15
    | false =>
      refine iteF <| wb_nil <| wb_cons <| ws_if <| wt_cmp (op_eqD hr.units) <| we_var 2 rfl <| we_lst <| wa_cons <| we_bl <| wa_cons <| we_bl <| wa_nil ⟨by show 2 ≤ sizeLine; decide, fun u H6 hu s6 e6 => ⟨_, _, dp_bls (s6.seq (s5.seq eL')), dp_bls (l := [true, true]) (SqL.of e6), sh_list (lay_bls _), sh_list (lay_bls _), _, rfl, ?_⟩⟩
      rw [eqv_bls]
      exact iteF <| wb_nil <| wb_cons <| ws_ret <| we_ifExp <| wt_val <| we_ix ix_list <| we_var 2 rfl <| we_int ⟨L, _, 0, _, rfl, rfl, s6.seq (s5.seq eL'), at_of (j := 0) rfl rfl, _, rfl, iteF <| we_str <| q H6 (Same.trans s15 s6)⟩
  | false =>
    cases b2 with
    | true =>
      refine iteF <| wb_nil <| wb_cons <| ws_if <| wt_cmp (op_eqD hr.units) <| we_var 2 rfl <| we_lst <| wa_cons <| we_bl <| wa_cons <| we_bl <| wa_nil ⟨by show 2 ≤ sizeLine; decide, fun u H6 hu s6 e6 => ⟨_, _, dp_bls (s6.seq (s5.seq eL')), dp_bls (l := [true, true]) (SqL.of e6), sh_list (lay_bls _), sh_list (lay_bls _), _, rfl, ?_⟩⟩
      rw [eqv_bls]
      exact iteF <| wb_nil <| wb_cons <| ws_ret <| we_ifExp <| wt_val <| we_ix ix_list <| we_var 2 rfl <| we_int ⟨L, _, 0, _, rfl, rfl, s6.seq (s5.seq eL'), at_of (j := 0) rfl rfl, _, rfl, iteT <| we_str <| q H6 (Same.trans s15 s6)⟩
    | false =>
      refine iteF <| wb_nil <| wb_cons <| ws_if <| wt_cmp (op_eqD hr.units) <| we_var 2 rfl <| we_lst <| wa_cons <| we_bl <| wa_cons <| we_bl <| wa_nil ⟨by show 2 ≤ sizeLine; decide, fun u H6 hu s6 e6 => ⟨_, _, dp_bls (s6.seq (s5.seq eL')), dp_bls (l := [true, true]) (SqL.of e6), sh_list (lay_bls _), sh_list (lay_bls _), _, rfl, ?_⟩⟩
      rw [eqv_bls]
      exact iteT <| wb_cons <| ws_ret <| we_str <| q H6 (Same.trans s15 s6)
end
end Cab
/-! text CabV4 -/
set_option Elab.async false
set_option linter.all false
set_option maxRecDepth 100000
set_option maxHeartbeats 4000000
namespace Cab
open PySem PySem.Spec PyProof.Rows L2 He
def rngPut (D now : List (Pl × (Int × Int))) (o : Pl × Nat × Pl) : List (Pl × (Int × Int)) :=
  let lo := ((getD? D o.1).getD (0, 0)).1 + (o.2.1 : Int)
  let hi := ((getD? D o.1).getD (0, 0)).2 + (o.2.1 : Int)
  let kn := (getD? now o.2.2).getD (lo, hi)
  putD now o.2.2 (if lo < kn.1 then lo else kn.1, if hi > kn.2 then hi else kn.2)
def Rec.rngD (R : Rec) : Nat → List (Pl × (Int × Int))
  | 0 => onesOf (0, 0) ((R.behindAt 0).map (·.1))
  | t + 1 => (R.openAt t).foldl (rngPut (R.rngD t)) []
theorem rngFold_len (D : List (Pl × (Int × Int))) : ∀ (os : List (Pl × Nat × Pl)) (now : List (Pl × (Int × Int))), (os.foldl (rngPut D) now).length ≤ now.length + os.length
  | [], _ => Nat.le_refl _
  | o :: os, now => by
    rw [List.foldl_cons, List.length_cons]
    have h1 := rngFold_len D os (rngPut D now o)
    have h2 : (rngPut D now o).length ≤ now.length + 1 := putD_len _ _ _
    omega
def PutE (H : Hp) (e' : Pl × Addr) (e : Pl × (Int × Int)) : Prop := e'.1 = e.1 ∧ H e'.2 = some (.tup [.int e.2.1, .int e.2.2])
/-- ranges by places at d -/
def RngAt (H : Hp) (d : Addr) (D : List (Pl × (Int × Int))) : Prop := ∃ D' : List (Pl × Addr), DictAt V.ref H d D' ∧ Paired (PutE H) D' D
theorem putE_keys {H : Hp} : ∀ {D' : List (Pl × Addr)} {D : List (Pl × (Int × Int))}, Paired (PutE H) D' D → D'.map (·.1) = D.map (·.1)
  | _, _, .nil => rfl
  | _, _, .cons r t => by rw [List.map_cons, List.map_cons, putE_keys t, r.1]
theorem putE_get {H : Hp} {k : Pl} : ∀ {D' : List (Pl × Addr)} {D : List (Pl × (Int × Int))}, Paired (PutE H) D' D → (getD? D' k = none ∧ getD? D k = none) ∨ ∃ a v, getD? D' k = some a ∧ getD? D k = some v ∧ H a = some (.tup [.int v.1, .int v.2])
  | _, _, .nil => .inl ⟨rfl, rfl⟩
  | e' :: D', e :: D, .cons r t => by
    rw [getD?_cons, getD?_cons, r.1]
    by_cases h : e.1 = k
    · rw [if_pos h, if_pos h]
      exact .inr ⟨_, _, rfl, rfl, r.2⟩
    · rw [if_neg h, if_neg h]
      exact putE_get t
theorem putE_map {H : Hp} {k : Pl} {a : Addr} {v : Int × Int} (ha : H a = some (.tup [.int v.1, .int v.2])) : ∀ {D' : List (Pl × Addr)} {D : List (Pl × (Int × Int))}, Paired (PutE H) D' D → Paired (PutE H) (D'.map fun e => if e.1 = k then (e.1, a) else e) (D.map fun e => if e.1 = k then (e.1, v) else e)
  | _, _, .nil => .nil
  | e' :: D', e :: D, .cons r t => by
    refine .cons ?_ (putE_map ha t)
    show PutE H (if e'.1 = k then (e'.1, a) else e') (if e.1 = k then (e.1, v) else e)
    rw [r.1]
    by_cases h : e.1 = k
    · rw [if_pos h, if_pos h]
      exact ⟨rfl, ha⟩
    · rw [if_neg h, if_neg h]
      exact r
theorem putE_put {H : Hp} {k : Pl} {a : Addr} {v : Int × Int} {D' : List (Pl × Addr)} {D : List (Pl × (Int × Int))} (p : Paired (PutE H) D' D) (ha : H a = some (.tup [.int v.1, .int v.2])) : Paired (PutE H) (putD D' k a) (putD D k v) := by
  by_cases h : k ∈ D.map (·.1)
  · rw [putD_old h, putD_old (by rw [putE_keys p]; exact h)]
    exact putE_map ha p
  · rw [putD_new h, putD_new (by rw [putE_keys p]; exact h)]
    exact paired_snoc p ⟨rfl, ha⟩
section
variable {P : Program} {w : World} {K : PySem.W.Frag} {mg : Str → Option Value} {base : Heap}
def spWayRange (K : PySem.W.Frag) : Sp := sp3 fun a b c H Q => ∃ (p : Addr) (R : Rec) (m : Nat), a = .ref p ∧ b = .int 0 ∧ c = .int (m : Nat) ∧ RecAt K H p R ∧ okRec R ∧ m ≤ R.ticks ∧ R.howMany ≠ 0 ∧ (∀ t, t < m → ∀ o ∈ R.openAt t, o.1 ∈ (R.rngD t).map (·.1)) ∧ R.rngD m ≠ [] ∧
  ∀ (lo hi : Int) (q : Addr) (H' : Hp), Same H H' → lo ∈ (R.rngD m).map (fun e => e.2.1) → (∀ y ∈ (R.rngD m).map (fun e => e.2.1), lo ≤ y) → hi ∈ (R.rngD m).map (fun e => e.2.2) → (∀ y ∈ (R.rngD m).map (fun e => e.2.2), y ≤ hi) → H' q = some (.tup [.int lo, .int hi]) → Q (.ref q) H'
theorem min_of (l : List Int) (h : l ≠ []) : ∃ m ∈ l, ∀ y ∈ l, m ≤ y := by
  induction l with
  | nil => exact absurd rfl h
  | cons a l ih =>
    by_cases e : l = []
    · exact ⟨a, List.mem_cons_self, fun y hy => by rw [e] at hy; rw [List.mem_singleton.mp hy]; exact Int.le_refl _⟩
    · obtain ⟨m, hm, hle⟩ := ih e
      by_cases c : a ≤ m
      · exact ⟨a, List.mem_cons_self, fun y hy => by
          rcases List.mem_cons.mp hy with z | z
          · rw [z]; exact Int.le_refl _
          · exact Int.le_trans c (hle y z)⟩
      · exact ⟨m, List.mem_cons_of_mem _ hm, fun y hy => by
          rcases List.mem_cons.mp hy with z | z
          · rw [z]; omega
          · exact hle y z⟩
theorem openAt_len {R : Rec} (ok : okRec R) {t : Nat} (ht : t ≤ R.ticks) : (R.openAt t).length ≤ 65610 := by
  have h1 := flat_len (fun e : Pl × Int => R.openOf t (R.behindAt (t + 1)) e.1) 10 (R.behindAt t) fun e _ => by
    unfold Rec.openOf
    rw [List.length_map]
    have h1 := List.length_filter_le (fun s : Nat × Pl => (getD? (R.behindAt (t + 1)) s.2).isSome) (R.steps t e.1)
    have h2 := R.steps_len t e.1
    have h3 := ok.top
    omega
  have h2 := behAt_len ok (R.ticks - t) (by omega)
  have h3 : (R.behindAt t).length ≤ 6561 := h2
  have h4 : (R.behindAt t).length * 10 ≤ 6561 * 10 := Nat.mul_le_mul_right _ h3
  exact Nat.le_trans h1 h4
theorem rng_len {R : Rec} (ok : okRec R) : ∀ t, t ≤ R.ticks → (R.rngD t).length ≤ 65610
  | 0, _ => by
    have h1 := ones_len ((0, 0) : Int × Int) ((R.behindAt 0).map (·.1)) []
    have h2 : (R.behindAt 0).length ≤ 6561 := behAt_len ok _ (by omega)
    rw [List.length_map] at h1
    simp only [List.length_nil, Nat.zero_add] at h1
    show (onesOf _ _).length ≤ _
    unfold onesOf
    omega
  | t + 1, h => by
    have h1 := rngFold_len (R.rngD t) (R.openAt t) []
    have h2 := openAt_len ok (show t ≤ R.ticks by omega)
    simp only [List.length_nil, Nat.zero_add] at h1
    exact Nat.le_trans h1 h2
theorem ok_way_range (T : TX K mg) : FnP P w K mg base d_way_range 12 ["record", "begin", "end"] (spWayRange K) [] := by
  refine fn3 (T.d D_way_range) rfl sc_way_range bd_way_range fun cdv A outer s H Q E a b c hr h => ?_
  obtain ⟨p, R, m, rfl, rfl, rfl, hRR, ok, hm, hnz, hcl, hne, q⟩ := h
  obtain ⟨f, hR⟩ := id hRR
  obtain ⟨dx, me, t, qs, h1, h2, h3, h4, h5⟩ := hR.ex
  have t8 := ok.t
  refine wb_cons <| ws_guard <| wt_not <| wt_val <| we_call (ok_is_between T) (T.g g_is_between) hr <| wa_cons <| we_var 1 rfl <| wa_cons <| we_int <| wa_cons <| we_lenO (ok_Record_len T) (T.m m_Record_len) hr (T.fr f_len) <| we_var 0 rfl ⟨p, dx, _, rfl, h1, _, rfl, p, R, rfl, hRR, t8, _, rfl, by omega, by omega, wa_nil ⟨_, _, _, rfl, 0, 0, _, rfl, rfl, rfl, true, ?_, rfl, ?_⟩⟩
  · rw [decide_eq_true (show (0 : Int) ≤ 0 ∧ (0 : Int) ≤ ((R.ticks : Nat) : Int) by omega)]
  refine wb_cons <| ws_guard <| wt_not <| wt_val <| we_call (ok_is_between T) (T.g g_is_between) hr <| wa_cons <| we_var 2 rfl <| wa_cons <| we_var 1 rfl <| wa_cons <| we_lenO (ok_Record_len T) (T.m m_Record_len) hr (T.fr f_len) <| we_var 0 rfl ⟨p, dx, _, rfl, h1, _, rfl, p, R, rfl, hRR, t8, _, rfl, by omega, by omega, wa_nil ⟨_, _, _, rfl, _, 0, _, rfl, rfl, rfl, true, ?_, rfl, ?_⟩⟩
  · rw [decide_eq_true (show (0 : Int) ≤ ((m : Nat) : Int) ∧ ((m : Nat) : Int) ≤ ((R.ticks : Nat) : Int) by omega)]
  refine wb_cons <| ws_guard <| wt_cmp op_eq <| we_meth0 (ok_Record_how_many T) (T.c c_Record) (T.m m_Record_how_many) hr <| we_var 0 rfl ⟨p, dx, _, rfl, h1, by kernel_rfl, _, rfl, p, R, rfl, hRR, ok, fun H1 s1 => we_int ⟨rfl, _, rfl, ?_, ?_⟩⟩
  · rw [dec_intV]
    exact decide_eq_false hnz
  refine wb_cons <| ws_set 3 (we_meth0 (ok_Record_open_steps T) (T.c c_Record) (T.m m_Record_open_steps) hr <| we_var 0 rfl ⟨p, dx, _, rfl, s1 _ _ h1, by kernel_rfl, _, rfl, p, R, rfl, hRR.mono s1, ok, fun S H2 s2 hS => ?_⟩) sc_way_range.nd
  obtain ⟨ls, eS, prl⟩ := hS
  have s02 := Same.trans s1 s2
  -- ranges = {..}
  refine wb_cons <| ws_unlock <| ws_setDc hr sc_way_range 4 [("place", 7)] <| wi_keysL <| we_ix ix_list <| we_meth0 (ok_Record_numbers_behind T) (T.c c_Record) (T.m m_Record_numbers_behind) hr <| we_var 0 rfl ⟨p, dx, _, rfl, s02 _ _ h1, by kernel_rfl, _, rfl, p, R, rfl, hRR.mono s02, ok, fun L H3 s3 hl => ?_⟩
  obtain ⟨ds, eL, prd⟩ := hl
  obtain ⟨d, hd, hdd⟩ := paired_get prd (show ((List.range (R.ticks + 1)).map R.behindAt)[0]? = some (R.behindAt 0) by rw [List.getElem?_map, List.getElem?_range (by omega)]; rfl)
  have bl : (R.behindAt 0).length ≤ 6561 := behAt_len ok _ (by omega)
  refine we_var 1 rfl ⟨L, _, _, _, rfl, rfl, SqL.of eL, at_of (j := 0) (v := .ref d) rfl (by rw [List.getElem?_map, hd]; rfl), d, _, rfl, hdd, fun od Hf bf ef nf => ?_⟩
  refine ⟨_, _, _, walk_keysT, fun D hD => ⟨fun i acc H' => Same Hf H' ∧ ∃ D' : List (Pl × Addr), acc = enc V.ref D' ∧ Paired (PutE H') D' ((((R.behindAt 0).map (·.1)).take i).foldl (fun acc p => putD acc p (0, 0)) []), fun H' s' e => ⟨s', [], rfl, .nil⟩, fun _ _ _ _ z _ => z.1 _ _ ef, ?_, by rw [enc_len]; omega, ?_⟩⟩
  · rintro i acc x H4 H5 hi ha ⟨s4, D', rfl, prD⟩ hDl ⟨rfl, k, v, z, hk, rfl, hz⟩ s0 H0 C cl fp
    obtain ⟨pl, y, hDi, rfl, rfl⟩ := enc_at hk
    have hDi' : ((R.behindAt 0).map (·.1))[i]? = some pl := by rw [List.getElem?_map, hDi]; rfl
    refine wg_name 7 ⟨rfl, fun s0 H0 C cl fp => wts_nil <| iteT fun s0 H0 C cl fp => we_var 7 rfl fun s0 H0 C cl fp => we_tup <| wa_cons <| we_int <| wa_cons <| we_int <| wa_nil ⟨by show 2 ≤ sizeLine; decide, fun g H6 hg s6 e6 => ⟨kp pl, z, rfl, s6 _ _ hz, s6 _ _ hDl, fun H7 b7 e7 => ⟨But.of_new (Same.trans s4 s6) hD b7, putD D' pl g, enc_put V.ref D' pl g, ?_⟩⟩⟩⟩ sc_way_range.nd
    rw [foldl_take (fun acc (p : Pl) => putD acc p ((0, 0) : Int × Int)) [] hDi']
    have hD6 := s6 _ _ hDl
    exact putE_put (Paired.mapP prD fun a c h => ⟨h.1, b7 _ _ (s6 _ _ h.2) (ne_of (s6 _ _ h.2) hD6 (by intro z; cases z))⟩) (b7 _ _ e6 (ne_of e6 hD6 (by intro z; cases z)))
  rintro acc H4 ha ⟨s4, D', rfl, prD⟩ hDl
  refine ⟨d, od, _, s4 _ _ ef, nf, fun H5 b5 e5 => ?_⟩
  have s35 : Same H3 H5 := same_locked0 hdd bf s4 b5 e5
  have hd4 := s4 _ _ ef
  have nDd : D ≠ d := fun z => by
    rw [z, ef] at hD
    cases hD
  have hR0 : RngAt H5 D (R.rngD 0) := by
    have e2 : ((R.behindAt 0).map (·.1)).take (enc V.int (R.behindAt 0)).length = (R.behindAt 0).map (·.1) := List.take_of_length_le (by rw [List.length_map, enc_len]; exact Nat.le_refl _)
    rw [e2] at prD
    exact ⟨D', b5 _ _ hDl nDd, Paired.mapP prD fun a c h => ⟨h.1, b5 _ _ h.2 (ne_of h.2 hd4 (by intro z; cases z))⟩⟩
  have s05 : Same H H5 := Same.trans s02 (Same.trans s3 s35)
  have s25 : Same H2 H5 := Same.trans s3 s35
  -- for tick in range(begin, end)
  refine wb_cons <| ws_forW PassesOwn.never rfl (fun _ => rfl) <| wI (pi_range2 (by rfl) (T.fr f_range) (pa_cons pE (pa_cons pE pa_nil))) (show WE _ _ _ _ _ from we_var 1 rfl <| (show WE _ _ _ _ _ from we_var 2 rfl ⟨0, ((m : Nat) : Int), rfl, ⟨by omega, by omega, by omega, by omega⟩, ?_⟩))
  rw [Int.sub_zero, Int.toNat_natCast]
  refine ⟨m, _, _, walk_range (lo := 0) (n := m), fun i σ H' => Same H5 H' ∧ ∃ dR, RngAt H' dR (R.rngD i) ∧ ∃ v5 v6 v7 v8 v9 v10 v11 v12 v13, σ = [some (.ref p), some (.int 0), some (.int (m : Nat)), some (.ref S), some (.ref dR), v5, v6, v7, v8, v9, v10, v11, v12, v13], ⟨fun _ _ e => e, D, hR0, _, _, _, _, _, _, _, _, _, rfl⟩, fun _ _ _ _ _ => trivial, ?_, ?_⟩
  · rintro i y σ H6 H7 hti ⟨s7, dR, ⟨DR', hdR, prR⟩, v5, v6, v7, v8, v9, v10, v11, v12, v13, rfl⟩ ⟨rfl, rfl⟩
    have e0 : V.int (0 + ((i : Nat) : Int)) = V.int ((i : Nat) : Int) := by rw [Int.zero_add]
    show WG _ _ (V.int (0 + ((i : Nat) : Int))) _ _ _
    rw [e0]
    have s27 : Same H2 H7 := Same.trans s25 s7
    refine wg_name 5 ?_ sc_way_range.nd
    refine wb_cons <| ws_set 6 (wE pe_dnewT fun nw hnw => ?_) sc_way_range.nd
    have s8 : Same H7 (upd H7 nw (.dT [])) := Same.new hnw
    have en8 : (upd H7 nw (.dT [])) nw = some (.dT []) := upd_same
    generalize upd H7 nw (.dT []) = H8 at s8 en8
    obtain ⟨l, hl, ts, el, prt⟩ := paired_get prl (show ((List.range R.ticks).map R.openAt)[i]? = some (R.openAt i) by rw [List.getElem?_map, List.getElem?_range (by omega)]; rfl)
    have s28 : Same H2 H8 := Same.trans s27 s8
    have tl := paired_len prt
    have ol := openAt_len ok (show i ≤ R.ticks by omega)
    have O := openAt_lt ok i
    have C := hcl i hti
    have ndR : dR ≠ nw := ne_of_none hdR hnw
    have hdR8 : H8 dR = some (.dT (enc V.ref DR')) := s8 _ _ hdR
    have el8 := s28 _ _ el
    refine wb_cons <| ws_forW PassesOwn.never rfl (fun _ => rfl) <| wi_list <| we_ix ix_list <| we_var 3 rfl <| we_var 5 rfl ⟨S, _, _, _, rfl, rfl, SqL.of (s28 _ _ eS), at_of (j := i) (v := .ref l) rfl (by rw [List.getElem?_map, hl]; rfl), l, _, rfl, SqL.of el8, _, _, _, walk_list (xs := ts.map V.ref), fun j σ H' => But nw H8 H' ∧ (∃ D' : List (Pl × Addr), H' nw = some (.dT (enc V.ref D')) ∧ Paired (PutE H') D' (((R.openAt i).take j).foldl (rngPut (R.rngD i)) [])) ∧ ∃ v7 v8 v9 v10 v11 v12 v13, σ = [some (.ref p), some (.int 0), some (.int (m : Nat)), some (.ref S), some (.ref dR), some (.int (i : Nat)), some (.ref nw), v7, v8, v9, v10, v11, v12, v13], ⟨But.same fun _ _ e => e, ⟨[], en8, .nil⟩, _, _, _, _, _, _, _, rfl⟩, fun _ _ _ _ z => SqL.of (z.1 _ _ el8 (ne_of el8 en8 (by intro z; cases z))), ?_, ?_⟩
    · rintro j y σ H9 H10 hj ⟨b9, ⟨D', e9, pr9⟩, v7, v8, v9, v10, v11, v12, v13, rfl⟩ ⟨rfl, hy⟩
      obtain ⟨u, hu, rfl⟩ := map_get hy
      obtain ⟨⟨pl, dd, g⟩, ho, hat⟩ := paired_get' prt hu
      obtain ⟨a1, b1, t1, t2, t3⟩ := (hat.mono s28).but b9 en8 (fun z => z)
      have hmem := List.mem_of_getElem? ho
      have d10 : dd < 10 := O _ hmem
      have hin := C _ hmem
      have efj := foldl_take (rngPut (R.rngD i)) [] ho
      have fl := rngFold_len (R.rngD i) ((R.openAt i).take j) []
      have tkl := List.length_take_le' j (R.openAt i)
      generalize hcu : ((R.openAt i).take j).foldl (rngPut (R.rngD i)) [] = cu at *
      simp only [List.length_nil, Nat.zero_add] at fl
      have prR9 : Paired (PutE H10) DR' (R.rngD i) := Paired.mapP prR fun a c h => ⟨h.1, b9 _ _ (s8 _ _ h.2) (ne_of (s8 _ _ h.2) en8 (by intro z; cases z))⟩
      have hdR9 : DictAt V.ref H10 dR DR' := b9 _ _ hdR8 ndR
      obtain ⟨ra, rv, g1, g2, g3⟩ : ∃ a v, getD? DR' pl = some a ∧ getD? (R.rngD i) pl = some v ∧ H10 a = some (.tup [.int v.1, .int v.2]) := by
        rcases putE_get (k := pl) prR9 with ⟨_, z⟩ | z
        · have := getD?_some.mpr hin
          rw [z] at this
          cases this
        · exact z
      have hgt : DGet H10 dR (.ref a1) (some (.ref ra)) := by
        have z := DictAt.get hdR9 t2
        rw [g1] at z
        exact z
      refine wg_tup3 7 8 9 (SqT.of t1) ?_ rfl sc_way_range.nd
      -- low, high = ranges[place]
      refine wb_cons <| ws_asg <| we_dget hr <| we_var 4 rfl <| we_var 7 rfl ⟨dR, _, rfl, hgt, wg_tup2 10 11 (SqT.of g3) ?_ rfl sc_way_range.nd⟩
      -- known = ..
      have hgn := DictAt.get (f := V.ref) (show DictAt V.ref H10 nw D' from e9) t3
      refine wb_cons <| ws_set 12 (we_dget2 hr <| we_var 6 rfl ⟨nw, rfl, .inr ⟨_, .inl e9⟩, we_var 9 rfl <| we_tup <| wa_cons <| we_add <| we_var 10 rfl <| we_intdg d10 (T.fr f_int) <| we_var 8 rfl ⟨rfl, _, _, rfl, rfl, wa_cons <| we_add <| we_var 11 rfl <| we_intdg d10 (T.fr f_int) <| we_var 8 rfl ⟨rfl, _, _, rfl, rfl, wa_nil ⟨by show 2 ≤ sizeLine; decide, fun kt H11 hkt s11 e11 => ⟨_, DictAt.get (f := V.ref) (show DictAt V.ref H11 nw D' from s11 _ _ e9) (s11 _ _ t3), ?_⟩⟩⟩⟩⟩) sc_way_range.nd
      have e9' := s11 _ _ e9
      have pr11 : Paired (PutE H11) D' cu := Paired.mapP pr9 fun a c h => ⟨h.1, s11 _ _ h.2⟩
      obtain ⟨ka, ek, hka⟩ : ∃ ka, ((getD? D' g).map V.ref).getD (.ref kt) = .ref ka ∧ H11 ka = some (.tup [.int ((getD? cu g).getD (rv.1 + (dd : Int), rv.2 + (dd : Int))).1, .int ((getD? cu g).getD (rv.1 + (dd : Int), rv.2 + (dd : Int))).2]) := by
        rcases putE_get (k := g) pr11 with ⟨z1, z2⟩ | ⟨a2, v2, z1, z2, z3⟩
        · exact ⟨kt, by rw [z1]; rfl, by rw [z2]; exact e11⟩
        · exact ⟨a2, by rw [z1]; rfl, by rw [z2]; exact z3⟩
      rw [ek]
      generalize hkn : (getD? cu g).getD (rv.1 + (dd : Int), rv.2 + (dd : Int)) = kn at *
      -- now[goal] = ..
      refine wb_cons <| ws_dput hr <| we_tup <| wa_cons <| we_blt (call_min2 rfl) (T.fr f_min) (by decide +kernel) <| wa_cons <| we_ix ix_tup <| we_var 12 rfl <| we_int ⟨ka, _, 0, _, rfl, rfl, SqT.of hka, at2_0, wa_cons <| we_add <| we_var 10 rfl <| we_intdg d10 (T.fr f_int) <| we_var 8 rfl ⟨rfl, _, _, rfl, rfl, wa_nil ⟨_, _, rfl, ?_⟩⟩⟩
      refine wa_cons <| we_blt (call_max2 rfl) (T.fr f_max) (by decide +kernel) <| wa_cons <| we_ix ix_tup <| we_var 12 rfl <| we_int ⟨ka, _, 1, _, rfl, rfl, SqT.of hka, at2_1, wa_cons <| we_add <| we_var 11 rfl <| we_intdg d10 (T.fr f_int) <| we_var 8 rfl ⟨rfl, _, _, rfl, rfl, wa_nil ⟨_, _, rfl, wa_nil ⟨by show 2 ≤ sizeLine; decide, fun nt H12 hnt s12 e12 => ?_⟩⟩⟩⟩
      have dl := congrArg List.length (putE_keys pr11)
      rw [List.length_map, List.length_map] at dl
      refine we_var 6 rfl <| we_var 9 rfl ⟨nw, enc V.ref D', kp g, b1, rfl, rfl, s12 _ _ e9', s12 _ _ (s11 _ _ t3), sz_lt (by rw [enc_len]; omega), fun H13 b13 e13 => wb_nil ⟨But.trans b9 (But.trans (But.same (Same.trans s11 s12)) b13), ⟨putD D' g nt, ?_, ?_⟩, _, _, _, _, _, _, _, rfl⟩⟩
      · rw [← enc_put]
        exact e13
      · rw [efj]
        have e9'' := s12 _ _ e9'
        have e5 : rngPut (R.rngD i) cu (pl, dd, g) = putD cu g (if rv.1 + (dd : Int) < kn.1 then rv.1 + (dd : Int) else kn.1, if rv.2 + (dd : Int) > kn.2 then rv.2 + (dd : Int) else kn.2) := by
          unfold rngPut
          show putD cu g _ = _
          rw [g2]
          show putD cu g (if rv.1 + (dd : Int) < ((getD? cu g).getD (rv.1 + (dd : Int), rv.2 + (dd : Int))).1 then rv.1 + (dd : Int) else ((getD? cu g).getD (rv.1 + (dd : Int), rv.2 + (dd : Int))).1, if rv.2 + (dd : Int) > ((getD? cu g).getD (rv.1 + (dd : Int), rv.2 + (dd : Int))).2 then rv.2 + (dd : Int) else ((getD? cu g).getD (rv.1 + (dd : Int), rv.2 + (dd : Int))).2) = _
          rw [hkn]
        rw [e5]
        exact putE_put (Paired.mapP pr11 fun a c h => ⟨h.1, b13 _ _ (s12 _ _ h.2) (ne_of (s12 _ _ h.2) e9'' (by intro z; cases z))⟩) (b13 _ _ e12 (ne_of e12 e9'' (by intro z; cases z)))
    · rintro σ H9 ⟨b9, ⟨D', e9, pr9⟩, v7, v8, v9, v10, v11, v12, v13, rfl⟩
      rw [List.length_map, tl, List.take_length] at pr9
      exact wb_cons <| ws_set 4 (we_var 6 rfl <| wb_nil ⟨Same.trans s7 (But.of_new s8 hnw b9), nw, ⟨D', e9, pr9⟩, _, _, _, _, _, _, _, _, _, rfl⟩) sc_way_range.nd
  · rintro σ H6 ⟨s6, dR, ⟨DR', hdR, prR⟩, v5, v6, v7, v8, v9, v10, v11, v12, v13, rfl⟩
    have rl := rng_len ok m hm
    generalize R.rngD m = D at *
    have dl := congrArg List.length (putE_keys prR)
    rw [List.length_map, List.length_map] at dl
    refine wb_cons <| ws_set 13 (we_listVals (x := "") rfl (T.fr f_list) <| we_var 4 rfl ⟨dR, _, rfl, hdR, fun L2 H7 hL7 s7 e7 => ?_⟩) sc_way_range.nd
    have e3 : (enc V.ref DR').map (·.2) = (DR'.map (·.2)).map V.ref := by
      unfold enc
      rw [List.map_map, List.map_map]
      rfl
    rw [e3] at e7
    have s67 : Same H H7 := Same.trans s05 (Same.trans s6 s7)
    have pr7 : Paired (PutE H7) DR' D := Paired.mapP prR fun a c h => ⟨h.1, s7 _ _ h.2⟩
    obtain ⟨lo, hlo1, hlo2⟩ := min_of (D.map fun e => e.2.1) (by intro z; exact hne (List.map_eq_nil_iff.mp z))
    obtain ⟨hi', hhi1, hhi2⟩ := min_of (D.map fun e => -e.2.2) (by intro z; exact hne (List.map_eq_nil_iff.mp z))
    have at7 : ∀ {n : Nat} {z : V}, ((DR'.map (·.2)).map V.ref)[n]? = some z → ∃ ad e, z = .ref ad ∧ D[n]? = some e ∧ H7 ad = some (.tup [.int e.2.1, .int e.2.2]) := by
      intro n z hz
      obtain ⟨ad, h1, rfl⟩ := map_get hz
      obtain ⟨e', h2, rfl⟩ := map_get h1
      obtain ⟨e, h3, h4⟩ := paired_get' pr7 h2
      exact ⟨_, e, rfl, h3, h4.2⟩
    refine wb_cons <| ws_ret <| we_tup <| wa_cons <| we_blt (cr_min rfl) (T.fr f_min) (by decide +kernel) <| wa_cons <| we_lc sc_way_range [("low", 10), ("high", 11)] <| wi_list <| we_var 13 rfl ⟨L2, _, rfl, SqL.of e7, ?_⟩
    refine lcMap (fun n => V.int (D.getD n ((0, 0), 0, 0)).2.1) (walk_list (xs := (DR'.map (·.2)).map V.ref)) (fun _ _ _ _ y => y.1) (by rw [List.length_map, List.length_map]; omega) (fun _ s' => s'.seq (SqL.of e7)) ?_ ?_
    · rintro n z H8 hn s8 ⟨_, hz⟩ s0 H0 C cl fp
      obtain ⟨ad, e, rfl, h1, h2⟩ := at7 hz
      have e4 : D.getD n ((0, 0), 0, 0) = e := by rw [List.getD_eq_getElem?_getD, h1]; rfl
      exact wg_tup2 10 11 (SqT.of (s8 _ _ h2)) ⟨rfl, fun s0 H0 C cl fp => we_var 10 rfl ⟨by rw [e4], fun _ _ e => e⟩⟩ rfl sc_way_range.nd
    intro X1 H8 hX1 s8 eX1
    have e5 : (List.range ((DR'.map (·.2)).map V.ref).length).map (fun n => V.int (D.getD n ((0, 0), 0, 0)).2.1) = (D.map fun e => e.2.1).map V.int := by
      rw [List.length_map, List.length_map, dl, map_range_get (fun e : Pl × (Int × Int) => V.int e.2.1) ((0, 0), 0, 0) D, List.map_map]
      rfl
    rw [e5] at eX1
    refine wa_nil ⟨X1, D.map fun e => e.2.1, rfl, SqL.of eX1, by rw [List.length_map]; exact List.length_pos_iff.mpr hne, fun mn hmn hmn2 => ?_⟩
    refine wa_cons <| we_blt (cr_max rfl) (T.fr f_max) (by decide +kernel) <| wa_cons <| we_lc sc_way_range [("low", 10), ("high", 11)] <| wi_list <| we_var 13 rfl ⟨L2, _, rfl, SqL.of (s8 _ _ e7), ?_⟩
    refine lcMap (fun n => V.int (D.getD n ((0, 0), 0, 0)).2.2) (walk_list (xs := (DR'.map (·.2)).map V.ref)) (fun _ _ _ _ y => y.1) (by rw [List.length_map, List.length_map]; omega) (fun _ s' => s'.seq (SqL.of (s8 _ _ e7))) ?_ ?_
    · rintro n z H9 hn s9 ⟨_, hz⟩ s0 H0 C cl fp
      obtain ⟨ad, e, rfl, h1, h2⟩ := at7 hz
      have e4 : D.getD n ((0, 0), 0, 0) = e := by rw [List.getD_eq_getElem?_getD, h1]; rfl
      exact wg_tup2 10 11 (SqT.of (s9 _ _ (s8 _ _ h2))) ⟨rfl, fun s0 H0 C cl fp => we_var 11 rfl ⟨by rw [e4], fun _ _ e => e⟩⟩ rfl sc_way_range.nd
    intro X2 H9 hX2 s9 eX2
    have e6 : (List.range ((DR'.map (·.2)).map V.ref).length).map (fun n => V.int (D.getD n ((0, 0), 0, 0)).2.2) = (D.map fun e => e.2.2).map V.int := by
      rw [List.length_map, List.length_map, dl, map_range_get (fun e : Pl × (Int × Int) => V.int e.2.2) ((0, 0), 0, 0) D, List.map_map]
      rfl
    rw [e6] at eX2
    refine wa_nil ⟨X2, D.map fun e => e.2.2, rfl, SqL.of eX2, by rw [List.length_map]; exact List.length_pos_iff.mpr hne, fun mx hmx hmx2 => ?_⟩
    exact wa_nil ⟨by show 2 ≤ sizeLine; decide, fun r H10 hr10 s10 e10 => q mn mx r H10 (Same.trans s67 (Same.trans s8 (Same.trans s9 s10))) hmn hmn2 hmx hmx2 e10⟩
end
end Cab
/-! text CabU1 -/
set_option Elab.async false
set_option linter.all false
set_option maxRecDepth 100000
set_option maxHeartbeats 4000000
namespace Cab
open PySem PySem.Spec PyProof.Rows L2 He
section
variable {X : Cx} {o i value e : Expr} {σ : L2.St} {H : Hp} {D : Ends} {pos tpos apos cpos : Pos}
/-- xs[i] = e -/
theorem ws_lset (h : WE X value σ H fun v H1 => WE X o σ H1 fun x H2 => WE X i σ H2 fun y H3 => ∃ p xs n j, x = .ref p ∧ y = .int n ∧ H3 p = some (.lst xs) ∧ ixN xs.length n = some j ∧ ∀ H4, But p H3 H4 → H4 p = some (.lst (xs.set j v)) → D.nx σ H4)
    (hs : swapsWithSole [.Subscript o i tpos] value pos.line X.env = pure false := by rfl) (hw : swappedStores [.Subscript o i tpos] value X.env = pure none := by rfl) (h1 : (assignEach [.Subscript o i tpos] X.env).map (·.2) = [assign (.Subscript o i tpos) X.env] := by rfl)
    (ha : ∀ v, assign (.Subscript o i tpos) X.env v = (do
      let ov ← holding [v] (eval o X.env)
      let iv ← holding [v, ov] (eval i X.env)
      standAt tpos
      holding [v, ov, iv] (setItem ov iv v)
      release [v, ov, iv] []) := by intro _; rfl) : WS X (.Assign [.Subscript o i tpos] value pos) D σ H :=
  ws_asg (WE.mono h fun v H1 k => wG (pg_sub pE pE set_list ha) (WE.mono k fun x H2 k => WE.mono k fun y H3 ⟨p, xs, n, j, e1, e2, e3, e4, k⟩ => ⟨p, xs, n, j, e1, e2, e3, e4, k _ But.upd upd_same⟩)) hs hw h1
/-- l.pop(i) -/
theorem we_popAt {Q : VK} (h : WE X o σ H fun x H1 => ∃ l, x = .ref l ∧ (∃ ys, H1 l = some (.lst ys)) ∧ WE X e σ H1 fun y H2 => ∃ (xs : List V) (n k : Nat) (z : V), y = .int (n : Nat) ∧ H2 l = some (.lst xs) ∧ n < 1000000 ∧ n = k ∧ xs[k]? = some z ∧ ∀ H3, But l H2 H3 → H3 l = some (.lst (xs.eraseIdx k)) → Q z H3)
    (hst : starEach [e] X.env = (false, eval e X.env) :: starEach [] X.env := by rfl) (hbase : attributeBase o "pop" X.env (eval o X.env) = eval o X.env := by rfl)
    (hfew : ((backTo cpos (starEach [e] X.env)).all (fun x => !x.1) && (backToKw cpos (keywordEach [] X.env)).all (fun x => x.1.isSome) && decide (([e] : List Expr).length + ([] : List Keyword).length + (if ([] : List Keyword).isEmpty then 0 else 1) < 30)) = true := by rfl)
    (hline : (apos.endLine == cpos.line) = true := by rfl) (hpl : (backTo cpos (starEach [] X.env)).any (·.1) = false := by rfl) : WE X (.Call (.Attribute o "pop" apos) [e] [] cpos) σ H Q :=
  wE (pe_bm PySem.F.plainAttrs_list PySem.F.slot_list_pop PySem.F.type_list_pop mt_popAt pE (pa_cons pE pa_nil hst) hbase hfew hline hst hpl)
    (show WE X o σ H _ from WE.mono h fun x H1 ⟨l, ex, ⟨ys, hy⟩, k⟩ => by
      subst ex
      refine ⟨.inl ⟨rfl, _, SqL.of hy⟩, WE.mono k fun y H2 ⟨xs, n, k, z, ey, hx, hn, hk, hz, k2⟩ => ?_⟩
      subst ey hk
      refine ⟨l, xs, ((n : Nat) : Int), n, z, rfl, rfl, hx, by omega, by omega, ?_, hz, k2 _ But.upd upd_same⟩
      have hl := (List.getElem?_eq_some_iff.mp hz).1
      unfold seqIndex?
      have e1 : ¬ (((n : Nat) : Int) < 0) := by omega
      simp only [e1, if_false]
      have e2 : (decide ((0 : Int) ≤ ((n : Nat) : Int)) && decide (((n : Nat) : Int) < ((xs.length : Nat) : Int))) = true := by
        rw [decide_eq_true (by omega), decide_eq_true (by omega)]
        rfl
      rw [if_pos e2]
      simp)
end
/-- the bag of the law's draws -/
def BagAt (l : Addr) (H : Hp) (b : Addr) : Prop := ∃ (ns : List Int) (i : Nat) (c h n : Int), H b = some (.lst [.ref l, .int (i : Nat), .int c, .int h, .int n]) ∧ H l = some (.lst (ns.map V.int))
theorem BagAt.mono {l : Addr} {H H' : Hp} {b : Addr} (s : Same H H') (h : BagAt l H b) : BagAt l H' b := let ⟨ns, i, c, hh, n, a, e⟩ := h; ⟨ns, i, c, hh, n, s _ _ a, s _ _ e⟩
theorem BagAt.fresh {l D : Addr} {H1 H H' : Hp} {b : Addr} (h1 : BagAt l H1 b) (n : H1 D = none) (h : BagAt l H b) (bb : But D H H') : BagAt l H' b := by
  obtain ⟨_, _, _, _, _, a1, a2⟩ := h1
  obtain ⟨ns, i, c, hh, m, a, e⟩ := h
  exact ⟨ns, i, c, hh, m, bb _ _ a (ne_of_none a1 n), bb _ _ e (ne_of_none a2 n)⟩
section
variable {P : Program} {w : World} {K : PySem.W.Frag} {mg : Str → Option Value} {base : Heap}
def spBag (K : PySem.W.Frag) : Sp := sp1 fun a H Q => ∃ (p : Addr) (ns : List Int), a = .ref p ∧ SqL K H p (ns.map V.int) ∧ ∀ l b H', Same H H' → H b = none → H l = none → BagAt l H' b → Q (.ref b) H'
theorem ok_law_bag (T : TX K mg) : FnP P w K mg base d_law_bag 1 ["_law_script"] (spBag K) [] := by
  refine fn1 (T.d D_law_bag) rfl sc_law_bag bd_law_bag fun cdv A outer s H Q E a hr h => ?_
  obtain ⟨p, ns, rfl, hp, q⟩ := h
  refine wb_cons <| ws_ret <| we_lst <| wa_cons <| we_ty call_list_of (T.fr f_list) (by decide +kernel) <| wa_cons <| we_var 0 rfl <| wa_nil ⟨p, _, rfl, .inl hp, fun l hl => ?_⟩
  have s1 : Same H (upd H l (.lst (ns.map V.int))) := Same.new hl
  have e1 : (upd H l (.lst (ns.map V.int))) l = some (.lst (ns.map V.int)) := upd_same
  generalize upd H l (.lst (ns.map V.int)) = H1 at s1 e1
  refine wa_cons <| we_int <| wa_cons <| we_int <| wa_cons <| we_int <| wa_cons <| we_int <| wa_nil ⟨by show 5 ≤ sizeLine; decide, fun b H2 hb s2 e2 => q l b H2 (Same.trans s1 s2) ?_ hl ⟨ns, 0, 0, 17, 0, e2, s2 _ _ e1⟩⟩
  cases hx : H b with
  | none => rfl
  | some o =>
    rw [s1 _ _ hx] at hb
    cases hb
theorem atb (a b c d e : V) : atI [a, b, c, d, e] 0 = some a ∧ atI [a, b, c, d, e] 1 = some b ∧ atI [a, b, c, d, e] 2 = some c ∧ atI [a, b, c, d, e] 3 = some d ∧ atI [a, b, c, d, e] 4 = some e := ⟨by kernel_rfl, by kernel_rfl, by kernel_rfl, by kernel_rfl, by kernel_rfl⟩
/-- bag[i] -/
theorem we_bag {X : Cx} {e : Expr} {σ : L2.St} {H : Hp} {Q : VK} {b : Addr} {x0 x1 x2 x3 x4 v : V} {i : Int} {k : Nat} {p1 pos : Pos} (hb : H b = some (.lst [x0, x1, x2, x3, x4])) (hv : atI [x0, x1, x2, x3, x4] i = some v) (h : WE X e σ H fun x H1 => x = .ref b ∧ H1 = H) (q : Q v H) (hs : PlainIx (.Constant (.int i) k p1) := by exact fun _ _ => rfl) : WE X (.Subscript e (.Constant (.int i) k p1) pos) σ H Q :=
  we_ix ix_list (WE.mono h fun x H1 ⟨e1, e2⟩ => we_int ⟨b, _, i, v, e1, rfl, SqL.of (by rw [e2]; exact hb), hv, by rw [e2]; exact q⟩) hs
def spDraw : Sp := sp2 fun a b H Q => ∃ (l p : Addr) (s : Nat), a = .ref p ∧ BagAt l H p ∧ b = .int (s : Nat) ∧ 1 ≤ s ∧ s < 1073741824 ∧ ∀ (r : Nat) H', r < s → But p H H' → BagAt l H' p → Q (.int (r : Nat)) H'
theorem modN {a : Int} {s : Nat} (hs : 1 ≤ s) : ∃ r : Nat, a % (s : Nat) = (r : Nat) ∧ r < s := ⟨(a % (s : Nat)).toNat, by have := Int.emod_nonneg a (b := ((s : Nat) : Int)) (by omega); omega, by have := Int.emod_lt_of_pos a (b := ((s : Nat) : Int)) (by omega); have h2 := Int.emod_nonneg a (b := ((s : Nat) : Int)) (by omega); omega⟩
theorem ite_lo (b : Bool) : -2 ^ 64 < (if b = true then (1 : Int) else 0) := by cases b <;> decide
theorem ite_hi (b : Bool) : (if b = true then (1 : Int) else 0) < 2 ^ 64 := by cases b <;> decide
theorem ok_law_draw (T : TX K mg) : FnP P w K mg base d_law_draw 1 ["_law_bag_here", "_law_size"] spDraw [] := by
  refine fn2 (T.d D_law_draw) rfl sc_law_draw bd_law_draw fun cdv A outer s H Q E a b hr h => ?_
  obtain ⟨l, p, sz, rfl, ⟨ns, i, c, hh, n, hp, hl⟩, rfl, s1, s2, q⟩ := h
  have nlp : l ≠ p := fun z => by
    rw [z, hp] at hl
    have h := Option.some.inj hl
    injection h with h
    cases ns with
    | nil => cases h
    | cons a l => injection h with h; cases h
  have ix : ∀ {k : Int} {j : Nat}, k = (j : Nat) → j < 5 → ixN 5 k = some j := by
    intro k j e hj
    subst e
    unfold ixN
    rw [if_pos (by omega), if_pos (by omega)]
    simp
  -- bag[4] = bag[4] + 1
  refine wb_cons <| ws_lset <| we_add <| we_bag hp (atb _ _ _ _ _).2.2.2.2 (we_var 0 rfl ⟨rfl, rfl⟩) <| we_int ⟨_, _, rfl, rfl, we_var 0 rfl <| we_int ⟨p, _, 4, 4, rfl, rfl, hp, ix rfl (by decide), fun H1 b1 e1 => ?_⟩⟩
  have e1 : H1 p = some (.lst [.ref l, .int (i : Nat), .int c, .int hh, .int (n + 1)]) := e1
  have hl1 : H1 l = some (.lst (ns.map V.int)) := b1 _ _ hl nlp
  clear hp hl
  -- what stands behind the if
  have rest : ∀ (H2 : Hp) (v2 : Option V) (i2 : Nat) (c2 h2 : Int), But p H H2 → H2 p = some (.lst [.ref l, .int (i2 : Nat), .int c2, .int h2, .int (n + 1)]) → H2 l = some (.lst (ns.map V.int)) →
      WB (XC P w K mg base d_law_draw N_law_draw (d_law_draw.path K) cdv A outer s H E) (d_law_draw.body.drop 2) { nx := fun _ H' => Q .non H', rt := Q } [some (.ref p), some (.int (sz : Nat)), v2, none, none] H2 := by
    intro H2 v2 i2 c2 h2 b2 e2 l2
    obtain ⟨r, er, hr1⟩ := modN (a := c2) s1
    refine wb_cons <| ws_set 3 (we_op op_mod <| we_ty call_int1 (T.fr f_int) (by decide +kernel) <| wa_cons <| we_bag e2 (atb _ _ _ _ _).2.2.1 (we_var 0 rfl ⟨rfl, rfl⟩) <| wa_nil <| .inl ⟨c2, rfl, we_var 1 rfl ⟨_, _, rfl, rfl, by show (0 : Int) < ((sz : Nat) : Int); omega, ?_⟩⟩) sc_law_draw.nd
    dsimp only
    rw [er]
    refine wb_cons <| ws_if <| wt_cmp op_gt <| we_bag e2 (atb _ _ _ _ _).2.2.1 (we_var 0 rfl ⟨rfl, rfl⟩) <| we_int ⟨_, _, rfl, rfl, _, rfl, ?_⟩
    by_cases hc : 0 < c2
    · rw [decide_eq_true (show (0 : Int) < c2 from hc)]
      refine iteT <| wb_cons <| ws_lset <| we_op op_fdiv <| we_bag e2 (atb _ _ _ _ _).2.2.1 (we_var 0 rfl ⟨rfl, rfl⟩) <| we_var 1 rfl ⟨_, _, rfl, rfl, ⟨by omega, by omega⟩, we_var 0 rfl <| we_int ⟨p, _, 2, 2, rfl, rfl, e2, ix rfl (by decide), fun H3 b3 e3 => ?_⟩⟩
      exact wb_cons <| ws_ret <| we_var 3 rfl <| q r H3 hr1 (But.trans b2 b3) ⟨ns, i2, _, h2, n + 1, e3, b3 _ _ l2 nlp⟩
    · rw [decide_eq_false (show ¬ (0 : Int) < c2 from hc)]
      refine iteF <| wb_nil <| wb_cons <| ws_set 4 (we_op op_mod <| we_ty call_int1 (T.fr f_int) (by decide +kernel) <| wa_cons <| we_add <| we_bag e2 (atb _ _ _ _ _).2.2.2.1 (we_var 0 rfl ⟨rfl, rfl⟩) <| we_op op_mul <| we_bag e2 (atb _ _ _ _ _).2.2.2.2 (we_var 0 rfl ⟨rfl, rfl⟩) <| we_int ⟨_, _, rfl, rfl, .inr ⟨by decide, by decide⟩, _, _, rfl, rfl, wa_nil <| .inl ⟨_, rfl, we_int ⟨_, _, rfl, rfl, Int.ofNat_lt.mpr (Nat.succ_pos _), ?_⟩⟩⟩) sc_law_draw.nd
      obtain ⟨m1, em1, hm1⟩ := modN (a := h2 + (n + 1) * 40692) (s := 2147483647) (by decide)
      have em1 : (h2 + (n + 1) * 40692) % 2147483647 = ((m1 : Nat) : Int) := em1
      dsimp only
      rw [em1]
      refine wb_cons <| ws_set 4 (we_op op_mod <| we_ty call_int1 (T.fr f_int) (by decide +kernel) <| wa_cons <| we_add <| we_add <| we_op op_pow <| we_var 4 rfl <| we_int ⟨_, _, rfl, rfl, ⟨by decide, by decide, by show ((m1 : Nat) : Int).natAbs < 2 ^ 64; omega⟩, we_op op_mul <| we_bag e2 (atb _ _ _ _ _).2.2.2.2 (we_var 0 rfl ⟨rfl, rfl⟩) <| we_int ⟨_, _, rfl, rfl, .inr ⟨by decide, by decide⟩, _, _, rfl, rfl, we_int ⟨_, _, rfl, rfl, wa_nil <| .inl ⟨_, rfl, we_int ⟨_, _, rfl, rfl, Int.ofNat_lt.mpr (Nat.succ_pos _), ?_⟩⟩⟩⟩⟩) sc_law_draw.nd
      dsimp only
      generalize (((m1 : Nat) : Int) ^ (3 : Int).toNat + (n + 1) * 16807 + 7) = big
      obtain ⟨m2, em2, hm2⟩ := modN (a := big) (s := 2147483629) (by decide)
      have em2 : big % 2147483629 = ((m2 : Nat) : Int) := em2
      rw [em2]
      refine wb_cons <| ws_ret <| we_op op_mod <| we_op op_fdiv <| we_op op_mod <| we_ty call_int1 (T.fr f_int) (by decide +kernel) <| wa_cons <| we_op op_pow <| we_var 4 rfl <| we_int ⟨_, _, rfl, rfl, ⟨by decide, by decide, by show ((m2 : Nat) : Int).natAbs < 2 ^ 64; omega⟩, wa_nil <| .inl ⟨_, rfl, we_int ⟨_, _, rfl, rfl, Int.ofNat_lt.mpr (Nat.succ_pos _), we_int ⟨_, _, rfl, rfl, ⟨by decide, by decide⟩, we_var 1 rfl ⟨_, _, rfl, rfl, by show (0 : Int) < ((sz : Nat) : Int); omega, ?_⟩⟩⟩⟩⟩
      generalize (((m2 : Nat) : Int) ^ (2 : Int).toNat % 2147483587 / 8) = big2
      obtain ⟨m3, em3, hm3⟩ := modN (a := big2) s1
      dsimp only
      rw [em3]
      exact q m3 H2 hm3 b2 ⟨ns, i2, c2, h2, n + 1, e2, l2⟩
  refine wb_cons <| ws_if <| wt_W <| ww_and <| wt_cmp op_eq <| we_bag e1 (atb _ _ _ _ _).2.2.1 (we_var 0 rfl ⟨rfl, rfl⟩) <| we_int ⟨rfl, _, rfl, ?_⟩
  rw [dec_intV]
  by_cases hc : c = 0
  · rw [decide_eq_true hc]
    refine iteT <| ww_and1 <| wt_cmp op_lt <| we_bag e1 (atb _ _ _ _ _).2.1 (we_var 0 rfl ⟨rfl, rfl⟩) <| we_blt call_len_seq (T.fr f_len) boot_len <| wa_cons <| we_bag e1 (atb _ _ _ _ _).1 (we_var 0 rfl ⟨rfl, rfl⟩) <| wa_nil ⟨l, _, rfl, .inl (SqL.of hl1), _, _, rfl, rfl, _, rfl, ?_⟩
    rw [List.length_map]
    by_cases hi : i < ns.length
    · rw [decide_eq_true (show ((i : Nat) : Int) < ((ns.length : Nat) : Int) by omega)]
      have hni : (ns.map V.int)[i]? = some (.int (ns[i]'hi)) := by rw [List.getElem?_map, List.getElem?_eq_getElem hi]; rfl
      refine iteT <| wb_cons <| ws_set 2 (we_ix ix_list <| we_bag e1 (atb _ _ _ _ _).1 (we_var 0 rfl ⟨rfl, rfl⟩) <| we_bag e1 (atb _ _ _ _ _).2.1 (we_var 0 rfl ⟨rfl, rfl⟩) ⟨l, _, _, _, rfl, rfl, SqL.of hl1, at_of (j := i) rfl hni, ?_⟩) sc_law_draw.nd
      refine wb_cons <| ws_lset <| we_add <| we_bag e1 (atb _ _ _ _ _).2.1 (we_var 0 rfl ⟨rfl, rfl⟩) <| we_int ⟨_, _, rfl, rfl, we_var 0 rfl <| we_int ⟨p, _, 1, 1, rfl, rfl, e1, ix rfl (by decide), fun H2 b2 e2 => ?_⟩⟩
      have e2 : H2 p = some (.lst [.ref l, .int ((i + 1 : Nat)), .int c, .int hh, .int (n + 1)]) := e2
      have hl2 := b2 _ _ hl1 nlp
      refine wb_cons <| ws_lset <| we_op op_mul <| we_add <| we_op op_mul <| we_int <| we_blt call_abs (T.fr f_abs) (by decide +kernel) <| wa_cons <| we_var 2 rfl <| wa_nil ⟨_, rfl, _, _, rfl, rfl, .inl ⟨by decide, by decide⟩, we_ty call_int1 (T.fr f_int) (by decide +kernel) <| wa_cons <| we_cmp op_lt <| we_var 2 rfl <| we_int ⟨_, _, rfl, rfl, wa_nil <| .inr ⟨_, rfl, _, _, rfl, rfl, we_ty call_int1 (T.fr f_int) (by decide +kernel) <| wa_cons <| we_cmp op_ge <| we_blt call_abs (T.fr f_abs) (by decide +kernel) <| wa_cons <| we_var 2 rfl <| wa_nil ⟨_, rfl, we_op op_pow <| we_int <| we_int ⟨_, _, rfl, rfl, ⟨by decide, by decide, by decide⟩, _, _, rfl, rfl, wa_nil <| .inr ⟨_, rfl, _, _, rfl, rfl, .inr ⟨?_, ?_⟩, ?_⟩⟩⟩⟩⟩⟩
      · exact ite_lo _
      · exact ite_hi _
      refine we_var 0 rfl <| we_int ⟨p, _, 2, 2, rfl, rfl, e2, ix rfl (by decide), fun H3 b3 e3 => ?_⟩
      have hl3 := b3 _ _ hl2 nlp
      refine wb_cons <| ws_lset <| we_op op_mod <| we_ty call_int1 (T.fr f_int) (by decide +kernel) <| wa_cons <| we_add <| we_add <| we_op op_mul <| we_bag e3 (atb _ _ _ _ _).2.2.2.1 (we_var 0 rfl ⟨rfl, rfl⟩) <| we_int ⟨_, _, rfl, rfl, .inr ⟨by decide, by decide⟩, we_op op_mul <| we_var 2 rfl <| we_int ⟨_, _, rfl, rfl, .inr ⟨by decide, by decide⟩, _, _, rfl, rfl, we_int ⟨_, _, rfl, rfl, wa_nil <| .inl ⟨_, rfl, we_int ⟨_, _, rfl, rfl, Int.ofNat_lt.mpr (Nat.succ_pos _), we_var 0 rfl <| we_int ⟨p, _, 3, 3, rfl, rfl, e3, ix rfl (by decide), fun H4 b4 e4 => ?_⟩⟩⟩⟩⟩⟩
      exact wb_nil <| rest H4 _ _ _ _ (But.trans b1 (But.trans b2 (But.trans b3 b4))) e4 (b4 _ _ hl3 nlp)
    · rw [decide_eq_false (show ¬ ((i : Nat) : Int) < ((ns.length : Nat) : Int) by omega)]
      exact iteF <| wb_nil <| rest H1 _ _ _ _ b1 e1 hl1
  · rw [decide_eq_false hc]
    exact iteF <| iteF <| wb_nil <| rest H1 _ _ _ _ b1 e1 hl1
end
end Cab
/-! text CabU2 -/
set_option Elab.async false
set_option linter.all false
set_option maxRecDepth 100000
set_option maxHeartbeats 4000000
namespace Cab
open PySem PySem.Spec PyProof.Rows L2 He
theorem But.skip {p D : Addr} {H H1 H2 : Hp} (b : But p H H1) (n : H D = none) (c : But D H1 H2) : But p H H2 := fun a o h ne => c _ _ (b _ _ h ne) (ne_of_none h n)
theorem perm_erase {α : Type} : ∀ (l : List α) (i : Nat) (z : α), l[i]? = some z → (z :: l.eraseIdx i).Perm l
  | [], i, z, h => by cases i <;> cases h
  | a :: l, 0, z, h => by
    have h := Option.some.inj h
    rw [h]
    exact List.Perm.refl _
  | a :: l, i + 1, z, h => by
    have h : l[i]? = some z := h
    exact List.Perm.trans (List.Perm.swap a z _) (List.Perm.cons a (perm_erase l i z h))
section
variable {X : Cx} {scope : Scope} {elt tg : Expr} {vs : List Nat} {σ : L2.St} {J : It} {n : Nat} {G : Hp → Prop} {Y : Nat → Hp → V → Hp → Prop} {H1 : Hp} {Q : VK}
/-- a comprehension that draws from the bag b -/
theorem lcP (b : Addr) (I : Hp → Prop) (Pv : Nat → List V → Prop) (wk : Walk J n G Y) (hY : ∀ i H x H', Y i H x H' → H' = H) (hz : n ≤ 1000000) (hG : ∀ H', But b H1 H' → G H') (hb : H1 b ≠ none) (I0 : I H1) (hI : ∀ D H H', H1 D = none → I H → But D H H' → I H') (p0 : Pv 0 [])
    (he : ∀ i acc x H, i < n → acc.length ≤ i → Pv i acc → But b H1 H → I H → Y i H x H → AB X scope fun Z => WG Z tg x (wipe σ vs) H fun σ2 H2 => wipe σ2 vs = wipe σ vs ∧ AB X scope fun Z => WE Z elt σ2 H2 fun y H4 => Pv (i + 1) (acc ++ [y]) ∧ But b H H4 ∧ I H4)
    (done : ∀ D acc H', H1 D = none → But b H1 H' → I H' → Pv n acc → H' D = some (.lst acc) → Q (.ref D) H') : LcR X scope elt tg [] vs σ J H1 Q := by
  refine ⟨n, G, Y, wk, fun D hD => ⟨fun i acc H' => Pv i acc ∧ But b H1 H' ∧ I H', fun H' s' _ => ⟨p0, But.same s', hI D H1 H' hD I0 (But.same s')⟩, fun i acc H' _ p _ => hG H' p.2.1, ?_, hz, ?_⟩⟩
  · rintro i acc x H H' hi hacc ⟨ea, s1, ii⟩ hDl y
    have e := hY _ _ _ _ y
    subst e
    have nDb : D ≠ b := fun z => hb (by rw [← z]; exact hD)
    intro s0 H0 C cl fp pins s u I' r
    refine thn (he i acc x H' hi hacc ea s1 ii y s0 H0 C cl fp pins s u I' r) fun _ s2 ⟨σ2, H2, I2, hw, k⟩ => ⟨σ2, H2, I2, hw, ?_⟩
    intro s0 H0 C cl fp
    exact wts_nil (iteT fun s0 H0 C cl fp => WE.mono (k s0 H0 C cl fp) fun y H4 ⟨ey, s4, i4⟩ => ⟨s4 _ _ hDl nDb, fun H5 b5 e5 => ⟨ey, But.skip (But.trans s1 s4) hD b5, hI D H4 H5 hD i4 b5⟩⟩)
  · rintro acc H' hl ⟨ea, s1, ii⟩ hDl
    exact done D acc H' hD s1 ii ea hDl
theorem lcPF {c : Expr} (b : Addr) (I : Hp → Prop) (Pv : Nat → List V → Prop) (wk : Walk J n G Y) (hY : ∀ i H x H', Y i H x H' → H' = H) (hz : n ≤ 1000000) (hG : ∀ H', But b H1 H' → G H') (hb : H1 b ≠ none) (I0 : I H1) (hI : ∀ D H H', H1 D = none → I H → But D H H' → I H') (p0 : Pv 0 [])
    (he : ∀ i acc x H, i < n → acc.length ≤ i → Pv i acc → But b H1 H → I H → Y i H x H → AB X scope fun Z => WG Z tg x (wipe σ vs) H fun σ2 H2 => wipe σ2 vs = wipe σ vs ∧ AB X scope fun Z => WT Z c σ2 H2 fun k H3 => But b H H3 ∧ I H3 ∧ (k = false → Pv (i + 1) acc) ∧ (k = true → AB X scope fun Z => WE Z elt σ2 H3 fun y H4 => Pv (i + 1) (acc ++ [y]) ∧ H4 = H3))
    (done : ∀ D acc H', H1 D = none → But b H1 H' → I H' → Pv n acc → H' D = some (.lst acc) → Q (.ref D) H') : LcR X scope elt tg [c] vs σ J H1 Q := by
  refine ⟨n, G, Y, wk, fun D hD => ⟨fun i acc H' => Pv i acc ∧ But b H1 H' ∧ I H', fun H' s' _ => ⟨p0, But.same s', hI D H1 H' hD I0 (But.same s')⟩, fun i acc H' _ p _ => hG H' p.2.1, ?_, hz, ?_⟩⟩
  · rintro i acc x H H' hi hacc ⟨ea, s1, ii⟩ hDl y
    have e := hY _ _ _ _ y
    subst e
    have nDb : D ≠ b := fun z => hb (by rw [← z]; exact hD)
    intro s0 H0 C cl fp pins s u I' r
    refine thn (he i acc x H' hi hacc ea s1 ii y s0 H0 C cl fp pins s u I' r) fun _ s2 ⟨σ2, H2, I2, hw, k⟩ => ⟨σ2, H2, I2, hw, ?_⟩
    intro s0 H0 C cl fp
    refine wts_one (WT.mono (k s0 H0 C cl fp) fun q H3 ⟨s3, i3, kf, kt⟩ => ?_)
    cases q with
    | true =>
      refine iteT fun s0 H0 C cl fp => WE.mono (kt rfl s0 H0 C cl fp) fun y H4 ⟨ey, e4⟩ => ?_
      subst e4
      exact ⟨s3 _ _ hDl nDb, fun H5 b5 e5 => ⟨ey, But.skip (But.trans s1 s3) hD b5, hI D H4 H5 hD i3 b5⟩⟩
    | false =>
      refine iteF ⟨⟨kf rfl, But.trans s1 s3, i3⟩, s3 _ _ hDl nDb⟩
  · rintro acc H' hl ⟨ea, s1, ii⟩ hDl
    exact done D acc H' hD s1 ii ea hDl
end
theorem BagAt.ne {l : Addr} {H : Hp} {b : Addr} (h : BagAt l H b) : H b ≠ none := fun z => by
  obtain ⟨_, _, _, _, _, a1, _⟩ := h
  rw [z] at a1
  cases a1
theorem BagAt.nel {l : Addr} {H : Hp} {b : Addr} (h : BagAt l H b) : H l ≠ none := fun z => by
  obtain ⟨_, _, _, _, _, _, a1⟩ := h
  rw [z] at a1
  cases a1
section
variable {P : Program} {w : World} {K : PySem.W.Frag} {mg : Str → Option Value} {base : Heap}
def spMixed : Sp := sp2 fun a b H Q => ∃ (l p q : Addr) (xs : List V), a = .ref p ∧ BagAt l H p ∧ b = .ref q ∧ H q = some (.lst xs) ∧ q ≠ p ∧ xs.length ≤ 1000 ∧
  ∀ (r : Addr) (ys : List V) H', But p H H' → BagAt l H' p → ys.Perm xs → H r = none → H' r = some (.lst ys) → Q (.ref r) H'
theorem ok_law_mixed (T : TX K mg) : FnP P w K mg base d_law_mixed 3 ["_law_bag_here", "_law_items"] spMixed [] := by
  refine fn2 (T.d D_law_mixed) rfl sc_law_mixed bd_law_mixed fun cdv A outer s H Q E a b hr h => ?_
  obtain ⟨l, p, q, xs, rfl, hb, rfl, hq, nqp, xl, k⟩ := h
  refine wb_cons <| ws_set 2 (we_ty call_list_of (T.fr f_list) (by decide +kernel) <| wa_cons <| we_var 1 rfl <| wa_nil ⟨q, _, rfl, .inl (SqL.of hq), fun L hL => ?_⟩) sc_law_mixed.nd
  have s1 : Same H (upd H L (.lst xs)) := Same.new hL
  have e1 : (upd H L (.lst xs)) L = some (.lst xs) := upd_same
  generalize upd H L (.lst xs) = H1 at s1 e1
  refine wb_cons <| ws_set 3 (we_lst <| wa_nil ⟨by show 0 ≤ sizeLine; decide, fun F H2 hF s2 e2 => ?_⟩) sc_law_mixed.nd
  have hFH : H F = none := by
    cases hx : H F with
    | none => rfl
    | some o =>
      rw [s1 _ _ hx] at hF
      cases hF
  have nLF : L ≠ F := ne_of_none e1 hF
  have nLp : L ≠ p := fun z => hb.ne (by rw [← z]; exact hL)
  have nFp : F ≠ p := fun z => hb.ne (by rw [← z]; exact hFH)
  have s02 := Same.trans s1 s2
  refine wb_cons <| ws_forW PassesOwn.never rfl (fun _ => rfl) <| wi_rng1 (T.fr f_range) <| we_blt call_len_seq (T.fr f_len) boot_len <| wa_cons <| we_var 1 rfl <| wa_nil ⟨q, xs, rfl, .inl (SqL.of (s02 _ _ hq)), _, rfl, by omega, by omega, ?_⟩
  rw [Int.toNat_natCast]
  refine ⟨xs.length, _, _, walk_range (lo := 0) (n := xs.length), fun i σ H' => But p H H' ∧ BagAt l H' p ∧ (∃ us ys, H' L = some (.lst us) ∧ H' F = some (.lst ys) ∧ (ys ++ us).Perm xs ∧ us.length + i = xs.length) ∧ ∃ v4, σ = [some (.ref p), some (.ref q), some (.ref L), some (.ref F), v4],
    ⟨But.same s02, hb.mono s02, ⟨xs, [], s2 _ _ e1, e2, List.Perm.refl _, rfl⟩, _, rfl⟩, fun _ _ _ _ _ => trivial, ?_, ?_⟩
  · rintro i y σ H3 H4 hi ⟨b3, bg, ⟨us, ys, hu, hy, pm, hl⟩, v4, rfl⟩ ⟨rfl, rfl⟩
    refine wg_name 4 ?_ sc_law_mixed.nd
    have pl := pm.length_eq
    rw [List.length_append] at pl
    have sz := sz_lt (n := ys.length) (by omega)
    refine wb_cons <| ws_append <| we_var 3 rfl ⟨F, rfl, ⟨_, hy⟩, we_popAt <| we_var 2 rfl ⟨L, rfl, ⟨_, hu⟩, we_call (ok_law_draw T) (T.g g_law_draw) hr <| wa_cons <| we_var 0 rfl <| wa_cons <| we_blt call_len_seq (T.fr f_len) boot_len <| wa_cons <| we_var 2 rfl <| wa_nil ⟨L, us, rfl, .inl (SqL.of hu), wa_nil ⟨_, _, rfl, l, p, us.length, rfl, bg, rfl, by omega, by omega, fun r H5 hr1 b5 bg5 => ?_⟩⟩⟩⟩
    have hz : us[r]? = some (us[r]'hr1) := List.getElem?_eq_getElem hr1
    refine ⟨us, r, r, us[r]'hr1, rfl, b5 _ _ hu nLp, by omega, rfl, hz, fun H6 b6 e6 => ⟨ys, b6 _ _ (b5 _ _ hy nFp) (Ne.symm nLF), sz, fun H7 b7 e7 => wb_nil ?_⟩⟩
    refine ⟨But.skip (But.skip (But.trans b3 b5) hL b6) hFH b7, hb.fresh hFH (hb.fresh hL bg5 b6) b7, ⟨us.eraseIdx r, ys ++ [us[r]'hr1], b7 _ _ e6 nLF, e7, ?_, ?_⟩, _, rfl⟩
    · have z := perm_erase us r _ hz
      rw [List.append_assoc]
      exact List.Perm.trans (List.Perm.append_left ys z) pm
    · rw [List.length_eraseIdx, if_pos hr1]
      omega
  · rintro σ H3 ⟨b3, bg, ⟨us, ys, hu, hy, pm, hl⟩, v4, rfl⟩
    have e : us = [] := List.eq_nil_of_length_eq_zero (by omega)
    subst e
    rw [List.append_nil] at pm
    exact wb_cons <| ws_ret <| we_var 3 rfl <| k F ys H3 b3 bg pm hFH hy
end
end Cab
/-! text CabU3 -/
set_option Elab.async false
set_option linter.all false
set_option maxRecDepth 100000
set_option maxHeartbeats 4000000
namespace Cab
open PySem PySem.Spec PyProof.Rows L2 He
def RowAt (b : Addr) (H : Hp) (q : Addr) (r : List Int) : Prop := q ≠ b ∧ H q = some (.lst (r.map V.int))
/-- the plain tuple of a meter; b: the bag, which is none of its lists -/
def PlainAt (b : Addr) (H : Hp) (p : Addr) (M : Met) : Prop := ∃ (ts us : Addr) (qs : List Addr), H p = some (.tup [.int M.first, .int M.drop, .ref ts, .ref us, .int M.flag, .int M.each]) ∧ H ts = some (.lst (qs.map V.ref)) ∧ Paired (RowAt b H) qs M.tabs ∧ H us = some (.lst (M.turns.map V.int)) ∧ ts ≠ b ∧ us ≠ b
theorem PlainAt.mono {b : Addr} {H H' : Hp} {p : Addr} {M : Met} (s : Same H H') (h : PlainAt b H p M) : PlainAt b H' p M :=
  let ⟨ts, us, qs, h1, h2, h3, h4, h5⟩ := h
  ⟨ts, us, qs, s _ _ h1, s _ _ h2, Paired.mapP h3 fun _ _ z => ⟨z.1, s _ _ z.2⟩, s _ _ h4, h5⟩
theorem PlainAt.butB {l b : Addr} {H H' : Hp} {p : Addr} {M : Met} (hb : BagAt l H b) (s : But b H H') (h : PlainAt b H p M) : PlainAt b H' p M := by
  obtain ⟨ts, us, qs, h1, h2, h3, h4, h5, h6⟩ := h
  obtain ⟨_, _, _, _, _, a1, _⟩ := hb
  exact ⟨ts, us, qs, s _ _ h1 (ne_of h1 a1 (by intro z; cases z)), s _ _ h2 h5, Paired.mapP h3 fun _ _ z => ⟨z.1, s _ _ z.2 z.1⟩, s _ _ h4 h6, h5, h6⟩
/-- what is written at an instance -/
theorem PlainAt.butI {b q C dx : Addr} {fs : List (PySem.Str × V)} {H H' : Hp} {p : Addr} {M : Met} (hq : H q = some (.ins C dx fs)) (s : But q H H') (h : PlainAt b H p M) : PlainAt b H' p M := by
  obtain ⟨ts, us, qs, h1, h2, h3, h4, h5, h6⟩ := h
  exact ⟨ts, us, qs, s _ _ h1 (ne_of h1 hq (by intro z; cases z)), s _ _ h2 (ne_of h2 hq (by intro z; cases z)), Paired.mapP h3 fun _ _ z => ⟨z.1, s _ _ z.2 (ne_of z.2 hq (by intro z; cases z))⟩, s _ _ h4 (ne_of h4 hq (by intro z; cases z)), h5, h6⟩
theorem at6 (a b c d e f : V) : atI [a, b, c, d, e, f] 0 = some a ∧ atI [a, b, c, d, e, f] 1 = some b ∧ atI [a, b, c, d, e, f] 2 = some c ∧ atI [a, b, c, d, e, f] 3 = some d ∧ atI [a, b, c, d, e, f] 4 = some e ∧ atI [a, b, c, d, e, f] 5 = some f := ⟨by kernel_rfl, by kernel_rfl, by kernel_rfl, by kernel_rfl, by kernel_rfl, by kernel_rfl⟩
/-- plain[i] -/
theorem we_pl {X : Cx} {e : Expr} {σ : L2.St} {H : Hp} {Q : VK} {b : Addr} {xs : List V} {v : V} {i : Int} {k : Nat} {p1 pos : Pos} (hb : H b = some (.tup xs)) (hv : atI xs i = some v) (h : WE X e σ H fun x H1 => x = .ref b ∧ H1 = H) (q : Q v H) (hs : PlainIx (.Constant (.int i) k p1) := by exact fun _ _ => rfl) : WE X (.Subscript e (.Constant (.int i) k p1) pos) σ H Q :=
  we_ix ix_tup (WE.mono h fun x H1 ⟨e1, e2⟩ => we_int ⟨b, _, i, v, e1, rfl, SqT.of (by rw [e2]; exact hb), hv, by rw [e2]; exact q⟩) hs
section
variable {P : Program} {w : World} {K : PySem.W.Frag} {mg : Str → Option Value} {base : Heap}
def spPJumps : Sp := sp2 fun a b H Q => ∃ (g p : Addr) (M : Met) (c : Int), a = .ref p ∧ PlainAt g H p M ∧ okMet M ∧ b = .int c ∧ Q (.int (M.jumpsAt c)) H
theorem ok_law_jumps_at (T : TX K mg) : FnP P w K mg base d_law_jumps_at 1 ["_law_plain", "_law_count"] spPJumps [] := by
  refine fn2 (T.d D_law_jumps_at) rfl sc_law_jumps_at bd_law_jumps_at fun cdv A outer s H Q E a b hr h => ?_
  obtain ⟨g, p, M, c, rfl, ⟨ts, us, qs, h1, h2, h3, h4, h5, h6⟩, ok, rfl, q⟩ := h
  have d1 := ok.d1
  have d2 := ok.d2
  refine wb_cons <| ws_if <| wt_cmp op_lt <| we_var 1 rfl <| we_pl h1 (at6 _ _ _ _ _ _).1 (we_var 0 rfl ⟨rfl, rfl⟩) ⟨_, _, rfl, rfl, _, rfl, ?_⟩
  by_cases hc : c < M.first
  · rw [decide_eq_true hc]
    have e : M.jumpsAt c = 0 := if_pos hc
    rw [e] at q
    exact iteT <| wb_cons <| ws_ret <| we_int q
  · rw [decide_eq_false hc]
    have e : M.jumpsAt c = 1 + (c - M.first) / M.drop := if_neg hc
    rw [e] at q
    exact iteF <| wb_nil <| wb_cons <| ws_ret <| we_add <| we_int <| we_op op_fdiv <| we_op op_sub <| we_var 1 rfl <| we_pl h1 (at6 _ _ _ _ _ _).1 (we_var 0 rfl ⟨rfl, rfl⟩) ⟨_, _, rfl, rfl, we_pl h1 (at6 _ _ _ _ _ _).2.1 (we_var 0 rfl ⟨rfl, rfl⟩) ⟨_, _, rfl, rfl, ⟨by omega, by omega⟩, _, _, rfl, rfl, q⟩⟩
def spPWorth : Sp := sp3 fun a b c H Q => ∃ (g p : Addr) (M : Met) (j : Int) (n : Nat), a = .ref p ∧ PlainAt g H p M ∧ okMet M ∧ b = .int j ∧ c = .int (n : Nat) ∧ n < 10 ∧ ∀ H', Same H H' → Q (.int (M.worth j n)) H'
theorem ok_law_worth (T : TX K mg) : FnP P w K mg base d_law_worth 1 ["_law_plain", "_law_jumps", "_law_speed"] spPWorth [] := by
  refine fn3 (T.d D_law_worth) rfl sc_law_worth bd_law_worth fun cdv A outer s H Q E a b c hr h => ?_
  obtain ⟨g, p, M, j, n, rfl, ⟨ts, us, qs, h1, h2, h3, h4, h5, h6⟩, ok, rfl, rfl, hn, q⟩ := h
  have il := ok.idx_lt j
  have rw_ := ok.row j
  have ql := paired_len h3
  have lm := ok.len
  have l3 := ok.len3
  obtain ⟨u, hu, _, hur⟩ := paired_get h3 (show M.tabs[M.idx j]? = some (M.tabs.getD (M.idx j) []) by rw [List.getD_eq_getElem?_getD, List.getElem?_eq_getElem il]; rfl)
  refine wb_cons <| ws_ret <| we_ix ix_list <| we_ix ix_list <| we_pl h1 (at6 _ _ _ _ _ _).2.2.1 (we_var 0 rfl ⟨rfl, rfl⟩) <| we_blt call_len_seq (T.fr f_len) boot_len <| wa_cons <| we_lc sc_law_worth [("_law_turn", 3)] <| wi_list <| we_pl h1 (at6 _ _ _ _ _ _).2.2.2.1 (we_var 0 rfl ⟨rfl, rfl⟩) ⟨us, M.turns.map V.int, rfl, SqL.of h4, ?_⟩
  refine lcFil (fun i => decide (M.turns.getD i 0 ≤ j)) (fun i => V.int (M.turns.getD i 0)) (walk_list (xs := M.turns.map V.int)) (fun _ _ _ _ y => y.1) (by rw [List.length_map]; omega) (fun _ s' => s'.seq (SqL.of h4)) ?_ ?_
  · rintro i x H3 hi s3 ⟨_, hx⟩ s0 H0 C cl fp
    obtain ⟨t, ht, rfl⟩ := map_get hx
    have e3 : M.turns.getD i 0 = t := by rw [List.getD_eq_getElem?_getD, ht]; rfl
    rw [e3]
    exact wg_name 3 ⟨rfl, fun s0 H0 C cl fp => wt_cmp op_le <| we_var 3 rfl <| we_var 1 rfl ⟨_, _, rfl, rfl, _, rfl, rfl, fun _ _ e => e, fun _ s0 H0 C cl fp => we_var 3 rfl ⟨rfl, fun _ _ e => e⟩⟩⟩ sc_law_worth.nd
  · intro D H3 hD s3 hDl
    rw [List.length_map] at hDl
    refine wa_nil ⟨D, _, rfl, .inl (SqL.of hDl), ts, _, _, _, rfl, rfl, SqL.of (s3 _ _ h2), at_of (j := M.idx j) (v := .ref u) ?_ ?_, ?_⟩
    · have e4 := fil_range_get (fun t => decide (t ≤ j)) (fun t => V.int t) 0 M.turns
      rw [e4, List.length_map]
      rfl
    · rw [List.getElem?_map, hu]
      rfl
    · refine we_var 2 rfl ⟨u, _, _, _, rfl, rfl, SqL.of (s3 _ _ hur), at_of (j := n) (v := .int (M.worth j n)) rfl ?_, q H3 s3⟩
      rw [List.getElem?_map]
      unfold Met.worth
      have e1 := rw_.1
      rw [List.getD_eq_getElem?_getD (l := M.tabs.getD (M.idx j) []), List.getElem?_eq_getElem (by omega)]
      rfl
/-- the count after some digits -/
def Met.run (M : Met) (c : Int) (l : List Nat) : Int := l.foldl (fun c d => M.countOn c d) c
def spPCounts : Sp := sp2 fun a b H Q => ∃ (g p : Addr) (M : Met) (ds : List Nat), a = .ref p ∧ PlainAt g H p M ∧ okMet M ∧ b = .str (tx ds) ∧ (∀ d ∈ ds, d < 10) ∧ ds.length ≤ 1000 ∧
  ∀ (q : Addr) H', Same H H' → H q = none → H' q = some (.lst (((List.range (ds.length + 1)).map fun i => M.run 0 (ds.take i)).map V.int)) → Q (.ref q) H'
theorem ok_law_counts (T : TX K mg) : FnP P w K mg base d_law_counts 3 ["_law_plain", "_law_trip"] spPCounts [] := by
  refine fn2 (T.d D_law_counts) rfl sc_law_counts bd_law_counts fun cdv A outer s H Q E a b hr h => ?_
  obtain ⟨g, p, M, ds, rfl, hp, ok, rfl, hd, dl, q⟩ := h
  refine wb_cons <| ws_set 2 (we_lst <| wa_cons <| we_int <| wa_nil ⟨by show 1 ≤ sizeLine; decide, fun F H1 hF s1 e1 => ?_⟩) sc_law_counts.nd
  have esz : (tx ds).cps.size = ds.length := tx_size ds
  refine wb_cons <| ws_forW PassesOwn.never rfl (fun _ => rfl) <| wi_str <| we_var 1 rfl ⟨_, rfl, _, _, _, walk_str, fun i σ H' => Same H H' ∧ H' F = some (.lst (((List.range (i + 1)).map fun k => M.run 0 (ds.take k)).map V.int)) ∧ ∃ v3, σ = [some (.ref p), some (.str (tx ds)), some (.ref F), v3], ⟨s1, e1, _, rfl⟩, fun _ _ _ _ _ => trivial, ?_, ?_⟩
  · rintro i y σ H3 H4 hi ⟨s3, e3, v3, rfl⟩ ⟨rfl, c, hc, rfl⟩
    obtain ⟨n, hn, ec, ed⟩ := text_at ds hi hc
    rw [ed]
    rw [esz] at hi
    have n10 := hd n (List.mem_of_getElem? hn)
    refine wg_name 3 ?_ sc_law_counts.nd
    have hlast : atI (((List.range (i + 1)).map fun k => M.run 0 (ds.take k)).map V.int) (-1) = some (.int (M.run 0 (ds.take i))) := by
      rw [List.range_succ, List.map_append, List.map_append]
      exact atI_last _ _
    have p4 := hp.mono s3
    refine wb_cons <| ws_append <| we_var 2 rfl ⟨F, rfl, ⟨_, e3⟩, we_add <| we_ix ix_list <| we_var 2 rfl <| we_un un_neg <| we_int ⟨1, rfl, F, _, -1, _, rfl, rfl, SqL.of e3, hlast, ?_⟩⟩
    refine we_call (ok_law_worth T) (T.g g_law_worth) hr <| wa_cons <| we_var 0 rfl <| wa_cons <| we_call (ok_law_jumps_at T) (T.g g_law_jumps_at) hr <| wa_cons <| we_var 0 rfl <| wa_cons <| we_ix ix_list <| we_var 2 rfl <| we_un un_neg <| we_int ⟨1, rfl, F, _, -1, _, rfl, rfl, SqL.of e3, hlast, wa_nil ⟨_, _, rfl, g, p, M, _, rfl, p4, ok, rfl, ?_⟩⟩
    refine wa_cons <| we_intdg n10 (T.fr f_int) <| we_var 3 rfl ⟨rfl, wa_nil ⟨_, _, _, rfl, g, p, M, _, n, rfl, p4, ok, rfl, rfl, n10, fun H5 s5 => ⟨_, _, rfl, rfl, _, s5 _ _ e3, ?_, fun H6 b6 e6 => wb_nil ⟨?_, ?_, _, rfl⟩⟩⟩⟩
    · rw [List.length_map, List.length_map, List.length_range]
      exact sz_lt (by omega)
    · exact But.of_new (Same.trans s3 s5) hF b6
    · rw [e6, List.range_succ (n := i + 1), List.map_append, List.map_append]
      have er : M.run 0 (ds.take (i + 1)) = M.countOn (M.run 0 (ds.take i)) n := foldl_take (fun c d => M.countOn c d) 0 hn
      show some (HO.lst (_ ++ [_])) = some (HO.lst (_ ++ [V.int (M.run 0 (ds.take (i + 1)))]))
      rw [er]
      rfl
  · rintro σ H3 ⟨s3, e3, v3, rfl⟩
    rw [esz] at e3
    exact wb_cons <| ws_ret <| we_var 2 rfl <| q F H3 s3 hF e3
end
end Cab
/-! text CabU4 -/
set_option Elab.async false
set_option linter.all false
set_option maxRecDepth 100000
set_option maxHeartbeats 4000000
namespace Cab
open PySem PySem.Spec PyProof.Rows L2 He
def rowThird (t w c : Int) : List Int := (List.range 10).map fun (s : Nat) => if c ≤ 0 + (s : Int) then w * (0 + (s : Int)) else t
theorem okRow_map (f : Nat → Int) (h : ∀ s, s < 10 → 0 ≤ f s ∧ f s ≤ 60) : okRow ((List.range 10).map f) := ⟨by rw [List.length_map, List.length_range], fun x hx => by
  obtain ⟨s, hs, rfl⟩ := List.mem_map.mp hx
  exact h s (List.mem_range.mp hs)⟩
theorem mulS {w : Nat} {s : Nat} (hw : w < 3) (hs : s < 10) : (w : Int) * (0 + (s : Int)) ≤ 18 ∧ 0 ≤ (w : Int) * (0 + (s : Int)) := by
  have h : w = 0 ∨ w = 1 ∨ w = 2 := by omega
  rcases h with rfl | rfl | rfl <;> omega
section
variable {P : Program} {w : World} {K : PySem.W.Frag} {mg : Str → Option Value} {base : Heap}
def spSmall : Sp := sp2 fun a b H Q => ∃ (l p : Addr) (m : Nat), a = .ref p ∧ BagAt l H p ∧ b = .int (m : Nat) ∧ 1 ≤ m ∧ m ≤ 30 ∧
  ∀ (q : Addr) (r : List Int) H', But p H H' → BagAt l H' p → H q = none → okRow r → H' q = some (.lst (r.map V.int)) → Q (.ref q) H'
theorem But.none {p D : Addr} {H H' : Hp} (b : But p H H') (hp : H' p ≠ none) (h : H' D = none) : H D = none := by
  cases e : H D with
  | none => rfl
  | some o =>
    have z := b _ _ e (fun z => hp (by rw [← z]; exact h))
    rw [h] at z
    cases z
theorem ok_law_small_worths (T : TX K mg) : FnP P w K mg base d_law_small_worths 3 ["_law_bag_here", "_law_most"] spSmall [] := by
  refine fn2 (T.d D_law_small_worths) rfl sc_law_small_worths bd_law_small_worths fun cdv A outer s H Q E a b hr h => ?_
  obtain ⟨l, p, m, rfl, bg, rfl, m1, m30, q⟩ := h
  refine wb_cons <| ws_set 2 (we_call (ok_law_draw T) (T.g g_law_draw) hr <| wa_cons <| we_var 0 rfl <| wa_cons <| we_var 1 rfl <| wa_nil ⟨_, _, rfl, l, p, m, rfl, bg, rfl, m1, by omega, fun t H1 ht b1 bg1 => ?_⟩) sc_law_small_worths.nd
  refine wb_cons <| ws_set 3 (we_call (ok_law_draw T) (T.g g_law_draw) hr <| wa_cons <| we_var 0 rfl <| wa_cons <| we_int <| wa_nil ⟨_, _, rfl, l, p, 3, rfl, bg1, rfl, by decide, by decide, fun wy H2 hw b2 bg2 => ?_⟩) sc_law_small_worths.nd
  refine wb_cons <| ws_set 4 (we_call (ok_law_draw T) (T.g g_law_draw) hr <| wa_cons <| we_var 0 rfl <| wa_cons <| we_int <| wa_nil ⟨_, _, rfl, l, p, 4, rfl, bg2, rfl, by decide, by decide, fun ch H3 hch b3 bg3 => ?_⟩) sc_law_small_worths.nd
  have b03 := But.trans b1 (But.trans b2 b3)
  refine wb_cons <| ws_if <| wt_cmp op_eq <| we_var 4 rfl <| we_int ⟨rfl, _, rfl, ?_⟩
  rw [dec_intV]
  by_cases hc : ((ch : Nat) : Int) = 0
  · rw [decide_eq_true hc]
    refine iteT <| wb_cons <| ws_ret <| we_lc sc_law_small_worths [("_law_speed", 6)] <| wi_rng1 (T.fr f_range) <| we_int ⟨10, rfl, by decide, by decide, ?_⟩
    refine lcMap (fun s => V.int (mx (t : Int) ((wy : Int) * (0 + (s : Int))))) (walk_range (lo := 0) (n := 10)) (fun _ _ _ _ y => y.1) (by decide) (fun _ _ => trivial) ?_ ?_
    · rintro n x H4 hn s4 ⟨_, rfl⟩ s0 H0 C cl fp
      refine wg_name 6 ⟨rfl, fun s0 H0 C cl fp => ?_⟩ sc_law_small_worths.nd
      exact we_blt (call_max2 rfl) (T.fr f_max) (by decide +kernel) <| wa_cons <| we_var 2 rfl <| wa_cons <| we_op op_mul <| we_var 3 rfl <| we_var 6 rfl ⟨_, _, rfl, rfl, .inr (small_mul hn), wa_nil ⟨_, _, rfl, rfl, fun _ _ e => e⟩⟩
    · intro D H4 hD s4 hDl
      refine q D ((List.range 10).map fun (s : Nat) => mx (t : Int) ((wy : Int) * (0 + (s : Int)))) H4 (But.trans b03 (But.same s4)) (bg3.mono s4) (But.none b03 bg3.ne hD) (okRow_map _ fun s hs => ?_) (by rw [hDl, List.map_map]; rfl)
      have := mulS hw hs
      unfold mx
      split <;> omega
  rw [decide_eq_false hc]
  refine iteF <| wb_nil <| wb_cons <| ws_if <| wt_cmp op_eq <| we_var 4 rfl <| we_int ⟨rfl, _, rfl, ?_⟩
  rw [dec_intV]
  by_cases hc1 : ((ch : Nat) : Int) = 1
  · rw [decide_eq_true hc1]
    refine iteT <| wb_cons <| ws_ret <| we_lc sc_law_small_worths [("_law_speed", 6)] <| wi_rng1 (T.fr f_range) <| we_int ⟨10, rfl, by decide, by decide, ?_⟩
    refine lcMap (fun s => V.int ((t : Int) + (wy : Int) * (0 + (s : Int)))) (walk_range (lo := 0) (n := 10)) (fun _ _ _ _ y => y.1) (by decide) (fun _ _ => trivial) ?_ ?_
    · rintro n x H4 hn s4 ⟨_, rfl⟩ s0 H0 C cl fp
      refine wg_name 6 ⟨rfl, fun s0 H0 C cl fp => ?_⟩ sc_law_small_worths.nd
      exact we_add <| we_var 2 rfl <| we_op op_mul <| we_var 3 rfl <| we_var 6 rfl ⟨_, _, rfl, rfl, .inr (small_mul hn), _, _, rfl, rfl, rfl, fun _ _ e => e⟩
    · intro D H4 hD s4 hDl
      refine q D ((List.range 10).map fun (s : Nat) => (t : Int) + (wy : Int) * (0 + (s : Int))) H4 (But.trans b03 (But.same s4)) (bg3.mono s4) (But.none b03 bg3.ne hD) (okRow_map _ fun s hs => ?_) (by rw [hDl, List.map_map]; rfl)
      have := mulS hw hs
      omega
  rw [decide_eq_false hc1]
  refine iteF <| wb_nil <| wb_cons <| ws_if <| wt_cmp op_eq <| we_var 4 rfl <| we_int ⟨rfl, _, rfl, ?_⟩
  rw [dec_intV]
  by_cases hc2 : ((ch : Nat) : Int) = 2
  · rw [decide_eq_true hc2]
    refine iteT <| wb_cons <| ws_set 5 (we_call (ok_law_draw T) (T.g g_law_draw) hr <| wa_cons <| we_var 0 rfl <| wa_cons <| we_int <| wa_nil ⟨_, _, rfl, l, p, 6, rfl, bg3, rfl, by decide, by decide, fun cg H4 hcg b4 bg4 => ?_⟩) sc_law_small_worths.nd
    have b04 := But.trans b03 b4
    refine wb_cons <| ws_ret <| we_lc sc_law_small_worths [("_law_speed", 6)] <| wi_rng1 (T.fr f_range) <| we_int ⟨10, rfl, by decide, by decide, ?_⟩
    refine lcMap (fun s => V.int (if (cg : Int) ≤ 0 + (s : Int) then (wy : Int) * (0 + (s : Int)) else (t : Int))) (walk_range (lo := 0) (n := 10)) (fun _ _ _ _ y => y.1) (by decide) (fun _ _ => trivial) ?_ ?_
    · rintro n x H5 hn s5 ⟨_, rfl⟩ s0 H0 C cl fp
      refine wg_name 6 ⟨rfl, fun s0 H0 C cl fp => ?_⟩ sc_law_small_worths.nd
      refine we_ix ix_list <| we_lst <| wa_cons <| we_var 2 rfl <| wa_cons <| we_op op_mul <| we_var 3 rfl <| we_var 6 rfl ⟨_, _, rfl, rfl, .inr (small_mul hn), wa_nil ⟨by show 2 ≤ sizeLine; decide, fun L H6 hL s6 e6 => ?_⟩⟩
      refine we_ty call_int1 (T.fr f_int) (by decide +kernel) <| wa_cons <| we_cmp op_ge <| we_var 6 rfl <| we_var 5 rfl ⟨_, _, rfl, rfl, wa_nil <| .inr ⟨_, rfl, L, _, _, V.int (if (cg : Int) ≤ 0 + (n : Int) then (wy : Int) * (0 + (n : Int)) else (t : Int)), rfl, rfl, SqL.of e6, ?_, rfl, s6⟩⟩
      · by_cases hx : (cg : Int) ≤ 0 + (n : Int)
        · rw [decide_eq_true hx, if_pos hx]
          exact at_of (j := 1) rfl rfl
        · rw [decide_eq_false hx, if_neg hx]
          exact at_of (j := 0) rfl rfl
    · intro D H5 hD s5 hDl
      refine q D (rowThird t wy cg) H5 (But.trans b04 (But.same s5)) (bg4.mono s5) (But.none b04 bg4.ne hD) (okRow_map _ fun s hs => ?_) (by rw [hDl]; unfold rowThird; rw [List.map_map]; rfl)
      have := mulS hw hs
      split <;> omega
  rw [decide_eq_false hc2]
  refine iteF <| wb_nil <| wb_cons <| ws_ret <| we_lc sc_law_small_worths [("_law_speed", 6)] <| wi_rng1 (T.fr f_range) <| we_int ⟨10, rfl, by decide, by decide, ?_⟩
  refine lcP p (fun H => BagAt l H p) (fun i acc => ∃ r : List Int, acc = r.map V.int ∧ r.length = i ∧ ∀ x ∈ r, 0 ≤ x ∧ x ≤ 60) (walk_range (lo := 0) (n := 10)) (fun _ _ _ _ y => y.1) (by decide) (fun _ _ => trivial) bg3.ne bg3 (fun D H H' n h b => bg3.fresh n h b) ⟨[], rfl, rfl, fun x hx => nomatch hx⟩ ?_ ?_
  · rintro n acc x H5 hn hl ⟨r, rfl, hrl, hrx⟩ b5 bg5 ⟨_, rfl⟩ s0 H0 C cl fp
    refine wg_name 6 ⟨rfl, fun s0 H0 C cl fp => ?_⟩ sc_law_small_worths.nd
    refine we_call (ok_law_draw T) (T.g g_law_draw) hr <| wa_cons <| we_var 0 rfl <| wa_cons <| we_add <| we_var 1 rfl <| we_int ⟨_, _, rfl, rfl, wa_nil ⟨_, _, rfl, l, p, m + 2, rfl, bg5, rfl, by omega, by omega, fun z H6 hz b6 bg6 => ⟨⟨r ++ [(z : Int)], by rw [List.map_append]; rfl, by rw [List.length_append, hrl]; rfl, ?_⟩, b6, bg6⟩⟩⟩
    intro x hx
    rcases List.mem_append.mp hx with h | h
    · exact hrx x h
    · rw [List.mem_singleton.mp h]
      omega
  · rintro D acc H5 hD b5 bg5 ⟨r, rfl, hrl, hrx⟩ hDl
    exact q D r H5 (But.trans b03 b5) bg5 (But.none b03 bg3.ne hD) ⟨hrl, hrx⟩ hDl
end
end Cab
/-! text CabU5 -/
set_option Elab.async false
set_option linter.all false
set_option maxRecDepth 100000
set_option maxHeartbeats 4000000
namespace Cab
open PySem PySem.Spec PyProof.Rows L2 He
section
variable {X : Cx} {scope : Scope} {elt tg : Expr} {vs : List Nat} {σ : L2.St} {J : It} {n : Nat} {G : Hp → Prop} {Y : Nat → Hp → V → Hp → Prop} {H1 : Hp} {Q : VK}
/-- a comprehension without tests; Pv speaks of the heap -/
theorem lcG (Pv : Nat → List V → Hp → Prop) (wk : Walk J n G Y) (hY : ∀ i H x H', Y i H x H' → H' = H) (hz : n ≤ 1000000) (hG : ∀ i acc H, Pv i acc H → G H) (p0 : ∀ D H', H1 D = none → Same H1 H' → H' D = some (.lst []) → Pv 0 [] H')
    (he : ∀ i acc x H D, H1 D = none → i < n → acc.length ≤ i → Pv i acc H → H D = some (.lst acc) → Y i H x H → AB X scope fun Z => WG Z tg x (wipe σ vs) H fun σ2 H2 => wipe σ2 vs = wipe σ vs ∧ AB X scope fun Z => WE Z elt σ2 H2 fun y H4 => H4 D = some (.lst acc) ∧ ∀ H5, But D H4 H5 → H5 D = some (.lst (acc ++ [y])) → Pv (i + 1) (acc ++ [y]) H5)
    (done : ∀ D acc H', H1 D = none → acc.length ≤ n → Pv n acc H' → H' D = some (.lst acc) → Q (.ref D) H') : LcR X scope elt tg [] vs σ J H1 Q := by
  refine ⟨n, G, Y, wk, fun D hD => ⟨Pv, fun H' s' e => p0 D H' hD s' e, fun i acc H' _ p _ => hG i acc H' p, ?_, hz, ?_⟩⟩
  · rintro i acc x H H' hi hacc p hDl y
    have e := hY _ _ _ _ y
    subst e
    intro s0 H0 C cl fp pins s u I' r
    refine thn (he i acc x H' D hD hi hacc p hDl y s0 H0 C cl fp pins s u I' r) fun _ s2 ⟨σ2, H2, I2, hw, k⟩ => ⟨σ2, H2, I2, hw, ?_⟩
    intro s0 H0 C cl fp
    exact wts_nil (iteT fun s0 H0 C cl fp => WE.mono (k s0 H0 C cl fp) fun y H4 ⟨e4, k4⟩ => ⟨e4, fun H5 b5 e5 => k4 H5 b5 e5⟩)
  · rintro acc H' hl p hDl
    exact done D acc H' hD hl p hDl
end
theorem fresh_ne {H : Hp} {a D : Addr} (h : H a ≠ none) (hD : H D = none) : a ≠ D := fun z => h (by rw [z]; exact hD)
section
variable {P : Program} {w : World} {K : PySem.W.Frag} {mg : Str → Option Value} {base : Heap}
def okTurns (ts : List Int) : Prop := ts.length ≤ 2 ∧ (∀ t ∈ ts, 1 ≤ t ∧ t ≤ 9) ∧ asc ts
theorem okTurns.nil : okTurns [] := ⟨by decide, (fun t h => nomatch h), (fun i x y h => by cases h)⟩
theorem okTurns.one {a : Nat} (h : a < 3) : okTurns [1 + (a : Int)] := ⟨Nat.le_succ 1, (fun t h => by rw [List.mem_singleton.mp h]; omega), (fun i x y h1 h2 => by cases h2)⟩
theorem okTurns.two {a b : Nat} (h : a < 2) (hb : b < 2) : okTurns [1 + (a : Int), 3 + (b : Int)] := ⟨Nat.le_refl 2, (fun t h => by
  rcases List.mem_cons.mp h with z | z
  · rw [z]; omega
  · rw [List.mem_singleton.mp z]; omega), (fun i x y h1 h2 => by
  cases i with
  | zero =>
    have h1 := Option.some.inj h1
    have h2 := Option.some.inj h2
    rw [← h1, ← h2]
    omega
  | succ i => cases h2)⟩
theorem paired_mem {α β : Type} {F G : α → β → Prop} : ∀ {l : List α} {m : List β}, Paired F l m → (∀ a b, b ∈ m → F a b → G a b) → Paired G l m
  | _, _, .nil, _ => .nil
  | _, _, .cons r t, h => .cons (h _ _ List.mem_cons_self r) (paired_mem t fun a b m => h a b (List.mem_cons_of_mem _ m))
def spLMeter : Sp := sp2 fun a b H Q => ∃ (l p : Addr), a = .ref p ∧ BagAt l H p ∧ b = .int 6 ∧
  ∀ (q : Addr) (M : Met) H', But p H H' → BagAt l H' p → okMet M → asc M.turns → PlainAt p H' q M → Q (.ref q) H'
theorem ok_law_meter (T : TX K mg) : FnP P w K mg base d_law_meter 5 ["_law_bag_here", "_law_drops"] spLMeter [] := by
  refine fn2 (T.d D_law_meter) rfl sc_law_meter bd_law_meter fun cdv A outer s H Q E a b hr h => ?_
  obtain ⟨l, p, rfl, bg, rfl, q⟩ := h
  -- turns
  -- step by step and reducible only: else the goal itself is worked out each time (90 s)
  refine wb_cons ?_
  with_reducible refine ws_set 2 ?_ (hN := ?_) (hi := ?_) (hx := ?_) (hs := ?_) (hf := ?_)
  rotate_left
  · exact sc_law_meter.nd
  · rfl
  · exact Or.inl rfl
  · kernel_rfl
  · exact .inl rfl
  with_reducible refine we_ix ix_list ?_ (hs := ?_)
  rotate_left
  · exact fun _ _ => rfl
  with_reducible refine we_lst ?_
  with_reducible refine wa_cons ?_ (hs := ?_)
  rotate_left
  · kernel_rfl
  with_reducible refine we_lst ?_
  with_reducible refine wa_nil ?_
  refine ⟨by show 0 ≤ sizeLine; decide, fun l0 H1 hl0 s1 e1 => ?_⟩
  with_reducible refine wa_cons ?_ (hs := ?_)
  rotate_left
  · kernel_rfl
  with_reducible refine we_lst ?_
  with_reducible refine wa_nil ?_
  refine ⟨by show 0 ≤ sizeLine; decide, fun l1 H2 hl1 s2 e2 => ?_⟩
  have bg2 := (bg.mono s1).mono s2
  have n0 : p ≠ l0 := fresh_ne bg.ne hl0
  have n1 : p ≠ l1 := fresh_ne (bg.mono s1).ne hl1
  have b02 : But p H H2 := But.same (Same.trans s1 s2)
  have e1 := s2 _ _ e1
  refine wa_cons <| we_lst <| wa_cons <| we_add <| we_int <| we_call (ok_law_draw T) (T.g g_law_draw) hr <| wa_cons <| we_var 0 rfl <| wa_cons <| we_int <| wa_nil ⟨_, _, rfl, l, p, 3, rfl, bg2, rfl, by decide, by decide, fun x1 H3 hx1 b3 bg3 => ⟨_, _, rfl, rfl, wa_nil ⟨by show 1 ≤ sizeLine; decide, fun l2 H4 hl2 s4 e4 => ?_⟩⟩⟩
  have e1 := s4 _ _ (b3 _ _ e1 (Ne.symm n0))
  have e2 := s4 _ _ (b3 _ _ e2 (Ne.symm n1))
  have n2 : p ≠ l2 := fresh_ne bg3.ne hl2
  have bg4 := bg3.mono s4
  have b04 := But.trans b02 (But.trans b3 (But.same s4))
  refine wa_cons <| we_lst <| wa_cons <| we_add <| we_int <| we_call (ok_law_draw T) (T.g g_law_draw) hr <| wa_cons <| we_var 0 rfl <| wa_cons <| we_int <| wa_nil ⟨_, _, rfl, l, p, 2, rfl, bg4, rfl, by decide, by decide, fun x2 H5 hx2 b5 bg5 => ⟨_, _, rfl, rfl, ?_⟩⟩
  refine wa_cons <| we_add <| we_int <| we_call (ok_law_draw T) (T.g g_law_draw) hr <| wa_cons <| we_var 0 rfl <| wa_cons <| we_int <| wa_nil ⟨_, _, rfl, l, p, 2, rfl, bg5, rfl, by decide, by decide, fun x3 H6 hx3 b6 bg6 => ⟨_, _, rfl, rfl, wa_nil ⟨by show 2 ≤ sizeLine; decide, fun l3 H7 hl3 s7 e7 => ?_⟩⟩⟩
  have b56 := But.trans b5 b6
  have e1 := s7 _ _ (b56 _ _ e1 (Ne.symm n0))
  have e2 := s7 _ _ (b56 _ _ e2 (Ne.symm n1))
  have e4 := s7 _ _ (b56 _ _ e4 (Ne.symm n2))
  have n3 : p ≠ l3 := fresh_ne bg6.ne hl3
  have bg7 := bg6.mono s7
  have b07 := But.trans b04 (But.trans b56 (But.same s7))
  refine wa_nil ⟨by show 4 ≤ sizeLine; decide, fun L H8 hL s8 e8 => we_call (ok_law_draw T) (T.g g_law_draw) hr <| wa_cons <| we_var 0 rfl <| wa_cons <| we_int <| wa_nil ⟨_, _, rfl, l, p, 4, rfl, bg7.mono s8, rfl, by decide, by decide, fun x4 H9 hx4 b9 bg9 => ?_⟩⟩
  have nL : p ≠ L := fresh_ne bg7.ne hL
  have b09 := But.trans b07 (But.trans (But.same s8) b9)
  have hch : ∃ (u : Addr) (ts : List Int), ([V.ref l0, V.ref l1, V.ref l2, V.ref l3] : List V)[x4]? = some (.ref u) ∧ H9 u = some (.lst (ts.map V.int)) ∧ u ≠ p ∧ okTurns ts := by
    have c : x4 = 0 ∨ x4 = 1 ∨ x4 = 2 ∨ x4 = 3 := by omega
    rcases c with rfl | rfl | rfl | rfl
    · exact ⟨l0, [], rfl, b9 _ _ (s8 _ _ e1) (Ne.symm n0), Ne.symm n0, .nil⟩
    · exact ⟨l1, [], rfl, b9 _ _ (s8 _ _ e2) (Ne.symm n1), Ne.symm n1, .nil⟩
    · exact ⟨l2, [1 + (x1 : Int)], rfl, b9 _ _ (s8 _ _ e4) (Ne.symm n2), Ne.symm n2, .one hx1⟩
    · exact ⟨l3, [1 + (x2 : Int), 3 + (x3 : Int)], rfl, b9 _ _ (s8 _ _ e7) (Ne.symm n3), Ne.symm n3, .two hx2 hx3⟩
  obtain ⟨u, ts, hu, eu, nu, okt⟩ := hch
  refine ⟨L, _, _, _, rfl, rfl, SqL.of (b9 _ _ e8 (Ne.symm nL)), at_of (j := x4) (v := .ref u) rfl hu, ?_⟩
  clear e1 e2 e4 e7 e8 hu n0 n1 n2 n3 nL s1 s2 s4 s7 s8 b3 b5 b6 b56 b9 bg2 bg3 bg4 bg5 bg6 bg7 b02 b04 b07 hl0 hl1 hl2 hl3 hL
  have tl := okt.1
  -- tables
  refine wb_cons <| ws_setLc sc_law_meter 3 [("_law_k", 7)] <| wi_rng1 (T.fr f_range) <| we_add <| we_blt call_len_seq (T.fr f_len) boot_len <| wa_cons <| we_var 2 rfl <| wa_nil ⟨u, _, rfl, .inl (SqL.of eu), we_int ⟨_, _, rfl, rfl, _, rfl, by omega, by rw [List.length_map]; omega, ?_⟩⟩
  have en : (((((ts.map V.int).length : Nat) : Int) + 1).toNat) = ts.length + 1 := by rw [List.length_map]; omega
  rw [en]
  refine lcG (fun i acc H' => But p H9 H' ∧ BagAt l H' p ∧ ∃ (qs : List Addr) (rs : List (List Int)), acc = qs.map V.ref ∧ Paired (RowAt p H') qs rs ∧ rs.length = i ∧ ∀ r ∈ rs, okRow r) (walk_range (lo := 0) (n := ts.length + 1)) (fun _ _ _ _ y => y.1) (by omega) (fun _ _ _ _ => trivial) (fun D H' hD s' _ => ⟨But.same s', bg9.mono s', [], [], rfl, .nil, rfl, fun r h => nomatch h⟩) ?_ ?_
  · rintro i acc x H10 D hD hi hacc ⟨b10, bg10, qs, rs, rfl, pr, rl, ro⟩ hDl ⟨_, rfl⟩ s0 H0 C cl fp
    have nD : p ≠ D := fresh_ne bg9.ne hD
    refine wg_name 7 ⟨rfl, fun s0 H0 C cl fp => ?_⟩ sc_law_meter.nd
    refine we_call (ok_law_small_worths T) (T.g g_law_small_worths) hr <| wa_cons <| we_var 0 rfl <| wa_cons <| we_ix ix_list <| we_lst <| wa_cons <| we_int <| wa_cons <| we_var 1 rfl <| wa_nil ⟨by show 2 ≤ sizeLine; decide, fun L H11 hL s11 e11 => ?_⟩
    refine we_call (ok_law_draw T) (T.g g_law_draw) hr <| wa_cons <| we_var 0 rfl <| wa_cons <| we_int <| wa_nil ⟨_, _, rfl, l, p, 2, rfl, bg10.mono s11, rfl, by decide, by decide, fun x5 H12 hx5 b12 bg12 => ?_⟩
    have nL : L ≠ p := Ne.symm (fresh_ne bg10.ne hL)
    have hm : ∃ m : Nat, ([V.int 3, V.int 6] : List V)[x5]? = some (.int (m : Nat)) ∧ 1 ≤ m ∧ m ≤ 30 := by
      have c : x5 = 0 ∨ x5 = 1 := by omega
      rcases c with rfl | rfl
      · exact ⟨3, rfl, by decide, by decide⟩
      · exact ⟨6, rfl, by decide, by decide⟩
    obtain ⟨m, hm, m1, m30⟩ := hm
    refine ⟨L, _, _, _, rfl, rfl, SqL.of (b12 _ _ e11 nL), at_of (j := x5) (v := .int (m : Nat)) rfl hm, wa_nil ⟨_, _, rfl, l, p, m, rfl, bg12, rfl, m1, m30, fun z r H13 b13 bg13 hz okr ez => ?_⟩⟩
    have bb : But p H10 H13 := But.trans (But.same s11) (But.trans b12 b13)
    have hD13 := bb _ _ hDl (Ne.symm nD)
    have nzp : z ≠ p := fun e => bg12.ne (by rw [← e]; exact hz)
    have al : (qs.map V.ref).length ≤ i := hacc
    refine ⟨hD13, fun H14 b14 e14 => ⟨But.skip (But.trans b10 bb) hD b14, bg9.fresh hD bg13 b14, qs ++ [z], rs ++ [r], by rw [List.map_append]; rfl, ?_, by rw [List.length_append, rl]; rfl, fun r' h => ?_⟩⟩
    · have neD : ∀ (a : Addr) (r : List Int), r.length = 10 → H13 a = some (.lst (r.map V.int)) → a ≠ D := fun a r hl h => ne_of h hD13 (by
        intro e
        injection e with e
        have := congrArg List.length e
        rw [List.length_map, hl] at this
        omega)
      refine paired_snoc (paired_mem pr fun a r hr hra => ⟨hra.1, ?_⟩) ⟨nzp, b14 _ _ ez (neD _ _ okr.1 ez)⟩
      have h13 := bb _ _ hra.2 hra.1
      exact b14 _ _ h13 (neD _ _ (ro r hr).1 h13)
    · rcases List.mem_append.mp h with h | h
      · exact ro _ h
      · rw [List.mem_singleton.mp h]
        exact okr
  rintro D acc H10 hD hal ⟨b10, bg10, qs, rs, rfl, pr, rl, ro⟩ hDl
  have nD : p ≠ D := fresh_ne bg9.ne hD
  -- the floor's price
  refine wb_cons <| ws_set 4 (we_ix ix_list <| we_lst <| wa_cons <| we_int <| wa_cons <| we_int <| wa_cons <| we_call (ok_law_draw T) (T.g g_law_draw) hr <| wa_cons <| we_var 0 rfl <| wa_cons <| we_int <| wa_nil ⟨_, _, rfl, l, p, 1001, rfl, bg10, rfl, by decide, by decide, fun y1 H11 hy1 b11 bg11 => wa_nil ⟨by show 3 ≤ sizeLine; decide, fun L H12 hL s12 e12 => ?_⟩⟩) sc_law_meter.nd
  refine we_call (ok_law_draw T) (T.g g_law_draw) hr <| wa_cons <| we_var 0 rfl <| wa_cons <| we_int <| wa_nil ⟨_, _, rfl, l, p, 3, rfl, bg11.mono s12, rfl, by decide, by decide, fun y2 H13 hy2 b13 bg13 => ?_⟩
  have nL : L ≠ p := Ne.symm (fresh_ne bg11.ne hL)
  have hfl : ∃ fl : Nat, ([V.int 0, V.int 30, V.int (y1 : Nat)] : List V)[y2]? = some (.int (fl : Nat)) ∧ fl ≤ 1000 := by
    have c : y2 = 0 ∨ y2 = 1 ∨ y2 = 2 := by omega
    rcases c with rfl | rfl | rfl
    · exact ⟨0, rfl, by decide⟩
    · exact ⟨30, rfl, by decide⟩
    · exact ⟨y1, rfl, by omega⟩
  obtain ⟨fl, hfl, fl1⟩ := hfl
  refine ⟨L, _, _, _, rfl, rfl, SqL.of (b13 _ _ e12 nL), at_of (j := y2) (v := .int (fl : Nat)) rfl hfl, ?_⟩
  have b3 : But p H10 H13 := But.trans b11 (But.trans (But.same s12) b13)
  clear hfl e12 b11 s12 b13 bg11 hL nL
  -- the price of a jump
  refine wb_cons <| ws_set 5 (we_add <| we_int <| we_call (ok_law_draw T) (T.g g_law_draw) hr <| wa_cons <| we_var 0 rfl <| wa_cons <| we_ix ix_list <| we_lst <| wa_cons <| we_int <| wa_cons <| we_int <| wa_nil ⟨by show 2 ≤ sizeLine; decide, fun L H14 hL s14 e14 => ?_⟩) sc_law_meter.nd
  refine we_call (ok_law_draw T) (T.g g_law_draw) hr <| wa_cons <| we_var 0 rfl <| wa_cons <| we_int <| wa_nil ⟨_, _, rfl, l, p, 2, rfl, bg13.mono s14, rfl, by decide, by decide, fun y3 H15 hy3 b15 bg15 => ?_⟩
  have nL : L ≠ p := Ne.symm (fresh_ne bg13.ne hL)
  have hm : ∃ m : Nat, ([V.int 3, V.int 100] : List V)[y3]? = some (.int (m : Nat)) ∧ 1 ≤ m ∧ m ≤ 100 := by
    have c : y3 = 0 ∨ y3 = 1 := by omega
    rcases c with rfl | rfl
    · exact ⟨3, rfl, by decide, by decide⟩
    · exact ⟨100, rfl, by decide, by decide⟩
  obtain ⟨m, hm, m1, m100⟩ := hm
  refine ⟨L, _, _, _, rfl, rfl, SqL.of (b15 _ _ e14 nL), at_of (j := y3) (v := .int (m : Nat)) rfl hm, wa_nil ⟨_, _, rfl, l, p, m, rfl, bg15, rfl, m1, by omega, fun y4 H16 hy4 b16 bg16 => ⟨_, _, rfl, rfl, ?_⟩⟩⟩
  refine wb_cons <| ws_set 6 (we_add <| we_int <| we_call (ok_law_draw T) (T.g g_law_draw) hr <| wa_cons <| we_var 0 rfl <| wa_cons <| we_var 1 rfl <| wa_nil ⟨_, _, rfl, l, p, 6, rfl, bg16, rfl, by decide, by decide, fun y5 H17 hy5 b17 bg17 => ⟨_, _, rfl, rfl, ?_⟩⟩) sc_law_meter.nd
  refine wb_cons <| ws_ret <| we_tup <| wa_cons <| we_var 6 rfl <| wa_cons <| we_add <| we_int <| we_call (ok_law_draw T) (T.g g_law_draw) hr <| wa_cons <| we_var 0 rfl <| wa_cons <| we_var 1 rfl <| wa_nil ⟨_, _, rfl, l, p, 6, rfl, bg17, rfl, by decide, by decide, fun y6 H18 hy6 b18 bg18 => ⟨_, _, rfl, rfl, ?_⟩⟩
  refine wa_cons <| we_var 3 rfl <| wa_cons <| we_var 2 rfl <| wa_cons <| we_var 4 rfl <| wa_cons <| we_var 5 rfl <| wa_nil ⟨by show 6 ≤ sizeLine; decide, fun z H19 hz s19 e19 => ?_⟩
  have bb : But p H10 H19 := But.trans b3 (But.trans (But.same s14) (But.trans b15 (But.trans b16 (But.trans b17 (But.trans b18 (But.same s19))))))
  refine q z ⟨1 + (y5 : Int), 1 + (y6 : Int), (fl : Int), 1 + (y4 : Int), rs, ts⟩ H19 (But.trans b09 (But.trans b10 bb)) (bg18.mono s19) ?_ okt.2.2 ⟨D, u, qs, e19, bb _ _ hDl (Ne.symm nD), Paired.mapP pr fun a r h => ⟨h.1, bb _ _ h.2 h.1⟩, bb _ _ (b10 _ _ eu nu) nu, Ne.symm nD, nu⟩
  exact ⟨by show (1 : Int) ≤ 1 + (y5 : Int); omega, by show 1 + (y5 : Int) ≤ 60; omega, by show (1 : Int) ≤ 1 + (y6 : Int); omega, by show 1 + (y6 : Int) ≤ 60; omega, by show (0 : Int) ≤ (fl : Int); omega, by show (fl : Int) ≤ 1000; omega, by show (1 : Int) ≤ 1 + (y4 : Int); omega, by show 1 + (y4 : Int) ≤ 100; omega, rl, by show rs.length ≤ 3; omega, ro, okt.2.1⟩
end
end Cab
/-! text CabU6 -/
set_option Elab.async false
set_option linter.all false
set_option maxRecDepth 100000
set_option maxHeartbeats 4000000
namespace Cab
open PySem PySem.Spec PyProof.Rows L2 He
theorem joinfold_len (z : Str) (m : Nat) : ∀ (ls : List Str) (acc : Array Nat), (∀ p ∈ ls, p.cps.size ≤ m) → (ls.foldl (fun acc p => acc ++ z.cps ++ p.cps) acc).size ≤ acc.size + ls.length * (z.cps.size + m)
  | [], acc, _ => by simp
  | x :: ls, acc, h => by
    rw [List.foldl_cons]
    have h1 := joinfold_len z m ls (acc ++ z.cps ++ x.cps) fun p hp => h p (List.mem_cons_of_mem _ hp)
    have h2 := h x List.mem_cons_self
    rw [Array.size_append, Array.size_append] at h1
    rw [List.length_cons, Nat.succ_mul]
    omega
theorem join_le (z : Str) (m : Nat) (ls : List Str) (h : ∀ p ∈ ls, p.length ≤ m) : (Txt.join z ls).length ≤ m + ls.length * (z.length + m) := by
  show ((ls.drop 1).foldl (fun acc p => acc ++ z.cps ++ p.cps) (ls.headD Str.empty).cps).size ≤ _
  have h1 := joinfold_len z m (ls.drop 1) (ls.headD Str.empty).cps fun p hp => h p (List.mem_of_mem_drop hp)
  have h2 : (ls.headD Str.empty).cps.size ≤ m := by
    cases ls with
    | nil => exact Nat.zero_le _
    | cons x r => exact h x List.mem_cons_self
  have h3 : (ls.drop 1).length ≤ ls.length := by rw [List.length_drop]; omega
  have h4 : (ls.drop 1).length * (z.cps.size + m) ≤ ls.length * (z.cps.size + m) := Nat.mul_le_mul_right _ h3
  show _ ≤ m + ls.length * (z.cps.size + m)
  generalize (ls.drop 1).length * (z.cps.size + m) = x1 at *
  generalize ls.length * (z.cps.size + m) = x2 at *
  omega
theorem sum_le2 (ns : List Nat) (ll : ∀ z ∈ ns.map wd, z.length ≤ 2) : ((ns.map wd).map (·.length)).sum ≤ ns.length * 2 := by
  induction ns with
  | nil => exact Nat.le_refl _
  | cons n ns ih =>
    have h2 := ll (wd n) (by rw [List.map_cons]; exact List.mem_cons_self)
    have h3 := ih fun z hz => ll z (by rw [List.map_cons]; exact List.mem_cons_of_mem _ hz)
    rw [List.map_cons, List.map_cons, List.sum_cons, List.length_cons]
    omega
theorem nats_of {r : List Int} (h : okRow r) : ∃ ns : List Nat, okNats ns ∧ r = ns.map fun (n : Nat) => (n : Int) := by
  refine ⟨r.map Int.toNat, ⟨by rw [List.length_map]; exact h.1, fun x hx => ?_⟩, ?_⟩
  · obtain ⟨i, hi, rfl⟩ := List.mem_map.mp hx
    have := h.2 i hi
    omega
  · rw [List.map_map]
    have e : r.map id = r := List.map_id r
    conv => lhs; rw [← e]
    refine List.map_congr_left fun i hi => ?_
    have := (h.2 i hi).1
    show i = ((i.toNat : Nat) : Int)
    omega
theorem changing_either {t : Int} {w : Nat} (hw : 0 < w) (ht : 0 ≤ t) : rowChanging t w (t / (w : Int) + 1) = rowEither t w := by
  unfold rowChanging rowEither
  refine List.map_congr_left fun s _ => ?_
  have hw' : (0 : Int) < (w : Int) := by omega
  unfold mx
  by_cases hc : 0 + (s : Int) < t / (w : Int) + 1
  · have h1 : (s : Int) ≤ t / (w : Int) := by omega
    have h2 := (Int.le_ediv_iff_mul_le hw').mp h1
    rw [if_pos hc, if_neg]
    rw [Int.zero_add, Int.mul_comm]
    omega
  · have h1 : t / (w : Int) < (s : Int) := by omega
    have h2 := (Int.ediv_lt_iff_lt_mul hw').mp h1
    rw [if_neg hc, if_pos]
    rw [Int.zero_add, Int.mul_comm]
    omega
def forBody : Stmt → List Stmt
  | .For _ _ b _ _ => b
  | _ => []
def ifBody : Stmt → List Stmt
  | .If _ b _ _ => b
  | _ => []
section
variable {P : Program} {w : World} {K : PySem.W.Frag} {mg : Str → Option Value} {base : Heap}
def spMadeTable (K : PySem.W.Frag) : Sp := sp2 fun a b H Q => ∃ (p : Addr) (r : List Int) (k : Nat), a = .ref p ∧ H p = some (.lst (r.map V.int)) ∧ okRow r ∧ b = .int (k : Nat) ∧ ∀ (q : Addr) H', Same H H' → TabAt K H' q r → Q (.ref q) H'
theorem ok_law_made_table (T : TX K mg) : FnP P w K mg base d_law_made_table 8 ["_law_worths", "_law_place"] (spMadeTable K) [] := by
  refine fn2 (T.d D_law_made_table) rfl sc_law_made_table bd_law_made_table fun cdv A outer s H Q E a b hr h => ?_
  obtain ⟨p, r, k, rfl, hp, okr, rfl, q⟩ := h
  have hz : 0 ≤ r.getD 0 0 ∧ r.getD 0 0 ≤ 60 := by
    have h1 := okr.1
    rw [List.getD_eq_getElem?_getD, List.getElem?_eq_getElem (by omega)]
    exact okr.2 _ (List.getElem_mem _)
  have h0 : (r.map V.int)[0]? = some (V.int (r.getD 0 0)) := by
    have h1 := okr.1
    rw [List.getElem?_map, List.getD_eq_getElem?_getD, List.getElem?_eq_getElem (by omega)]
    rfl
  have at0 : atI (r.map V.int) 0 = some (V.int (r.getD 0 0)) := at_of (j := 0) rfl h0
  generalize r.getD 0 0 = t at hz h0 at0
  refine wb_cons <| ws_set 2 (we_op op_mod <| we_ty call_int1 (T.fr f_int) (by decide +kernel) <| wa_cons <| we_add <| we_blt (cr_sum rfl) (T.fr f_sum) (by decide +kernel) <| wa_cons <| we_var 0 rfl <| wa_nil ⟨p, r, rfl, SqL.of hp, we_var 1 rfl ⟨_, _, rfl, rfl, wa_nil <| .inl ⟨_, rfl, we_int ⟨_, _, rfl, rfl, by exact Int.ofNat_lt.mpr (Nat.succ_pos _), ?_⟩⟩⟩⟩) sc_law_made_table.nd
  dsimp only
  obtain ⟨c, ec, hc⟩ := modN (a := r.sum + ((k : Nat) : Int)) (s := 4) (by decide)
  have ec : (r.sum + ((k : Nat) : Int)) % 4 = ((c : Nat) : Int) := ec
  rw [ec]
  refine wb_cons <| ws_if <| wt_cmp op_eq <| we_var 2 rfl <| we_int ⟨rfl, _, rfl, ?_⟩
  rw [dec_intV]
  by_cases hc0 : ((c : Nat) : Int) = 0
  · rw [decide_eq_true hc0]
    exact iteT <| wb_cons <| ws_ret <| we_make (ok_Table_init T) (T.k k_Table) (T.g g_Table) hr <| wa_cons <| we_ty call_list_of (T.fr f_list) (by decide +kernel) <| wa_cons <| we_var 0 rfl <| wa_nil ⟨p, _, rfl, .inl (SqL.of hp), fun L hL => wa_nil (mk_table (r := r) upd_same okr fun y H' _ s' t' => q y H' (Same.trans (Same.new hL) s') t')⟩
  rw [decide_eq_false hc0]
  refine iteF <| wb_nil <| wb_cons <| ws_if <| wt_cmp op_eq <| we_var 2 rfl <| we_int ⟨rfl, _, rfl, ?_⟩
  rw [dec_intV]
  by_cases hc1 : ((c : Nat) : Int) = 1
  · rw [decide_eq_true hc1]
    obtain ⟨ns, okn, rfl⟩ := nats_of okr
    refine iteT <| wb_cons <| ws_ret <| we_cmeth (ok_Table_read T) (T.g g_Table) (creadB_ok (T.x cr_Table)) (cmetB_ok (T.x cm_Table_read)) hr <| wa_cons <| we_join <| we_str ⟨_, rfl, we_lc sc_law_made_table [("_law_worth_here", 4)] <| wi_list <| we_var 0 rfl ⟨p, _, rfl, SqL.of hp, ?_⟩⟩
    have len := okn.1
    refine lcMap (fun i => V.str (wd (ns.getD i 0))) (walk_list (xs := (ns.map fun (n : Nat) => (n : Int)).map V.int)) (fun _ _ _ _ y => y.1) (by rw [List.length_map, List.length_map]; omega) (fun _ s' => s'.seq (SqL.of hp)) ?_ ?_
    · rintro i x H3 hi s3 ⟨_, hx⟩ s0 H0 C cl fp
      obtain ⟨t2, ht2, rfl⟩ := map_get hx
      obtain ⟨n, hn, rfl⟩ := map_get ht2
      have e3 : ns.getD i 0 = n := by rw [List.getD_eq_getElem?_getD, hn]; rfl
      rw [e3]
      have hn60 := okn.2 n (List.mem_of_getElem? hn)
      exact wg_name 4 ⟨rfl, fun s0 H0 C cl fp => we_ty call_str_int (T.fr f_str) (by decide +kernel) <| wa_cons <| we_var 4 rfl <| wa_nil ⟨_, rfl, (wd_ok hn60).lg, rfl, fun _ _ e => e⟩⟩ sc_law_made_table.nd
    · intro D H3 hD s3 hDl
      rw [List.length_map, List.length_map, map_range_get (fun n => V.str (wd n)) 0 ns] at hDl
      have ll : ∀ z ∈ ns.map wd, z.length ≤ 2 := fun z hz => by
        obtain ⟨n, hn, rfl⟩ := List.mem_map.mp hz
        exact (wd_ok (okn.2 n hn)).l2
      have e1 : (Str.ofString " ").length = 1 := by decide +kernel
      refine ⟨D, ns.map wd, rfl, SqL.of (by rw [hDl, List.map_map]; rfl), ?_, wa_nil ⟨_, _, rfl, ns, rfl, rfl, okn, ?_, fun y H' s' t' => q y H' (Same.trans s3 s') t'⟩⟩
      · have h1 := sum_le2 ns ll
        rw [e1, List.length_map]
        omega
      · have h1 := join_le (Str.ofString " ") 2 (ns.map wd) ll
        rw [e1, List.length_map, len] at h1
        omega
  rw [decide_eq_false hc1]
  refine iteF <| wb_nil <| wb_cons <| ws_forW PassesOwn.never rfl (fun _ => rfl) <| wi_rng1 (T.fr f_range) <| we_int ⟨7, rfl, by decide, by decide, ?_⟩
  refine ⟨7, _, _, walk_range (lo := 0) (n := 7), fun i σ H' => Same H H' ∧ ∃ v3 v4 v5, σ = [some (.ref p), some (.int (k : Nat)), some (.int (c : Nat)), v3, v4, v5], ⟨fun _ _ e => e, _, _, _, rfl⟩, fun _ _ _ _ _ => trivial, ?_, ?_⟩
  · rintro i y σ H2 H3 hi ⟨s3, v3, v4, v5, rfl⟩ ⟨rfl, rfl⟩
    have e0 : V.int (0 + ((i : Nat) : Int)) = V.int ((i : Nat) : Int) := by rw [Int.zero_add]
    show WG _ _ (V.int (0 + ((i : Nat) : Int))) _ _ _
    rw [e0]
    refine wg_name 3 ?_ sc_law_made_table.nd
    refine wb_cons <| ws_if <| wt_cmp (op_eqD hr.units) <| we_var 0 rfl <| we_lc sc_law_made_table [("_law_speed", 5)] <| wi_rng1 (T.fr f_range) <| we_int ⟨10, rfl, by decide, by decide, ?_⟩
    refine lcMap (fun s => V.int (mx t ((i : Int) * (0 + (s : Int))))) (walk_range (lo := 0) (n := 10)) (fun _ _ _ _ y => y.1) (by decide) (fun _ _ => trivial) ?_ ?_
    · rintro n x H4 hn s4 ⟨_, rfl⟩ s0 H0 C cl fp
      refine wg_name 5 ⟨rfl, fun s0 H0 C cl fp => ?_⟩ sc_law_made_table.nd
      exact we_blt (call_max2 rfl) (T.fr f_max) (by decide +kernel) <| wa_cons <| we_ix ix_list <| we_var 0 rfl <| we_int ⟨p, _, 0, _, rfl, rfl, SqL.of (s4 _ _ (s3 _ _ hp)), at0, wa_cons <| we_op op_mul <| we_var 3 rfl <| we_var 5 rfl ⟨_, _, rfl, rfl, .inr (small_mul hn), wa_nil ⟨_, _, rfl, rfl, fun _ _ e => e⟩⟩⟩
    intro D H4 hD s4 hDl
    have hDl : H4 D = some (.lst ((rowEither t (i : Nat)).map V.int)) := by rw [hDl]; unfold rowEither; rw [List.map_map]; rfl
    have s04 := Same.trans s3 s4
    have hp4 := s04 _ _ hp
    refine ⟨_, _, dp_ints (SqL.of hp4), dp_ints (SqL.of hDl), sh_list (lay_ints _), sh_list (lay_ints _), _, rfl, ?_⟩
    rw [eqv_ints]
    by_cases he : r = rowEither t (i : Nat)
    · rw [decide_eq_true he]
      refine iteT <| wb_cons <| ws_if <| wt_W <| ww_and <| wt_cmp op_eq <| we_var 2 rfl <| we_int ⟨rfl, _, rfl, ?_⟩
      rw [dec_intV]
      have fin : ∀ (D : Ends) (H5 : Hp), D.rt = Q → Same H H5 → WS (XC P w K mg base d_law_made_table N_law_made_table (d_law_made_table.path K) cdv A outer s H E) ((ifBody ((forBody (d_law_made_table.body.getD 3 (.Pass default))).getD 0 (.Pass default))).getD 1 (.Pass default)) D [some (.ref p), some (.int (k : Nat)), some (.int (c : Nat)), some (.int (i : Nat)), v4, v5] H5 := fun D H5 eQ s5 =>
        ws_ret <| we_cmeth (ok_Table_either T) (T.g g_Table) (creadB_ok (T.x cr_Table)) (cmetB_ok (T.x cm_Table_either)) hr <| wa_cons <| we_ix ix_list <| we_var 0 rfl <| we_int ⟨p, _, 0, _, rfl, rfl, SqL.of (s5 _ _ hp), at0, wa_cons <| we_var 3 rfl <| wa_nil ⟨_, _, _, rfl, t, (i : Int), rfl, rfl, rfl, hz.1, by omega, by rw [← he]; exact okr, fun y H' s' t' => by rw [eQ]; exact q y H' (Same.trans s5 s') (by rw [he]; exact t')⟩⟩
      by_cases hc2 : ((c : Nat) : Int) = 2
      · rw [decide_eq_true hc2]
        refine iteT <| ww_and <| wt_cmp op_gt <| we_var 3 rfl <| we_int ⟨_, _, rfl, rfl, _, rfl, ?_⟩
        by_cases hi0 : (0 : Int) < ((i : Nat) : Int)
        · rw [decide_eq_true hi0]
          have hi7 : i < 7 := hi
          refine iteT <| ww_and1 <| wt_cmp op_lt <| we_op op_fdiv <| we_ix ix_list <| we_var 0 rfl <| we_int ⟨p, _, 0, _, rfl, rfl, SqL.of hp4, at0, we_var 3 rfl ⟨_, _, rfl, rfl, ⟨hi0, by omega⟩, we_int ⟨_, _, rfl, rfl, _, rfl, ?_⟩⟩⟩
          by_cases h9 : t / ((i : Nat) : Int) < 9
          · rw [decide_eq_true h9]
            have hd0 : 0 ≤ t / ((i : Nat) : Int) := Int.ediv_nonneg hz.1 (by omega)
            have hch := changing_either (t := t) (w := i) (by omega) hz.1
            refine iteT <| wb_cons <| ws_ret <| we_cmeth (ok_Table_changing T) (T.g g_Table) (creadB_ok (T.x cr_Table)) (cmetB_ok (T.x cm_Table_changing)) hr <| wa_cons <| we_ix ix_list <| we_var 0 rfl <| we_int ⟨p, _, 0, _, rfl, rfl, SqL.of hp4, at0, wa_cons <| we_var 3 rfl <| wa_cons <| we_add <| we_op op_fdiv <| we_ix ix_list <| we_var 0 rfl <| we_int ⟨p, _, 0, _, rfl, rfl, SqL.of hp4, at0, we_var 3 rfl ⟨_, _, rfl, rfl, ⟨hi0, by omega⟩, we_int ⟨_, _, rfl, rfl, wa_nil ⟨_, _, _, _, rfl, t, (i : Int), t / ((i : Nat) : Int) + 1, rfl, rfl, rfl, rfl, hz.1, by omega, by omega, by omega, ?_, ?_⟩⟩⟩⟩⟩
            · rw [hch, ← he]
              exact okr
            · intro y H' s' t'
              rw [hch, ← he] at t'
              exact q y H' (Same.trans s04 s') t'
          · rw [decide_eq_false h9]
            exact iteF <| wb_nil <| wb_cons <| fin _ H4 rfl s04
        · rw [decide_eq_false hi0]
          exact iteF <| iteF <| wb_nil <| wb_cons <| fin _ H4 rfl s04
      · rw [decide_eq_false hc2]
        exact iteF <| iteF <| wb_nil <| wb_cons <| fin _ H4 rfl s04
    · rw [decide_eq_false he]
      refine iteF <| wb_nil <| wb_cons <| ws_if <| wt_cmp (op_eqD hr.units) <| we_var 0 rfl <| we_lc sc_law_made_table [("_law_speed", 5)] <| wi_rng1 (T.fr f_range) <| we_int ⟨10, rfl, by decide, by decide, ?_⟩
      refine lcMap (fun s => V.int (t + ((i : Int) * (0 + (s : Int))))) (walk_range (lo := 0) (n := 10)) (fun _ _ _ _ y => y.1) (by decide) (fun _ _ => trivial) ?_ ?_
      · rintro n x H5 hn s5 ⟨_, rfl⟩ s0 H0 C cl fp
        refine wg_name 5 ⟨rfl, fun s0 H0 C cl fp => ?_⟩ sc_law_made_table.nd
        exact we_add <| we_ix ix_list <| we_var 0 rfl <| we_int ⟨p, _, 0, _, rfl, rfl, SqL.of (s5 _ _ hp4), at0, we_op op_mul <| we_var 3 rfl <| we_var 5 rfl ⟨_, _, rfl, rfl, .inr (small_mul hn), _, _, rfl, rfl, rfl, fun _ _ e => e⟩⟩
      intro D2 H5 hD2 s5 hDl2
      have hDl2 : H5 D2 = some (.lst ((rowBoth t (i : Nat)).map V.int)) := by rw [hDl2]; unfold rowBoth; rw [List.map_map]; rfl
      have s05 := Same.trans s04 s5
      have hp5 := s05 _ _ hp
      refine ⟨_, _, dp_ints (SqL.of hp5), dp_ints (SqL.of hDl2), sh_list (lay_ints _), sh_list (lay_ints _), _, rfl, ?_⟩
      rw [eqv_ints]
      by_cases he2 : r = rowBoth t (i : Nat)
      · rw [decide_eq_true he2]
        exact iteT <| wb_cons <| ws_ret <| we_cmeth (ok_Table_both T) (T.g g_Table) (creadB_ok (T.x cr_Table)) (cmetB_ok (T.x cm_Table_both)) hr <| wa_cons <| we_ix ix_list <| we_var 0 rfl <| we_int ⟨p, _, 0, _, rfl, rfl, SqL.of hp5, at0, wa_cons <| we_var 3 rfl <| wa_nil ⟨_, _, _, rfl, t, (i : Int), rfl, rfl, rfl, hz.1, by omega, by rw [← he2]; exact okr, fun y H' s' t' => q y H' (Same.trans s05 s') (by rw [he2]; exact t')⟩⟩
      · rw [decide_eq_false he2]
        exact iteF <| wb_nil <| wb_nil ⟨s05, _, _, _, rfl⟩
  · rintro σ H3 ⟨s3, v3, v4, v5, rfl⟩
    exact wb_cons <| ws_ret <| we_make (ok_Table_init T) (T.k k_Table) (T.g g_Table) hr <| wa_cons <| we_ty call_list_of (T.fr f_list) (by decide +kernel) <| wa_cons <| we_var 0 rfl <| wa_nil ⟨p, _, rfl, .inl (SqL.of (s3 _ _ hp)), fun L hL => wa_nil (mk_table (r := r) upd_same okr fun y H' _ s' t' => q y H' (Same.trans s3 (Same.trans (Same.new hL) s')) t')⟩
end
end Cab
/-! text CabU7 -/
set_option Elab.async false
set_option linter.all false
set_option maxRecDepth 100000
set_option maxHeartbeats 4000000
namespace Cab
open PySem PySem.Spec PyProof.Rows L2 He
section
variable {P : Program} {w : World} {K : PySem.W.Frag} {mg : Str → Option Value} {base : Heap}
def spMade (K : PySem.W.Frag) : Sp := sp1 fun a H Q => ∃ (g p : Addr) (M : Met), a = .ref p ∧ PlainAt g H p M ∧ okMet M ∧ asc M.turns ∧ ∀ (q : Addr) H', Same H H' → MetAt K H' q M → Q (.ref q) H'
theorem ok_law_made (T : TX K mg) : FnP P w K mg base d_law_made 10 ["_law_plain"] (spMade K) [] := by
  refine fn1 (T.d D_law_made) rfl sc_law_made bd_law_made fun cdv A outer s H Q E a hr h => ?_
  obtain ⟨g, p, M, rfl, ⟨ts, us, qs, h1, h2, h3, h4, h5, h6⟩, ok, as, q⟩ := h
  have ql := paired_len h3
  have l3 := ok.len3
  have lm := ok.len
  refine wb_cons <| ws_setLc sc_law_made 1 [("_law_place", 3)] <| wi_rng1 (T.fr f_range) <| we_blt call_len_seq (T.fr f_len) boot_len <| wa_cons <| we_pl h1 (at6 _ _ _ _ _ _).2.2.1 (we_var 0 rfl ⟨rfl, rfl⟩) <| wa_nil ⟨ts, _, rfl, .inl (SqL.of h2), _, rfl, by omega, by rw [List.length_map]; omega, ?_⟩
  rw [List.length_map, Int.toNat_natCast]
  refine lcG (fun i acc H' => Same H H' ∧ ∃ ps : List Addr, acc = ps.map V.ref ∧ TabsAt K H' ps (M.tabs.take i)) (walk_range (lo := 0) (n := qs.length)) (fun _ _ _ _ y => y.1) (by omega) (fun _ _ _ _ => trivial) (fun D H' hD s' _ => ⟨s', [], rfl, .nil⟩) ?_ ?_
  · rintro i acc x H3 D hD hi hacc ⟨s3, ps, rfl, pr⟩ hDl ⟨_, rfl⟩ s0 H0 C cl fp
    have e0 : V.int (0 + ((i : Nat) : Int)) = V.int ((i : Nat) : Int) := by rw [Int.zero_add]
    show WG _ _ (V.int (0 + ((i : Nat) : Int))) _ _ _
    rw [e0]
    refine wg_name 3 ⟨rfl, fun s0 H0 C cl fp => ?_⟩ sc_law_made.nd
    have hq : qs[i]? = some (qs[i]'hi) := List.getElem?_eq_getElem hi
    obtain ⟨r, hr', _, hqr⟩ := paired_get' h3 hq
    have okr := ok.rows r (List.mem_of_getElem? hr')
    refine we_call (ok_law_made_table T) (T.g g_law_made_table) hr <| wa_cons <| we_ix ix_list <| we_pl (s3 _ _ h1) (at6 _ _ _ _ _ _).2.2.1 (we_var 0 rfl ⟨rfl, rfl⟩) <| we_var 3 rfl ⟨ts, _, _, _, rfl, rfl, SqL.of (s3 _ _ h2), at_of (j := i) (v := .ref (qs[i]'hi)) rfl (by rw [List.getElem?_map, hq]; rfl), wa_cons <| we_var 3 rfl <| wa_nil ⟨_, _, rfl, qs[i]'hi, r, i, rfl, s3 _ _ hqr, okr, rfl, fun z H4 s4 tz => ⟨s4 _ _ hDl, fun H5 b5 e5 => ⟨But.of_new (Same.trans s3 s4) hD b5, ps ++ [z], by rw [List.map_append]; rfl, ?_⟩⟩⟩⟩
    have hD4 := s4 _ _ hDl
    have e6 : M.tabs.take (i + 1) = M.tabs.take i ++ [r] := by rw [List.take_add_one, hr']; rfl
    rw [e6]
    exact paired_snoc (Paired.mapP pr fun a r h => (h.mono s4).but b5 hD4 (fun z => z)) (tz.but b5 hD4 (fun z => z))
  rintro D acc H3 hD hal ⟨s3, ps, rfl, pr⟩ hDl
  rw [ql, List.take_length] at pr
  have h1 := s3 _ _ h1
  have h4 := s3 _ _ h4
  refine wb_cons <| ws_set 2 (we_ty call_list_of (T.fr f_list) (by decide +kernel) <| wa_cons <| we_pl h1 (at6 _ _ _ _ _ _).2.2.2.1 (we_var 0 rfl ⟨rfl, rfl⟩) <| wa_nil ⟨us, _, rfl, .inl (SqL.of h4), fun L hL => ?_⟩) sc_law_made.nd
  have s4 : Same H3 (upd H3 L (.lst (M.turns.map V.int))) := Same.new hL
  have eL : (upd H3 L (.lst (M.turns.map V.int))) L = some (.lst (M.turns.map V.int)) := upd_same
  generalize upd H3 L (.lst (M.turns.map V.int)) = H4 at s4 eL
  have h1 := s4 _ _ h1
  refine wb_cons <| ws_if <| wt_cmp op_eq <| we_blt call_len_seq (T.fr f_len) boot_len <| wa_cons <| we_var 2 rfl <| wa_nil ⟨L, _, rfl, .inl (SqL.of eL), we_int ⟨rfl, _, rfl, ?_⟩⟩
  rw [dec_intV]
  by_cases hc : (((M.turns.map V.int).length : Nat) : Int) = 2
  · rw [decide_eq_true hc]
    refine iteT <| wb_cons <| ws_ret <| we_Meter T hr (fun _ _ => trivial) <| wa_cons <| we_pl h1 (at6 _ _ _ _ _ _).1 (we_var 0 rfl ⟨rfl, rfl⟩) <| wa_cons <| we_pl h1 (at6 _ _ _ _ _ _).2.1 (we_var 0 rfl ⟨rfl, rfl⟩) <| wa_cons <| we_var 1 rfl <| wa_cons <| we_ty call_tuple_of (T.fr f_tuple) (by decide +kernel) <| wa_cons <| we_var 2 rfl <| wa_nil ⟨L, _, rfl, .inl ⟨SqL.of eL, fun t ht => ?_⟩⟩
    have s5 : Same H4 (upd H4 t (.tup (M.turns.map V.int))) := Same.new ht
    have eT : (upd H4 t (.tup (M.turns.map V.int))) t = some (.tup (M.turns.map V.int)) := upd_same
    generalize upd H4 t (.tup (M.turns.map V.int)) = H5 at s5 eT
    have h1 := s5 _ _ h1
    have s35 := Same.trans s4 s5
    exact wa_nil <| we_pl h1 (at6 _ _ _ _ _ _).2.2.2.2.1 (we_var 0 rfl ⟨rfl, rfl⟩) <| we_pl h1 (at6 _ _ _ _ _ _).2.2.2.2.2 (we_var 0 rfl ⟨rfl, rfl⟩) ⟨D, t, M, ps, rfl, rfl, rfl, s35 _ _ hDl, pr.mono s35, .inr eT, ok, as, fun z H' s' mz => q z H' (Same.trans s3 (Same.trans s35 s')) mz⟩
  · rw [decide_eq_false hc]
    exact iteF <| wb_nil <| wb_cons <| ws_ret <| we_Meter T hr (fun _ _ => trivial) <| wa_cons <| we_pl h1 (at6 _ _ _ _ _ _).1 (we_var 0 rfl ⟨rfl, rfl⟩) <| wa_cons <| we_pl h1 (at6 _ _ _ _ _ _).2.1 (we_var 0 rfl ⟨rfl, rfl⟩) <| wa_cons <| we_var 1 rfl <| wa_cons <| we_var 2 rfl <| wa_nil <| we_pl h1 (at6 _ _ _ _ _ _).2.2.2.2.1 (we_var 0 rfl ⟨rfl, rfl⟩) <| we_pl h1 (at6 _ _ _ _ _ _).2.2.2.2.2 (we_var 0 rfl ⟨rfl, rfl⟩) ⟨D, L, M, ps, rfl, rfl, rfl, s4 _ _ hDl, pr.mono s4, .inl eL, ok, as, fun z H' s' mz => q z H' (Same.trans s3 (Same.trans s4 s')) mz⟩
end
end Cab
/-! text CabU8 -/
set_option Elab.async false
set_option linter.all false
set_option maxRecDepth 100000
set_option maxHeartbeats 4000000
namespace Cab
open PySem PySem.Spec PyProof.Rows L2 He
theorem perm_img {α β : Type} {f : α → β} (g : β → α) (hg : ∀ a, g (f a) = a) {ys : List β} {l : List α} (h : ys.Perm (l.map f)) : ∃ l' : List α, ys = l'.map f ∧ l'.Perm l := by
  refine ⟨ys.map g, ?_, ?_⟩
  · rw [List.map_map]
    have e : ys.map id = ys := List.map_id ys
    conv => lhs; rw [← e]
    refine List.map_congr_left fun y hy => ?_
    obtain ⟨a, _, rfl⟩ := List.mem_map.mp (h.mem_iff.mp hy)
    show f a = f (g (f a))
    rw [hg]
  · have e : (l.map f).map g = l := by
      rw [List.map_map]
      have e : l.map id = l := List.map_id l
      conv => rhs; rw [← e]
      exact List.map_congr_left fun a _ => hg a
    have := h.map g
    rw [e] at this
    exact this
def unDg : V → Nat
  | .str s => s.cps.getD 0 0 - 48
  | _ => 0
theorem unDg_dg (n : Nat) : unDg (V.str (dg n)) = n := by
  show (#[48 + n] : Array Nat).getD 0 0 - 48 = n
  have e : (#[48 + n] : Array Nat).getD 0 0 = 48 + n := rfl
  rw [e]
  omega
def wdDg (n : Nat) : Bool := decide (wd n = dg n)
theorem wdDg_all : (List.range 10).all wdDg = true := by decide +kernel
theorem wd_dg {n : Nat} (h : n < 10) : wd n = dg n := of_decide_eq_true (List.all_eq_true.mp wdDg_all n (List.mem_range.mpr h))
theorem tx_sg (l : List Nat) : (tx l).cps.toList.map sg = l.map dg := by
  show ((l.map (48 + ·)).toArray).toList.map sg = l.map dg
  rw [List.toList_toArray, List.map_map]
  rfl
theorem tx_digits : Str.ofString "0123456789" = tx (List.range 10) := by decide +kernel
theorem tx_nil : Str.ofString "" = tx [] := by decide +kernel
theorem tx_inj {l m : List Nat} (h : tx l = tx m) : l = m := by
  unfold tx at h
  injection h with h
  have h2 : l.map (48 + ·) = m.map (48 + ·) := by
    have := congrArg Array.toList h
    exact this
  exact List.map_inj_right (fun a b e => by omega) |>.mp h2
section
variable {P : Program} {w : World} {K : PySem.W.Frag} {mg : Str → Option Value} {base : Heap}
def spDigits : Sp := sp1 fun a H Q => ∃ (l p : Addr), a = .ref p ∧ BagAt l H p ∧
  ∀ (ds : List Nat) H', But p H H' → BagAt l H' p → ds.Nodup → ds ≠ [] → (∀ d ∈ ds, d < 10) → Q (.str (tx ds)) H'
theorem ok_law_digits (T : TX K mg) : FnP P w K mg base d_law_digits 5 ["_law_bag_here"] spDigits [] := by
  refine fn1 (T.d D_law_digits) rfl sc_law_digits bd_law_digits fun cdv A outer s H Q E a hr h => ?_
  obtain ⟨l, p, rfl, bg, q⟩ := h
  have e0 : (Str.ofString "").length = 0 := by decide +kernel
  have last : ∀ (H2 : Hp) (ds : List Nat), But p H H2 → BagAt l H2 p → ds.Nodup → ds ≠ [] → (∀ d ∈ ds, d < 10) → WB (XC P w K mg base d_law_digits N_law_digits (d_law_digits.path K) cdv A outer s H E) (d_law_digits.body.drop 2) { nx := fun _ H' => Q .non H', rt := Q } [some (.ref p), some (.str (tx ds)), none] H2 := by
    intro H2 ds b2 bg2 nd ne d10
    have dl : ds.length ≤ 10 := by
      have := nodup_le ds (List.range 10) nd fun x hx => List.mem_range.mpr (d10 x hx)
      rw [List.length_range] at this
      exact this
    refine wb_cons <| ws_ret <| we_join <| we_str ⟨_, rfl, we_call (ok_law_mixed T) (T.g g_law_mixed) hr <| wa_cons <| we_var 0 rfl <| wa_cons <| we_ty (cr_listTx rfl) (T.fr f_list) (by decide +kernel) <| wa_cons <| we_var 1 rfl <| wa_nil ⟨_, rfl, ?_, fun L H3 hL s3 e3 => ?_⟩⟩
    · have := tx_size ds
      rw [this]
      exact Nat.lt_of_le_of_lt dl (by decide)
    have es : (((tx ds).cps.toList.map sg).map V.str) = ds.map fun d => V.str (dg d) := by
      rw [tx_sg, List.map_map]
      rfl
    rw [es] at e3
    refine wa_nil ⟨_, _, rfl, l, p, L, _, rfl, bg2.mono s3, rfl, e3, Ne.symm (fresh_ne bg2.ne hL), by rw [List.length_map]; omega, fun r ys H4 b4 bg4 pm _ e4 => ?_⟩
    obtain ⟨ds', rfl, pm'⟩ := perm_img unDg unDg_dg pm
    have dl' := pm'.length_eq
    refine ⟨r, ds'.map dg, rfl, SqL.of (by rw [e4, List.map_map]; rfl), by rw [sum_dg, e0]; omega, ?_⟩
    rw [join_dg]
    exact q ds' H4 (But.trans b2 (But.trans (But.same s3) b4)) bg4 (pm'.nodup_iff.mpr nd) (fun z => by
      rw [z] at dl'
      exact ne (List.eq_nil_of_length_eq_zero dl'.symm)) fun d hd => d10 d (pm'.mem_iff.mp hd)
  refine wb_cons <| ws_set 1 (we_join <| we_str ⟨_, rfl, we_lc sc_law_digits [("_law_digit", 2)] <| wi_str <| we_str ⟨_, rfl, ?_⟩⟩) sc_law_digits.nd
  rw [tx_digits]
  have esz : (tx (List.range 10)).cps.size = 10 := tx_size _
  refine lcPF p (fun H => BagAt l H p) (fun i acc => ∃ ds : List Nat, acc = (ds.map dg).map V.str ∧ ds.Sublist (List.range i)) walk_str (fun _ _ _ _ y => y.1) (by rw [esz]; decide) (fun _ _ => trivial) bg.ne bg (fun D H H' n h b => bg.fresh n h b) ⟨[], rfl, List.Sublist.refl _⟩ ?_ ?_
  · rintro i acc x H3 hi hacc ⟨ds, rfl, sb⟩ b3 bg3 ⟨_, c, hc, rfl⟩ s0 H0 C cl fp
    obtain ⟨n, hn, ec, ed⟩ := text_at (List.range 10) hi hc
    rw [ed]
    rw [esz] at hi
    have en : n = i := by rw [List.getElem?_range hi] at hn; exact (Option.some.inj hn).symm
    subst en
    have sb2 : ds.Sublist (List.range (n + 1)) := by rw [List.range_succ]; exact sb.trans (List.sublist_append_left _ _)
    have sb3 : (ds ++ [n]).Sublist (List.range (n + 1)) := by rw [List.range_succ]; exact sb.append (List.Sublist.refl _)
    refine wg_name 2 ⟨rfl, fun s0 H0 C cl fp => ?_⟩ sc_law_digits.nd
    refine wt_cmp op_eq <| we_call (ok_law_draw T) (T.g g_law_draw) hr <| wa_cons <| we_var 0 rfl <| wa_cons <| we_int <| wa_nil ⟨_, _, rfl, l, p, 2, rfl, bg3, rfl, by decide, by decide, fun r H4 hr4 b4 bg4 => we_int ⟨rfl, _, rfl, b4, bg4, fun _ => ⟨ds, rfl, sb2⟩, fun _ s0 H0 C cl fp => we_var 2 rfl ⟨⟨ds ++ [n], by rw [List.map_append, List.map_append]; rfl, sb3⟩, rfl⟩⟩⟩
  rintro D acc H3 hD b3 bg3 ⟨ds, rfl, sb⟩ hDl
  rw [esz] at sb
  have nd : ds.Nodup := sb.nodup List.nodup_range
  have d10 : ∀ d ∈ ds, d < 10 := fun d hd => List.mem_range.mp (sb.subset hd)
  have dl : ds.length ≤ 10 := by have := sb.length_le; rw [List.length_range] at this; exact this
  refine ⟨D, ds.map dg, rfl, SqL.of hDl, by rw [sum_dg, e0]; omega, ?_⟩
  rw [join_dg]
  refine wb_cons <| ws_if <| wt_cmp op_eq <| we_var 1 rfl <| we_str ⟨rfl, _, rfl, ?_⟩
  rw [tx_nil]
  by_cases hn : ds = []
  · have e1 : decide (V.str (tx ds) = V.str (tx [])) = true := by rw [hn]; exact decide_eq_true rfl
    rw [e1]
    refine iteT <| wb_cons <| ws_set 1 (we_ty call_str_int (T.fr f_str) (by decide +kernel) <| wa_cons <| we_call (ok_law_draw T) (T.g g_law_draw) hr <| wa_cons <| we_var 0 rfl <| wa_cons <| we_int <| wa_nil ⟨_, _, rfl, l, p, 10, rfl, bg3, rfl, by decide, by decide, fun r H4 hr4 b4 bg4 => wa_nil ⟨_, rfl, (wd_ok (by omega)).lg, ?_⟩⟩) sc_law_digits.nd
    have e2 : V.str (toString ((r : Nat) : Int)) = V.str (tx [r]) := by
      have := wd_dg hr4
      show V.str (wd r) = V.str (dg r)
      rw [this]
    show WB _ _ _ [some (.ref p), some (V.str (toString ((r : Nat) : Int))), none] _
    rw [e2]
    exact wb_nil <| last H4 [r] (But.trans b3 b4) bg4 (List.nodup_cons.mpr ⟨(fun h => nomatch h), List.nodup_nil⟩) (fun h => nomatch h) fun d hd => by rw [List.mem_singleton.mp hd]; exact hr4
  · have e1 : decide (V.str (tx ds) = V.str (tx [])) = false := decide_eq_false fun z => hn (tx_inj (by injection z))
    rw [e1]
    exact iteF <| wb_nil <| last H3 ds b3 bg3 nd hn d10
def spBase : Sp := sp3 fun a b c H Q => ∃ (l p : Addr) (t top : Nat), a = .ref p ∧ BagAt l H p ∧ b = .int (t : Nat) ∧ c = .int (top : Nat) ∧ t ≤ 8 ∧ top ≤ 9 ∧
  ∀ (ds : List Nat) H', But p H H' → BagAt l H' p → ds.length = t → (∀ d ∈ ds, d ≤ top) → Q (.str (tx ds)) H'
theorem ok_law_base_trip (T : TX K mg) : FnP P w K mg base d_law_base_trip 3 ["_law_bag_here", "_law_ticks", "_law_top"] spBase [] := by
  refine fn3 (T.d D_law_base_trip) rfl sc_law_base_trip bd_law_base_trip fun cdv A outer s H Q E a b c hr h => ?_
  obtain ⟨l, p, t, top, rfl, bg, rfl, rfl, t8, top9, q⟩ := h
  have e0 : (Str.ofString "").length = 0 := by decide +kernel
  refine wb_cons <| ws_ret <| we_join <| we_str ⟨_, rfl, we_lc sc_law_base_trip [("_law_tick", 3)] <| wi_rng1 (T.fr f_range) <| we_var 1 rfl ⟨_, rfl, by omega, by omega, ?_⟩⟩
  rw [Int.toNat_natCast]
  refine lcP p (fun H => BagAt l H p) (fun i acc => ∃ ds : List Nat, acc = (ds.map dg).map V.str ∧ ds.length = i ∧ ∀ d ∈ ds, d ≤ top) (walk_range (lo := 0) (n := t)) (fun _ _ _ _ y => y.1) (by omega) (fun _ _ => trivial) bg.ne bg (fun D H H' n h b => bg.fresh n h b) ⟨[], rfl, rfl, fun d h => nomatch h⟩ ?_ ?_
  · rintro i acc x H3 hi hacc ⟨ds, rfl, dl, dt⟩ b3 bg3 ⟨_, rfl⟩ s0 H0 C cl fp
    refine wg_name 3 ⟨rfl, fun s0 H0 C cl fp => ?_⟩ sc_law_base_trip.nd
    refine we_ty call_str_int (T.fr f_str) (by decide +kernel) <| wa_cons <| we_call (ok_law_draw T) (T.g g_law_draw) hr <| wa_cons <| we_var 0 rfl <| wa_cons <| we_add <| we_var 2 rfl <| we_int ⟨_, _, rfl, rfl, wa_nil ⟨_, _, rfl, l, p, top + 1, rfl, bg3, rfl, by omega, by omega, fun r H4 hr4 b4 bg4 => wa_nil ⟨_, rfl, (wd_ok (by omega)).lg, ⟨ds ++ [r], ?_, by rw [List.length_append, dl]; rfl, ?_⟩, b4, bg4⟩⟩⟩
    · rw [List.map_append, List.map_append]
      show _ ++ [V.str (wd r)] = _ ++ [V.str (dg r)]
      rw [wd_dg (by omega)]
    · intro d hd
      rcases List.mem_append.mp hd with h | h
      · exact dt d h
      · rw [List.mem_singleton.mp h]
        omega
  rintro D acc H3 hD b3 bg3 ⟨ds, rfl, dl, dt⟩ hDl
  refine ⟨D, ds.map dg, rfl, SqL.of hDl, by rw [sum_dg, e0]; omega, ?_⟩
  rw [join_dg]
  exact q ds H3 b3 bg3 dl dt
end
end Cab
/-! text CabU9 -/
set_option Elab.async false
set_option linter.all false
set_option maxRecDepth 100000
set_option maxHeartbeats 4000000
namespace Cab
open PySem PySem.Spec PyProof.Rows L2 He
theorem cutS_tx (l : List Nat) {m : Nat} (h : m ≤ l.length) : cutS (tx l) none (some (m : Nat)) = tx (l.take m) := by
  have e1 : HT.sIx (tx l).length 0 none = 0 := rfl
  have e2 : HT.sIx (tx l).length (tx l).length (some ((m : Nat) : Int)) = m := by
    rw [tx_len]
    unfold HT.sIx
    simp only []
    split <;> omega
  have e3 : (tx l).cps.toList = l.map (48 + ·) := by
    show ((l.map (48 + ·)).toArray).toList = _
    rw [List.toList_toArray]
  unfold cutS
  rw [e1, e2, e3, List.drop_zero, Nat.sub_zero, ← List.map_take]
  rfl
/-- what a base trip says -/
def Fact.tells (M : Met) (ds : List Nat) : Fact → Prop
  | .passed t i => t ≤ ds.length ∧ i = ((ds.take t).sum : Nat)
  | .showed t i => t ≤ ds.length ∧ i = M.price (M.run 0 (ds.take t))
  | .jumped t b => t < ds.length ∧ b = decide (M.jumpsAt (M.run 0 (ds.take t)) < M.jumpsAt (M.run 0 (ds.take (t + 1))))
  | .speeds t es => ∃ d, ds[t]? = some d ∧ d ∈ es
theorem price0 {M : Met} (ok : okMet M) (c : Int) : 0 ≤ M.price c := by
  have h1 := ok.g1
  have h2 := ok.e1
  have h3 := ok.jumps0 (c := c)
  unfold Met.price
  have h4 : 0 ≤ M.each * M.jumpsAt c := Int.mul_nonneg (by omega) h3
  omega
theorem sum_take_int (l : List Nat) : (l.map fun (n : Nat) => (n : Int)).sum = ((l.sum : Nat) : Int) := by
  induction l with
  | nil => rfl
  | cons a l ih => rw [List.map_cons, List.sum_cons, List.sum_cons, ih]; omega
section
variable {P : Program} {w : World} {K : PySem.W.Frag} {mg : Str → Option Value} {base : Heap}
def spTrue : Sp := sp3 fun a b c H Q => ∃ (l p g : Addr) (M : Met) (ds : List Nat), a = .ref p ∧ BagAt l H p ∧ b = .ref g ∧ PlainAt p H g M ∧ okMet M ∧ c = .str (tx ds) ∧ ds.length ≤ 8 ∧ (∀ d ∈ ds, d < 10) ∧
  ∀ (z : Addr) (f : Fact) H', But p H H' → BagAt l H' p → FactAt H' z f → f.tells M ds → (∀ R : Rec, R.ticks = ds.length → f.good R) → Q (.ref z) H'
theorem ok_law_true_fact (T : TX K mg) : FnP P w K mg base d_law_true_fact 7 ["_law_bag_here", "_law_plain", "_law_trip"] spTrue [] := by
  refine fn3 (T.d D_law_true_fact) rfl sc_law_true_fact bd_law_true_fact fun cdv A outer s H Q E a b c hr h => ?_
  obtain ⟨l, p, g, M, ds, rfl, bg, rfl, hp, ok, rfl, dl, d10, q⟩ := h
  have e0 : (Str.ofString "").length = 0 := by decide +kernel
  have esz : (tx ds).length = ds.length := tx_len ds
  refine wb_cons <| ws_set 3 (we_blt call_len_str (T.fr f_len) boot_len <| wa_cons <| we_var 2 rfl <| wa_nil ⟨_, rfl, by rw [esz]; exact Nat.le_trans dl (by decide), ?_⟩) sc_law_true_fact.nd
  rw [esz]
  refine wb_cons <| ws_set 4 (we_call (ok_law_counts T) (T.g g_law_counts) hr <| wa_cons <| we_var 1 rfl <| wa_cons <| we_var 2 rfl <| wa_nil ⟨_, _, rfl, p, g, M, ds, rfl, hp, ok, rfl, d10, by omega, fun ct H1 s1 hct ect => ?_⟩) sc_law_true_fact.nd
  have nct : ct ≠ p := Ne.symm (fresh_ne bg.ne hct)
  have atc : ∀ {k : Nat} {j : Int}, j = (k : Nat) → k ≤ ds.length → atI (((List.range (ds.length + 1)).map fun i => M.run 0 (ds.take i)).map V.int) j = some (V.int (M.run 0 (ds.take k))) := by
    intro k j hj hk
    refine at_of (j := k) hj ?_
    rw [List.getElem?_map, List.getElem?_map, List.getElem?_range (by omega)]
    rfl
  refine wb_cons <| ws_set 5 (we_call (ok_law_draw T) (T.g g_law_draw) hr <| wa_cons <| we_var 0 rfl <| wa_cons <| we_int <| wa_nil ⟨_, _, rfl, l, p, 4, rfl, bg.mono s1, rfl, by decide, by decide, fun ch H2 hch b2 bg2 => ?_⟩) sc_law_true_fact.nd
  refine wb_cons <| ws_set 6 (we_call (ok_law_draw T) (T.g g_law_draw) hr <| wa_cons <| we_var 0 rfl <| wa_cons <| we_add <| we_var 3 rfl <| we_int ⟨_, _, rfl, rfl, wa_nil ⟨_, _, rfl, l, p, ds.length + 1, rfl, bg2, rfl, by omega, by omega, fun mk H3 hmk b3 bg3 => ?_⟩⟩) sc_law_true_fact.nd
  have b13 := But.trans b2 b3
  have b03 := But.trans (But.same s1) b13
  have ect3 := b13 _ _ ect nct
  have hp3 : PlainAt p H3 g M := (hp.mono s1).butB (bg.mono s1) b13
  have passed : ∀ (D : Ends), D.rt = Q → WS (XC P w K mg base d_law_true_fact N_law_true_fact (d_law_true_fact.path K) cdv A outer s H E) ((ifBody (d_law_true_fact.body.getD 4 (.Pass default))).getD 0 (.Pass default)) D [some (.ref p), some (.ref g), some (.str (tx ds)), some (.int (ds.length : Nat)), some (.ref ct), some (.int (ch : Nat)), some (.int (mk : Nat)), none, none, none] H3 := by
    intro D eQ
    refine ws_ret <| we_tup <| wa_cons <| we_str <| wa_cons <| we_var 6 rfl <| wa_cons <| we_blt (cr_sum rfl) (T.fr f_sum) (by decide +kernel) <| wa_cons <| we_lc sc_law_true_fact [("_law_digit", 9)] <| wi_str <| we_cut sl_str <| we_var 2 rfl <| we_var 6 rfl ⟨_, rfl, _, rfl, by rw [esz]; exact Nat.le_trans dl (by decide), ?_⟩
    rw [cutS_tx ds (by omega)]
    refine ⟨_, rfl, ?_⟩
    have tsz : (tx (ds.take mk)).cps.size = (ds.take mk).length := tx_size _
    have tkl := List.length_take_le' mk ds
    refine lcMap (fun i => V.int (((ds.take mk).getD i 0 : Nat) : Int)) walk_str (fun _ _ _ _ y => y.1) (by rw [tsz]; omega) (fun _ _ => trivial) ?_ ?_
    · rintro i x H4 hi s4 ⟨_, c, hc, rfl⟩ s0 H0 C cl fp
      obtain ⟨n, hn, ec, ed⟩ := text_at (ds.take mk) hi hc
      have e3 : (ds.take mk).getD i 0 = n := by rw [List.getD_eq_getElem?_getD, hn]; rfl
      have n10 : n < 10 := d10 n (List.mem_of_mem_take (List.mem_of_getElem? hn))
      rw [ed, e3]
      exact wg_name 9 ⟨rfl, fun s0 H0 C cl fp => we_intdg n10 (T.fr f_int) <| we_var 9 rfl ⟨rfl, rfl, fun _ _ e => e⟩⟩ sc_law_true_fact.nd
    · intro D2 H4 hD2 s4 hDl
      rw [tsz, map_range_get (fun n : Nat => V.int ((n : Nat) : Int)) 0 (ds.take mk)] at hDl
      refine wa_nil ⟨D2, (ds.take mk).map fun (n : Nat) => (n : Int), rfl, SqL.of (by rw [hDl, List.map_map]; rfl), wa_nil ⟨by show 3 ≤ sizeLine; decide, fun z H5 hz s5 e5 => ?_⟩⟩
      rw [sum_take_int] at e5
      rw [eQ]
      exact q z (.passed mk (((ds.take mk).sum : Nat) : Int)) H5 (But.trans b03 (But.same (Same.trans s4 s5))) (bg3.mono (Same.trans s4 s5)) e5 ⟨by omega, rfl⟩ (fun R hR => ⟨by rw [hR]; omega, by omega⟩)
  refine wb_cons <| ws_if <| wt_W <| ww_or <| wt_cmp op_eq <| we_var 3 rfl <| we_int ⟨rfl, _, rfl, ?_⟩
  rw [dec_intV]
  by_cases hz : ((ds.length : Nat) : Int) = 0
  · rw [decide_eq_true hz]
    exact iteT <| iteT <| wb_cons <| passed _ rfl
  rw [decide_eq_false hz]
  refine iteF <| ww_or1 <| wt_cmp op_eq <| we_var 5 rfl <| we_int ⟨rfl, _, rfl, ?_⟩
  rw [dec_intV]
  by_cases hc0 : ((ch : Nat) : Int) = 0
  · rw [decide_eq_true hc0]
    exact iteT <| wb_cons <| passed _ rfl
  rw [decide_eq_false hc0]
  refine iteF <| wb_nil <| wb_cons <| ws_if <| wt_cmp op_eq <| we_var 5 rfl <| we_int ⟨rfl, _, rfl, ?_⟩
  rw [dec_intV]
  have g1 := ok.e1
  have g2 := ok.e2
  have hmk' : mk ≤ ds.length := by omega
  by_cases hc1 : ((ch : Nat) : Int) = 1
  · rw [decide_eq_true hc1]
    obtain ⟨ts, us, qs, h1, hrest⟩ := id hp3
    refine iteT <| wb_cons <| ws_ret <| we_tup <| wa_cons <| we_str <| wa_cons <| we_var 6 rfl <| wa_cons <| we_add <| we_pl h1 (at6 _ _ _ _ _ _).2.2.2.2.1 (we_var 1 rfl ⟨rfl, rfl⟩) <| we_op op_mul <| we_pl h1 (at6 _ _ _ _ _ _).2.2.2.2.2 (we_var 1 rfl ⟨rfl, rfl⟩) <| we_call (ok_law_jumps_at T) (T.g g_law_jumps_at) hr <| wa_cons <| we_var 1 rfl <| wa_cons <| we_ix ix_list <| we_var 4 rfl <| we_var 6 rfl ⟨ct, _, _, _, rfl, rfl, SqL.of ect3, atc rfl hmk', wa_nil ⟨_, _, rfl, p, g, M, _, rfl, hp3, ok, rfl, _, _, rfl, rfl, .inl ⟨by omega, by omega⟩, _, _, rfl, rfl, wa_nil ⟨by show 3 ≤ sizeLine; decide, fun z H5 hz5 s5 e5 => ?_⟩⟩⟩
    exact q z (.showed mk (M.price (M.run 0 (ds.take mk)))) H5 (But.trans b03 (But.same s5)) (bg3.mono s5) e5 ⟨hmk', rfl⟩ (fun R hR => ⟨by rw [hR]; exact hmk', price0 ok _⟩)
  rw [decide_eq_false hc1]
  refine iteF <| wb_nil <| wb_cons <| ws_set 7 (we_call (ok_law_draw T) (T.g g_law_draw) hr <| wa_cons <| we_var 0 rfl <| wa_cons <| we_var 3 rfl <| wa_nil ⟨_, _, rfl, l, p, ds.length, rfl, bg3, rfl, by omega, by omega, fun tk H4 htk b4 bg4 => ?_⟩) sc_law_true_fact.nd
  have ect4 := b4 _ _ ect3 nct
  have hp4 : PlainAt p H4 g M := hp3.butB bg3 b4
  have b04 := But.trans b03 b4
  refine wb_cons <| ws_if <| wt_cmp op_eq <| we_var 5 rfl <| we_int ⟨rfl, _, rfl, ?_⟩
  rw [dec_intV]
  by_cases hc2 : ((ch : Nat) : Int) = 2
  · rw [decide_eq_true hc2]
    refine iteT <| wb_cons <| ws_ret <| we_tup <| wa_cons <| we_str <| wa_cons <| we_var 7 rfl <| wa_cons <| we_cmp op_gt <| we_call (ok_law_jumps_at T) (T.g g_law_jumps_at) hr <| wa_cons <| we_var 1 rfl <| wa_cons <| we_ix ix_list <| we_var 4 rfl <| we_add <| we_var 7 rfl <| we_int ⟨_, _, rfl, rfl, ct, _, _, _, rfl, rfl, SqL.of ect4, atc (k := tk + 1) (by omega) (by omega), wa_nil ⟨_, _, rfl, p, g, M, _, rfl, hp4, ok, rfl, ?_⟩⟩
    refine we_call (ok_law_jumps_at T) (T.g g_law_jumps_at) hr <| wa_cons <| we_var 1 rfl <| wa_cons <| we_ix ix_list <| we_var 4 rfl <| we_var 7 rfl ⟨ct, _, _, _, rfl, rfl, SqL.of ect4, atc (k := tk) rfl (by omega), wa_nil ⟨_, _, rfl, p, g, M, _, rfl, hp4, ok, rfl, _, _, rfl, rfl, wa_nil ⟨by show 3 ≤ sizeLine; decide, fun z H5 hz5 s5 e5 => ?_⟩⟩⟩
    exact q z (.jumped tk (decide (M.jumpsAt (M.run 0 (ds.take tk)) < M.jumpsAt (M.run 0 (ds.take (tk + 1)))))) H5 (But.trans b04 (But.same s5)) (bg4.mono s5) e5 ⟨htk, rfl⟩ (fun R hR => by show tk < R.ticks; rw [hR]; exact htk)
  rw [decide_eq_false hc2]
  refine iteF <| wb_nil <| wb_cons <| ws_set 8 (we_call (ok_law_digits T) (T.g g_law_digits) hr <| wa_cons <| we_var 0 rfl <| wa_nil ⟨_, rfl, l, p, rfl, bg4, fun es H5 b5 bg5 nd ne es10 => ?_⟩) sc_law_true_fact.nd
  have b05 := But.trans b04 b5
  have hd : ds[tk]? = some (ds[tk]'htk) := List.getElem?_eq_getElem htk
  generalize ds[tk]'htk = d at hd
  have dd10 : d < 10 := d10 d (List.mem_of_getElem? hd)
  have at_tx : atI (tx ds).cps.toList ((tk : Nat) : Int) = some (48 + d) := by
    have e3 : (tx ds).cps.toList = ds.map (48 + ·) := by
      show ((ds.map (48 + ·)).toArray).toList = _
      rw [List.toList_toArray]
    rw [e3]
    exact atI_nat (j := tk) (by rw [List.getElem?_map, hd]; rfl)
  have lsz : (tx ds).length ≤ sizeLine := by rw [esz]; exact Nat.le_trans dl (by decide)
  have esl : es.length ≤ 10 := by
    have := nodup_le es (List.range 10) nd fun x hx => List.mem_range.mpr (es10 x hx)
    rw [List.length_range] at this
    exact this
  have last : ∀ (fs : List Nat), okDs fs → d ∈ fs → WB (XC P w K mg base d_law_true_fact N_law_true_fact (d_law_true_fact.path K) cdv A outer s H E) (d_law_true_fact.body.drop 10) { nx := fun _ H' => Q .non H', rt := Q } [some (.ref p), some (.ref g), some (.str (tx ds)), some (.int (ds.length : Nat)), some (.ref ct), some (.int (ch : Nat)), some (.int (mk : Nat)), some (.int (tk : Nat)), some (.str (tx fs)), none] H5 := by
    intro fs okf hdf
    have fl := okf.le
    refine wb_cons <| ws_ret <| we_tup <| wa_cons <| we_str <| wa_cons <| we_var 7 rfl <| wa_cons <| we_join <| we_str ⟨_, rfl, we_blt (cr_sortedTx rfl) (T.fr f_sorted) (by decide +kernel) <| wa_cons <| we_var 8 rfl <| wa_nil ⟨_, rfl, by rw [tx_size]; exact Nat.lt_of_le_of_lt fl (by decide), fun ns L H6 pm srt hl s6 el => ?_⟩⟩
    rw [signs_tx] at pm
    obtain ⟨fs', rfl, pe⟩ := perm_map_inv pm
    have okf' := okf.perm pe
    have fl' := okf'.le
    refine ⟨L, fs'.map dg, rfl, SqL.of el, by rw [sum_dg, e0]; omega, ?_⟩
    rw [join_dg]
    refine wa_nil ⟨by show 3 ≤ sizeLine; decide, fun z H7 hz7 s7 e7 => ?_⟩
    exact q z (.speeds tk fs') H7 (But.trans b05 (But.same (Same.trans s6 s7))) (bg5.mono (Same.trans s6 s7)) e7 ⟨d, hd, pe.mem_iff.mpr hdf⟩ (fun R hR => ⟨by rw [hR]; exact htk, okf'⟩)
  refine wb_cons <| ws_if <| wt_cmp op_notIn_sign <| we_ix ix_str <| we_var 2 rfl <| we_var 7 rfl ⟨_, _, _, rfl, rfl, lsz, at_tx, we_var 8 rfl ⟨_, _, rfl, rfl, _, rfl, ?_⟩⟩
  rw [tx_mem]
  by_cases hm : d ∈ es
  · rw [decide_eq_true hm]
    exact iteF <| wb_nil <| last es ⟨nd, es10, by cases es with | nil => exact absurd rfl ne | cons a b => exact Nat.succ_le_succ (Nat.zero_le _)⟩ hm
  · rw [decide_eq_false hm]
    refine iteT <| wb_cons <| ws_set 8 (we_op op_add_str <| we_var 8 rfl <| we_ix ix_str <| we_var 2 rfl <| we_var 7 rfl ⟨_, _, _, rfl, rfl, lsz, at_tx, _, _, rfl, rfl, by rw [tx_len]; show es.length + 1 ≤ sizeLine; exact Nat.le_trans (Nat.succ_le_succ esl) (by decide), ?_⟩) sc_law_true_fact.nd
    have ea : tx es ++ (⟨#[48 + d]⟩ : Str) = tx (es ++ [d]) := by
      show (⟨((es.map (48 + ·)).toArray) ++ #[48 + d]⟩ : Str) = ⟨((es ++ [d]).map (48 + ·)).toArray⟩
      congr 1
      rw [List.map_append]
      simp
    show WB _ _ _ (List.set _ 8 (some (V.str (tx es ++ (⟨#[48 + d]⟩ : Str))))) _
    rw [ea]
    refine wb_nil <| last (es ++ [d]) ⟨?_, ?_, by rw [List.length_append]; exact Nat.succ_le_succ (Nat.zero_le _)⟩ (List.mem_append_right _ (List.mem_singleton.mpr rfl))
    · exact List.nodup_append.mpr ⟨nd, List.nodup_cons.mpr ⟨(fun h => nomatch h), List.nodup_nil⟩, fun a ha b hb => by
        rw [List.mem_singleton.mp hb]
        intro z
        rw [z] at ha
        exact hm ha⟩
    · intro x hx
      rcases List.mem_append.mp hx with h | h
      · exact es10 x h
      · rw [List.mem_singleton.mp h]
        exact dd10
end
end Cab
/-! text CabU10 -/
set_option Elab.async false
set_option linter.all false
set_option maxRecDepth 100000
set_option maxHeartbeats 4000000
namespace Cab
open PySem PySem.Spec PyProof.Rows L2 He
open LamX (CodeO TabS Tabs ExtN TabB lam_make2 run_ofS)
theorem Tabs.butL {T0 : List (Addr × PySem.Str)} {p : Addr} {xs : List V} {H H' : Hp} (t : Tabs T0 H) (b : But p H H') (hp : H p = some (.lst xs)) : Tabs T0 H' := fun q hq => by
  obtain ⟨ps, h1, h2, h3⟩ := t q hq
  refine ⟨ps, b _ _ h1 (ne_of h1 hp (by intro z; cases z)), h2, fun pos cv hc => ?_⟩
  obtain ⟨c, e1, e2⟩ := h3 pos cv hc
  exact ⟨c, e1, b _ _ e2 (ne_of e2 hp (by unfold CodeO; intro z; cases z))⟩
theorem ButN.skip {p D : Addr} {H H1 H2 : Hp} (b : ButN p H H1) (n : H D = none) (c : But D H1 H2) : ButN p H H2 := fun a o h ne nt => c _ _ (b _ _ h ne nt) (ne_of_none h n)
theorem RecAt.ne {K : PySem.W.Frag} {H : Hp} {p : Addr} {R : Rec} (h : RecAt K H p R) : H p ≠ none := fun z => by
  obtain ⟨f, h⟩ := h
  obtain ⟨dx, m, t, qs, h1, _⟩ := h.ex
  rw [z] at h1
  cases h1
section
variable {X : Cx} {scope : Scope} {elt tg : Expr} {vs : List Nat} {σ : L2.St} {J : It} {n : Nat} {G : Hp → Prop} {Y : Nat → Hp → V → Hp → Prop} {H1 : Hp} {Q : VK}
/-- the parts of a record: what is left by each fact of a list -/
theorem lcLeft {K : PySem.W.Frag} {p : Addr} {R : Rec} (F : Nat → Fact) (wk : Walk J n G Y) (hY : ∀ i H x H', Y i H x H' → H' = H) (hz : n ≤ 1000000) (hG : ∀ H', ButN p H1 H' → G H') (hT : Tabs (Tl K) H1) (hR : RecAt K H1 p R)
    (he : ∀ i x H, i < n → Tabs (Tl K) H → RecAt K H p R → Y i H x H → AB X scope fun Z => WG Z tg x (wipe σ vs) H fun σ2 H2 => wipe σ2 vs = wipe σ vs ∧ AB X scope fun Z => WE Z elt σ2 H2 fun y H4 => (∃ f', FactEq (F i) f' ∧ y = .int (R.add f').howMany) ∧ ButN p H H4 ∧ Tabs (Tl K) H4 ∧ RecAt K H4 p R)
    (done : ∀ D (ns : List Int) H', ButN p H1 H' → Tabs (Tl K) H' → RecAt K H' p R → ns.length = n → (∀ j v, ns[j]? = some v → ∃ f', FactEq (F j) f' ∧ v = (R.add f').howMany) → H' D = some (.lst (ns.map V.int)) → Q (.ref D) H') : LcR X scope elt tg [] vs σ J H1 Q := by
  refine lcG (fun i acc H' => ButN p H1 H' ∧ Tabs (Tl K) H' ∧ RecAt K H' p R ∧ ∃ ns : List Int, acc = ns.map V.int ∧ ns.length = i ∧ ∀ j v, ns[j]? = some v → ∃ f', FactEq (F j) f' ∧ v = (R.add f').howMany) wk hY hz (fun i acc H' z => hG H' z.1) (fun D H' hD s' e => ⟨ButN.of s', hT.ext s', hR.mono s', [], rfl, rfl, fun j v h => by cases h⟩) ?_ ?_
  · rintro i acc x H D hD hi hacc ⟨b, t, r, ns, rfl, nl, hn⟩ hDl y
    have k := he i x H hi t r y
    have nDp : D ≠ p := fun z => hR.ne (by rw [← z]; exact hD)
    intro s0 H0 C cl fp pins s u I' r'
    refine thn (k s0 H0 C cl fp pins s u I' r') fun _ s2 ⟨σ2, H2, I2, hw, k⟩ => ⟨σ2, H2, I2, hw, ?_⟩
    refine fun s0 H0 C cl fp => WE.mono (k s0 H0 C cl fp) fun y H4 ⟨⟨f', fe, ey⟩, b4, t4, r4⟩ => ?_
    have hD4 := b4 _ _ hDl nDp (by intro _ z; cases z)
    refine ⟨hD4, fun H5 b5 e5 => ⟨ButN.skip (ButN.trans b b4) hD b5, Tabs.butL t4 b5 hD4, RecAt.but b5 hD4 (fun z => z) r4, ns ++ [(R.add f').howMany], by rw [List.map_append, ey]; rfl, by rw [List.length_append, nl]; rfl, fun j v hv => ?_⟩⟩
    by_cases hj : j < ns.length
    · rw [List.getElem?_append_left hj] at hv
      exact hn j v hv
    · rw [List.getElem?_append_right (by omega)] at hv
      have e : j - ns.length = 0 := by
        have := (List.getElem?_eq_some_iff.mp hv).1
        simp only [List.length_cons, List.length_nil] at this
        omega
      rw [e] at hv
      have hv := Option.some.inj hv
      have ej : j = i := by omega
      subst ej
      exact ⟨f', fe, hv.symm⟩
  · rintro D acc H' hD hl ⟨b, t, r, ns, rfl, nl, hn⟩ hDl
    exact done D ns H' b t r nl hn hDl
end
end Cab
/-! text CabU11 -/
set_option Elab.async false
set_option linter.all false
set_option maxRecDepth 100000
set_option maxHeartbeats 4000000
namespace Cab
open PySem PySem.Spec PyProof.Rows L2 He
open LamX (CodeO TabS Tabs ExtN TabB lam_make2 run_ofS)
/-- the plain law of the parts -/
structure Parts (R : Rec) (m : Nat) : Prop where
  way0 : ∀ e ∈ R.behindAt m, 0 ≤ e.1.2 ∧ 0 ≤ e.1.1
  ways : ∀ ws : List Int, ws.Pairwise (· < ·) → (∀ x, x ∈ ws ↔ x ∈ (R.behindAt m).map fun e => e.1.2) → (ws.map fun w => (R.add (.passed m w)).howMany).sum = R.howMany ∧ ∀ w ∈ ws, (R.add (.passed m w)).howMany ≠ 0
  prices : ∀ ws : List Int, ws.Pairwise (· < ·) → (∀ x, x ∈ ws ↔ x ∈ (R.behindAt m).map fun e => R.met.price e.1.1) → (ws.map fun w => (R.add (.showed m w)).howMany).sum = R.howMany ∧ ∀ w ∈ ws, (R.add (.showed m w)).howMany ≠ 0
  speeds : m < R.ticks → ∀ es : List Nat, es.Nodup → (∀ x, x ∈ es ↔ x ∈ (R.openAt m).map fun e => e.2.1) → (es.map fun d => (R.add (.speeds m [d])).howMany).sum = R.howMany ∧ ∀ d ∈ es, (R.add (.speeds m [d])).howMany ≠ 0
  jumps : m < R.ticks → (R.add (.jumped m true)).howMany + (R.add (.jumped m false)).howMany = R.howMany
theorem FactEq.one {f : Fact} {t d : Nat} (h : FactEq (.speeds t [d]) f) : f = .speeds t [d] := by
  cases h with
  | rfl => rfl
  | sp t pe => rw [List.perm_singleton.mp pe]
theorem pw_nodup {l : List Int} (h : l.Pairwise (· < ·)) : l.Nodup := List.Pairwise.imp (fun h => by omega) h
theorem eq_map_of {α : Type} {g : α → Int} {xs : List α} {ns : List Int} (hl : ns.length = xs.length) (h : ∀ (j : Nat) (v : Int) (x : α), ns[j]? = some v → xs[j]? = some x → v = g x) : ns = xs.map g := by
  apply List.ext_getElem?
  intro j
  rw [List.getElem?_map]
  by_cases hj : j < ns.length
  · have h1 := h j _ _ (List.getElem?_eq_getElem hj) (List.getElem?_eq_getElem (by omega))
    rw [List.getElem?_eq_getElem hj, List.getElem?_eq_getElem (by omega : j < xs.length), h1]
    rfl
  · rw [List.getElem?_eq_none (by omega), List.getElem?_eq_none (by omega)]
    rfl
theorem inV0 {ns : List Int} (h : ∀ n ∈ ns, n ≠ 0) : inV (.int 0) (ns.map V.int) = false := by
  unfold inV
  rw [List.any_eq_false]
  intro y hy
  obtain ⟨n, hn, rfl⟩ := List.mem_map.mp hy
  have := h n hn
  show ¬ (n == (0 : Int)) = true
  rw [beq_iff_eq]
  exact this
theorem flat_ints (ns : List Int) : (ns.map V.int).all flatV = true := by
  rw [List.all_map, List.all_eq_true]
  intro x _
  rfl
section
variable {P : Program} {w : World} {K : PySem.W.Frag} {mg : Str → Option Value} {base : Heap}
def spParts (K : PySem.W.Frag) : Sp := sp3 fun a b c H Q => ∃ (p : Addr) (R : Rec) (m : Nat), a = .ref p ∧ RecAt K H p R ∧ okRec R ∧ R.facts.length ≤ 50 ∧ Tabs (Tl K) H ∧ b = .int (R.ticks : Nat) ∧ c = .int (m : Nat) ∧ m ≤ R.ticks ∧ Parts R m ∧
  ∀ H', ButN p H H' → Tabs (Tl K) H' → RecAt K H' p R → Q (.bl true) H'
theorem ok_law_parts_right (T : TX K mg) (TB : TabB base mg (cLam K) (tLam K)) : FnP P w K mg base d_law_parts_right 22 ["_law_record", "_law_ticks", "_law_mark"] (spParts K) [] := by
  refine fn3 (T.d D_law_parts_right) rfl sc_law_parts_right bd_law_parts_right fun cdv A outer s H Q E a b c hr h => ?_
  obtain ⟨p, R, m, rfl, hRR, ok, few, hT, rfl, rfl, hm, PT, q⟩ := h
  obtain ⟨f, hR⟩ := id hRR
  obtain ⟨dx, me, t, qs, h1, h2, h3, h4, h5⟩ := hR.ex
  have bl : (R.behindAt m).length ≤ 6561 := by
    have := behAt_len ok (R.ticks - m) (by omega)
    have e : R.ticks - (R.ticks - m) = m := by omega
    exact this
  have nd_le : ∀ {ws : List Int} {g : Pl × Int → Int}, ws.Pairwise (· < ·) → (∀ x, x ∈ ws ↔ x ∈ (R.behindAt m).map g) → ws.length ≤ 6561 := fun pw hw => by
    have := nodup_le _ _ (pw_nodup pw) fun x hx => (hw x).mp hx
    rw [List.length_map] at this
    omega
  refine wb_cons <| ws_set 3 (we_meth0 (ok_Record_how_many T) (T.c c_Record) (T.m m_Record_how_many) hr <| we_var 0 rfl ⟨p, dx, _, rfl, h1, by kernel_rfl, _, rfl, p, R, rfl, hRR, ok, fun H1 s1 => ?_⟩) sc_law_parts_right.nd
  -- ways
  refine wb_cons <| ws_setLc sc_law_parts_right 4 [("_law_way", 8)] <| wi_list <| we_meth (ok_Record_ways T) (T.c c_Record) (T.m m_Record_ways) hr <| we_var 0 rfl ⟨p, dx, _, rfl, s1 _ _ h1, by kernel_rfl, wa_cons <| we_var 2 rfl <| wa_nil ⟨_, _, rfl, p, R, m, rfl, hRR.mono s1, ok, rfl, hm, fun ws l H2 s2 pw hw el => ⟨l, ws.map V.int, rfl, SqL.of el, ?_⟩⟩⟩
  have s02 := Same.trans s1 s2
  have hwl := nd_le pw hw
  have hw0 : ∀ x ∈ ws, 0 ≤ x := fun x hx => by
    obtain ⟨e, he, rfl⟩ := List.mem_map.mp ((hw x).mp hx)
    exact (PT.way0 e he).1
  have nlp : ∀ {l : Addr} {xs : List V} {Hx : Hp}, RecAt K Hx p R → Hx l = some (.lst xs) → l ≠ p := fun ⟨f, h⟩ hl => by
    obtain ⟨dx, m, t, qs, h1, _⟩ := h.ex
    exact ne_of hl h1 (by intro z; cases z)
  have R2 := hRR.mono s02
  have T2 := hT.ext s02
  refine lcLeft (R := R) (p := p) (K := K) (fun i => .passed m (ws.getD i 0)) (walk_list (xs := ws.map V.int)) (fun _ _ _ _ y => y.1) (by rw [List.length_map]; omega) (fun H' b => SqL.of (b _ _ el (nlp R2 el) (by intro _ z; cases z))) T2 R2 ?_ ?_
  · rintro i x H3 hi t3 r3 ⟨_, hx⟩ s0 H0 C cl fp
    obtain ⟨x, hx2, rfl⟩ := map_get hx
    have e3 : ws.getD i 0 = x := by rw [List.getD_eq_getElem?_getD, hx2]; rfl
    rw [e3]
    refine wg_name 8 ⟨rfl, fun s0 H0 C cl fp => ?_⟩ sc_law_parts_right.nd
    exact we_call (ok_law_left_by T TB) (T.g g_law_left_by) hr <| wa_cons <| we_var 0 rfl <| wa_cons <| we_tup <| wa_cons <| we_str <| wa_cons <| we_var 2 rfl <| wa_cons <| we_var 8 rfl <| wa_nil ⟨by show 3 ≤ sizeLine; decide, fun z H5 hz s5 e5 => wa_nil ⟨_, _, rfl, p, z, R, .passed m x, rfl, rfl, r3.mono s5, ok, few, e5, ⟨hm, hw0 x (List.mem_of_getElem? hx2)⟩, t3.ext s5, fun f' H6 fe b6 t6 r6 => ⟨⟨f', fe, rfl⟩, ButN.trans (ButN.of s5) b6, t6, r6⟩⟩⟩
  rintro D1 ns1 H3 b3 t3 r3 nl1 hn1 hD1
  rw [List.length_map] at nl1
  have en1 : ns1 = ws.map fun w => (R.add (.passed m w)).howMany := eq_map_of nl1 fun j v x hv hx => by
    obtain ⟨f', fe, e⟩ := hn1 j v hv
    have e3 : ws.getD j 0 = x := by rw [List.getD_eq_getElem?_getD, hx]; rfl
    rw [e3] at fe
    cases fe
    exact e
  obtain ⟨sw, nw⟩ := PT.ways ws pw hw
  subst en1
  clear hn1 hw0 el
  -- prices
  obtain ⟨f3, hR3⟩ := id r3
  obtain ⟨dx3, me3, t3', qs3, h13, _⟩ := hR3.ex
  refine wb_cons <| ws_setLc sc_law_parts_right 5 [("_law_price", 9)] <| wi_list <| we_meth (ok_Record_prices T) (T.c c_Record) (T.m m_Record_prices) hr <| we_var 0 rfl ⟨p, dx3, _, rfl, h13, by kernel_rfl, wa_cons <| we_var 2 rfl <| wa_nil ⟨_, _, rfl, p, R, m, rfl, r3, ok, rfl, hm, fun ps l H4 s4 pw2 hp2 el => ⟨l, ps.map V.int, rfl, SqL.of el, ?_⟩⟩⟩
  have hpl := nd_le pw2 hp2
  have hp0 : ∀ x ∈ ps, 0 ≤ x := fun x hx => by
    obtain ⟨e, he, rfl⟩ := List.mem_map.mp ((hp2 x).mp hx)
    exact price0 ok.met _
  have R4 := r3.mono s4
  have T4 := t3.ext s4
  refine lcLeft (R := R) (p := p) (K := K) (fun i => .showed m (ps.getD i 0)) (walk_list (xs := ps.map V.int)) (fun _ _ _ _ y => y.1) (by rw [List.length_map]; omega) (fun H' b => SqL.of (b _ _ el (nlp R4 el) (by intro _ z; cases z))) T4 R4 ?_ ?_
  · rintro i x H5 hi t5 r5 ⟨_, hx⟩ s0 H0 C cl fp
    obtain ⟨x, hx2, rfl⟩ := map_get hx
    have e3 : ps.getD i 0 = x := by rw [List.getD_eq_getElem?_getD, hx2]; rfl
    rw [e3]
    refine wg_name 9 ⟨rfl, fun s0 H0 C cl fp => ?_⟩ sc_law_parts_right.nd
    exact we_call (ok_law_left_by T TB) (T.g g_law_left_by) hr <| wa_cons <| we_var 0 rfl <| wa_cons <| we_tup <| wa_cons <| we_str <| wa_cons <| we_var 2 rfl <| wa_cons <| we_var 9 rfl <| wa_nil ⟨by show 3 ≤ sizeLine; decide, fun z H6 hz s6 e6 => wa_nil ⟨_, _, rfl, p, z, R, .showed m x, rfl, rfl, r5.mono s6, ok, few, e6, ⟨hm, hp0 x (List.mem_of_getElem? hx2)⟩, t5.ext s6, fun f' H7 fe b7 t7 r7 => ⟨⟨f', fe, rfl⟩, ButN.trans (ButN.of s6) b7, t7, r7⟩⟩⟩
  rintro D2 ns2 H5 b5 t5 r5 nl2 hn2 hD2
  rw [List.length_map] at nl2
  have en2 : ns2 = ps.map fun w => (R.add (.showed m w)).howMany := eq_map_of nl2 fun j v x hv hx => by
    obtain ⟨f', fe, e⟩ := hn2 j v hv
    have e3 : ps.getD j 0 = x := by rw [List.getD_eq_getElem?_getD, hx]; rfl
    rw [e3] at fe
    cases fe
    exact e
  obtain ⟨sp, np⟩ := PT.prices ps pw2 hp2
  subst en2
  clear hn2 hp0 el
  have hD1' := b5 _ _ (s4 _ _ hD1) (nlp r3 hD1) (by intro _ z; cases z)
  have b05 : ButN p H H5 := ButN.trans (ButN.of s02) (ButN.trans b3 (ButN.trans (ButN.of s4) b5))
  -- the first test
  refine wb_cons <| ws_if <| wt_W <| ww_or <| wt_cmp op_ne <| we_blt (cr_sum rfl) (T.fr f_sum) (by decide +kernel) <| wa_cons <| we_var 4 rfl <| wa_nil ⟨D1, _, rfl, SqL.of hD1', we_var 3 rfl ⟨rfl, _, rfl, ?_⟩⟩
  rw [sw, decide_eq_true (rfl : V.int R.howMany = V.int R.howMany)]
  refine iteF <| ww_or <| wt_cmp op_ne <| we_blt (cr_sum rfl) (T.fr f_sum) (by decide +kernel) <| wa_cons <| we_var 5 rfl <| wa_nil ⟨D2, _, rfl, SqL.of hD2, we_var 3 rfl ⟨rfl, _, rfl, ?_⟩⟩
  rw [sp, decide_eq_true (rfl : V.int R.howMany = V.int R.howMany)]
  refine iteF <| ww_or1 <| wt_cmp op_in_seq <| we_int <| we_op op_cat <| we_var 4 rfl <| we_var 5 rfl ⟨D1, D2, _, _, rfl, rfl, hD1', hD2, ?_, fun D3 hD3 => ?_⟩
  · simp only [List.length_map]
    exact sz_le (by omega)
  have s6 : Same H5 (upd H5 D3 (.lst ((ws.map fun w => (R.add (.passed m w)).howMany).map V.int ++ (ps.map fun w => (R.add (.showed m w)).howMany).map V.int))) := Same.new hD3
  have e6 : (upd H5 D3 (.lst ((ws.map fun w => (R.add (.passed m w)).howMany).map V.int ++ (ps.map fun w => (R.add (.showed m w)).howMany).map V.int))) D3 = some (.lst (((ws.map fun w => (R.add (.passed m w)).howMany) ++ (ps.map fun w => (R.add (.showed m w)).howMany)).map V.int)) := by rw [List.map_append]; exact upd_same
  generalize upd H5 D3 _ = H6 at s6 e6
  refine ⟨D3, _, rfl, .inl (SqL.of e6), rfl, flat_ints _, _, rfl, ?_⟩
  rw [inV0 (fun n hn => by
    rcases List.mem_append.mp hn with h | h
    · obtain ⟨x, hx, rfl⟩ := List.mem_map.mp h
      exact nw x hx
    · obtain ⟨x, hx, rfl⟩ := List.mem_map.mp h
      exact np x hx)]
  have b06 := ButN.trans b05 (ButN.of s6)
  have r6 := r5.mono s6
  have t6 := t5.ext s6
  refine iteF <| wb_nil <| wb_cons <| ws_if <| wt_cmp op_eq <| we_var 2 rfl <| we_var 1 rfl ⟨rfl, _, rfl, ?_⟩
  rw [dec_intV]
  by_cases hmt : ((m : Nat) : Int) = ((R.ticks : Nat) : Int)
  · rw [decide_eq_true hmt]
    exact iteT <| wb_cons <| ws_ret <| we_bl <| q H6 b06 t6 r6
  rw [decide_eq_false hmt]
  have hmlt : m < R.ticks := by omega
  obtain ⟨f6, hR6⟩ := id r6
  obtain ⟨dx6, me6, t6', qs6, h16, _⟩ := hR6.ex
  -- speeds
  refine iteF <| wb_nil <| wb_cons <| ws_setLc sc_law_parts_right 6 [("_law_digit", 10)] <| wi_str <| we_meth (ok_Record_speeds T) (T.c c_Record) (T.m m_Record_speeds) hr <| we_var 0 rfl ⟨p, dx6, _, rfl, h16, by kernel_rfl, wa_cons <| we_var 2 rfl <| wa_nil ⟨_, _, rfl, p, R, m, rfl, r6, ok, rfl, hmlt, fun es H7 s7 nd hes es10 => ⟨_, rfl, ?_⟩⟩⟩
  have esz : (tx es).cps.size = es.length := tx_size es
  have esl : es.length ≤ 10 := by
    have := nodup_le es (List.range 10) nd fun x hx => List.mem_range.mpr (es10 x hx)
    rw [List.length_range] at this
    exact this
  refine lcLeft (R := R) (p := p) (K := K) (fun i => .speeds m [es.getD i 0]) walk_str (fun _ _ _ _ y => y.1) (by rw [esz]; omega) (fun _ _ => trivial) (t6.ext s7) (r6.mono s7) ?_ ?_
  · rintro i x H8 hi t8 r8 ⟨_, c, hc, rfl⟩ s0 H0 C cl fp
    obtain ⟨n, hn, ec, ed⟩ := text_at es hi hc
    have e3 : es.getD i 0 = n := by rw [List.getD_eq_getElem?_getD, hn]; rfl
    have n10 := es10 n (List.mem_of_getElem? hn)
    rw [e3, ed]
    refine wg_name 10 ⟨rfl, fun s0 H0 C cl fp => ?_⟩ sc_law_parts_right.nd
    exact we_call (ok_law_left_by T TB) (T.g g_law_left_by) hr <| wa_cons <| we_var 0 rfl <| wa_cons <| we_tup <| wa_cons <| we_str <| wa_cons <| we_var 2 rfl <| wa_cons <| we_var 10 rfl <| wa_nil ⟨by show 3 ≤ sizeLine; decide, fun z H9 hz s9 e9 => wa_nil ⟨_, _, rfl, p, z, R, .speeds m [n], rfl, rfl, r8.mono s9, ok, few, e9, ⟨hmlt, ⟨List.nodup_cons.mpr ⟨(fun h => nomatch h), List.nodup_nil⟩, (fun d hd => by rw [List.mem_singleton.mp hd]; exact n10), Nat.le_refl 1⟩⟩, t8.ext s9, fun f' H7 fe b7 t7 r7 => ⟨⟨f', fe, rfl⟩, ButN.trans (ButN.of s9) b7, t7, r7⟩⟩⟩
  rintro D4 ns4 H8 b8 t8 r8 nl4 hn4 hD4
  rw [esz] at nl4
  have en4 : ns4 = es.map fun d => (R.add (.speeds m [d])).howMany := eq_map_of nl4 fun j v x hv hx => by
    obtain ⟨f', fe, e⟩ := hn4 j v hv
    have e3 : es.getD j 0 = x := by rw [List.getD_eq_getElem?_getD, hx]; rfl
    rw [e3] at fe
    rw [fe.one] at e
    exact e
  obtain ⟨se, ne⟩ := PT.speeds hmlt es nd hes
  subst en4
  clear hn4
  -- jumps
  refine wb_cons <| ws_setLc sc_law_parts_right 7 [("_law_told", 11)] <| wi_list <| we_lst <| wa_cons <| we_bl <| wa_cons <| we_bl <| wa_nil ⟨by show 2 ≤ sizeLine; decide, fun L H9 hL s9 eL => ⟨L, _, rfl, SqL.of eL, ?_⟩⟩
  have r9 := r8.mono s9
  refine lcLeft (R := R) (p := p) (K := K) (fun i => .jumped m (([true, false] : List Bool).getD i false)) (walk_list (xs := ([true, false] : List Bool).map V.bl)) (fun _ _ _ _ y => y.1) (by decide) (fun H' b => SqL.of (b _ _ eL (nlp r9 eL) (by intro _ z; cases z))) (t8.ext s9) r9 ?_ ?_
  · rintro i x H10 hi t10 r10 ⟨_, hx⟩ s0 H0 C cl fp
    obtain ⟨x, hx2, rfl⟩ := map_get hx
    have e3 : ([true, false] : List Bool).getD i false = x := by rw [List.getD_eq_getElem?_getD, hx2]; rfl
    rw [e3]
    refine wg_name 11 ⟨rfl, fun s0 H0 C cl fp => ?_⟩ sc_law_parts_right.nd
    exact we_call (ok_law_left_by T TB) (T.g g_law_left_by) hr <| wa_cons <| we_var 0 rfl <| wa_cons <| we_tup <| wa_cons <| we_str <| wa_cons <| we_var 2 rfl <| wa_cons <| we_var 11 rfl <| wa_nil ⟨by show 3 ≤ sizeLine; decide, fun z H6 hz s6 e6 => wa_nil ⟨_, _, rfl, p, z, R, .jumped m x, rfl, rfl, r10.mono s6, ok, few, e6, hmlt, t10.ext s6, fun f' H7 fe b7 t7 r7 => ⟨⟨f', fe, rfl⟩, ButN.trans (ButN.of s6) b7, t7, r7⟩⟩⟩
  rintro D5 ns5 H10 b10 t10 r10 nl5 hn5 hD5
  have en5 : ns5 = ([true, false] : List Bool).map fun b => (R.add (.jumped m b)).howMany := eq_map_of nl5 fun j v x hv hx => by
    obtain ⟨f', fe, e⟩ := hn5 j v hv
    have e3 : ([true, false] : List Bool).getD j false = x := by rw [List.getD_eq_getElem?_getD, hx]; rfl
    rw [e3] at fe
    cases fe
    exact e
  subst en5
  have b610 : ButN p H6 H10 := ButN.trans (ButN.of s7) (ButN.trans b8 (ButN.trans (ButN.of s9) b10))
  have hD4' := b10 _ _ (s9 _ _ hD4) (nlp r9 (s9 _ _ hD4)) (by intro _ z; cases z)
  refine wb_cons <| ws_ret <| we_and <| we_cmp op_eq <| we_blt (cr_sum rfl) (T.fr f_sum) (by decide +kernel) <| wa_cons <| we_var 6 rfl <| wa_nil ⟨D4, _, rfl, SqL.of hD4', we_var 3 rfl ⟨rfl, _, rfl, ?_⟩⟩
  rw [se, decide_eq_true (rfl : V.int R.howMany = V.int R.howMany)]
  refine iteT <| we_and <| we_cmp op_eq <| we_blt (cr_sum rfl) (T.fr f_sum) (by decide +kernel) <| wa_cons <| we_var 7 rfl <| wa_nil ⟨D5, _, rfl, SqL.of hD5, we_var 3 rfl ⟨rfl, _, rfl, ?_⟩⟩
  have ej : (([true, false] : List Bool).map fun b => (R.add (.jumped m b)).howMany).sum = R.howMany := by
    have := PT.jumps hmlt
    show _ + (_ + 0) = _
    rw [Int.add_zero]
    exact this
  rw [ej, decide_eq_true (rfl : V.int R.howMany = V.int R.howMany)]
  refine iteT <| we_one <| we_cmp op_notIn_seq <| we_int <| we_var 6 rfl ⟨D4, _, rfl, .inl (SqL.of hD4'), rfl, flat_ints _, ?_⟩
  have ei := inV0 (ns := es.map fun d => (R.add (.speeds m [d])).howMany) (fun n hn => by
    obtain ⟨x, hx, rfl⟩ := List.mem_map.mp hn
    exact ne x hx)
  show Q (V.bl (!inV (.int 0) _)) H10
  rw [ei]
  exact q H10 (ButN.trans b06 b610) t10 r10
end
end Cab
/-! text CabY1 -/
set_option Elab.async false
set_option linter.all false
set_option maxRecDepth 100000
set_option maxHeartbeats 2000000
namespace Cab
/-! ### the trips of a record -/
def Met.path (M : Met) (p : Pl) (ds : List Nat) : Pl := ds.foldl M.next p
def Rec.suf (R : Rec) : Nat → Pl → Nat → List (List Nat)
  | _, _, 0 => [[]]
  | t, p, n + 1 => (R.steps t p).flatMap fun s => (R.suf (t + 1) s.2 n).map (s.1 :: ·)
def Rec.trips (R : Rec) : List (List Nat) := R.begins.flatMap fun p => R.suf 0 p R.ticks
def Rec.okD (R : Rec) (t : Nat) (p : Pl) (d : Nat) : Bool := decide (d ∈ R.left t) && R.goes t p d
def Rec.okF (R : Rec) : Nat → Pl → List Nat → Bool
  | _, _, [] => true
  | t, p, d :: ds => R.okD t p d && R.okF (t + 1) (R.met.next p d) ds
def Fact.okCut (t d : Nat) : Fact → Bool
  | .speeds t' ds => !(decide (t' = t)) || decide (d ∈ ds)
  | _ => true
def Fact.ok1 (f : Fact) (M : Met) (t : Nat) (p : Pl) (d : Nat) : Bool := f.okCut t d && (f.okIn M t p.1 (M.next p d).1 && f.okAt M (t + 1) (M.next p d))
def Fact.okF (f : Fact) (M : Met) : Nat → Pl → List Nat → Bool
  | _, _, [] => true
  | t, p, d :: ds => f.ok1 M t p d && f.okF M (t + 1) (M.next p d) ds
def Fact.holds (f : Fact) (M : Met) (ds : List Nat) : Bool := f.okAt M 0 (0, 0) && f.okF M 0 (0, 0) ds
theorem cut_fil (f : Fact) (t : Nat) (l : List Nat) : f.cut t l = l.filter fun d => f.okCut t d := by
  cases f with
  | speeds t' ds =>
    show (if t' = t then l.filter (fun d => decide (d ∈ ds)) else l) = l.filter fun d => !(decide (t' = t)) || decide (d ∈ ds)
    by_cases h : t' = t
    · rw [if_pos h, decide_eq_true h]; rfl
    · rw [if_neg h, decide_eq_false h]
      exact (List.filter_eq_self.mpr fun _ _ => rfl).symm
  | _ => exact (List.filter_eq_self.mpr fun _ _ => rfl).symm
theorem add_left (R : Rec) (f : Fact) (t : Nat) : (R.add f).left t = (R.left t).filter fun d => f.okCut t d := by
  show (R.facts ++ [f]).foldl _ _ = _
  rw [List.foldl_append]
  exact cut_fil f t _
theorem and4 : ∀ a b c d : Bool, ((a && (c && true)) && (b && (d && true))) = ((a && b) && (c && d)) := by decide
theorem add_goes (R : Rec) (f : Fact) (t : Nat) (p : Pl) (d : Nat) : (R.add f).goes t p d = (R.goes t p d && (f.okIn R.met t p.1 (R.met.next p d).1 && f.okAt R.met (t + 1) (R.met.next p d))) := by
  show ((R.facts ++ [f]).all _ && (R.facts ++ [f]).all _) = _
  rw [List.all_append, List.all_append]
  exact and4 _ _ _ _
theorem add_steps (R : Rec) (f : Fact) (t : Nat) (p : Pl) : (R.add f).steps t p = (R.steps t p).filter fun s => f.ok1 R.met t p s.1 := by
  show (((R.add f).left t).filter _).map _ = (((R.left t).filter _).map _).filter _
  rw [List.filter_map, List.filter_filter, add_left, List.filter_filter]
  congr 1
  apply List.filter_congr
  intro d _
  rw [add_goes]
  show _ = (f.ok1 R.met t p d && R.goes t p d)
  unfold Fact.ok1
  cases f.okCut t d <;> cases R.goes t p d <;> simp
theorem mem_steps {R : Rec} {t : Nat} {p : Pl} {s : Nat × Pl} : s ∈ R.steps t p ↔ R.okD t p s.1 = true ∧ s.2 = R.met.next p s.1 := by
  unfold Rec.steps Rec.okD
  rw [List.mem_map, Bool.and_eq_true, decide_eq_true_eq]
  constructor
  · rintro ⟨d, hd, rfl⟩
    exact ⟨List.mem_filter.mp hd, rfl⟩
  · rintro ⟨h1, h2⟩
    exact ⟨s.1, List.mem_filter.mpr h1, by rw [← h2]⟩
theorem fil_flatMap {α β : Type} (l : List α) (g : α → List β) (b : β → Bool) : (l.flatMap g).filter b = l.flatMap fun a => (g a).filter b := by
  induction l with
  | nil => rfl
  | cons a l ih => rw [List.flatMap_cons, List.filter_append, ih, List.flatMap_cons]
theorem flatMap_fil {α β : Type} (l : List α) (g : α → List β) (b : α → Bool) : (l.filter b).flatMap g = l.flatMap fun a => if b a = true then g a else [] := by
  induction l with
  | nil => rfl
  | cons a l ih =>
    rw [List.flatMap_cons]
    by_cases h : b a = true
    · rw [List.filter_cons_of_pos h, if_pos h, List.flatMap_cons, ih]
    · rw [List.filter_cons_of_neg h, if_neg h, List.nil_append, ih]
theorem flatMap_congr' {α β : Type} {l : List α} {g h : α → List β} (e : ∀ a ∈ l, g a = h a) : l.flatMap g = l.flatMap h := by
  induction l with
  | nil => rfl
  | cons a l ih => rw [List.flatMap_cons, List.flatMap_cons, e a List.mem_cons_self, ih fun x hx => e x (List.mem_cons_of_mem _ hx)]
theorem add_suf (R : Rec) (f : Fact) : ∀ (n t : Nat) (p : Pl), (R.add f).suf t p n = (R.suf t p n).filter fun ds => f.okF R.met t p ds
  | 0, t, p => rfl
  | n + 1, t, p => by
    show ((R.add f).steps t p).flatMap _ = ((R.steps t p).flatMap _).filter _
    rw [add_steps, flatMap_fil, fil_flatMap]
    apply flatMap_congr'
    intro s hs
    have e2 := (mem_steps.mp hs).2
    show (if f.ok1 R.met t p s.1 = true then ((R.add f).suf (t + 1) s.2 n).map (s.1 :: ·) else []) = ((R.suf (t + 1) s.2 n).map (s.1 :: ·)).filter _
    rw [List.filter_map, add_suf R f n (t + 1) s.2]
    by_cases h : f.ok1 R.met t p s.1 = true
    · rw [if_pos h]
      congr 1
      apply List.filter_congr
      intro ds _
      show f.okF R.met (t + 1) s.2 ds = (f.ok1 R.met t p s.1 && f.okF R.met (t + 1) (R.met.next p s.1) ds)
      rw [h, ← e2]
      rfl
    · rw [if_neg h]
      have : (R.suf (t + 1) s.2 n).filter ((fun ds => f.okF R.met t p ds) ∘ fun x => s.1 :: x) = [] := by
        rw [List.filter_eq_nil_iff]
        intro ds _
        show ¬ (f.ok1 R.met t p s.1 && f.okF R.met (t + 1) (R.met.next p s.1) ds) = true
        rw [Bool.and_eq_true]
        exact fun z => h z.1
      rw [this]
      rfl
theorem add_trips (R : Rec) (f : Fact) : (R.add f).trips = R.trips.filter fun ds => f.holds R.met ds := by
  unfold Rec.trips Rec.begins
  have e : (R.add f).agreesAt 0 (0, 0) = (R.agreesAt 0 (0, 0) && f.okAt R.met 0 (0, 0)) := by
    show (R.facts ++ [f]).all _ = _
    rw [List.all_append]
    show (_ && (f.okAt R.met 0 (0, 0) && true)) = _
    rw [Bool.and_true]
    rfl
  rw [e]
  cases h : R.agreesAt 0 (0, 0) with
  | false => simp
  | true =>
    simp only [Bool.true_and, if_true, List.flatMap_cons, List.flatMap_nil, List.append_nil]
    show (if f.okAt R.met 0 (0, 0) = true then [((0 : Int), (0 : Int))] else []).flatMap (fun p => (R.add f).suf 0 p R.ticks) = _
    by_cases h2 : f.okAt R.met 0 (0, 0) = true
    · rw [if_pos h2, List.flatMap_cons, List.flatMap_nil, List.append_nil, add_suf]
      apply List.filter_congr
      intro ds _
      show _ = (f.okAt R.met 0 (0, 0) && _)
      rw [h2]
      rfl
    · rw [if_neg h2]
      symm
      show List.filter _ _ = []
      rw [List.filter_eq_nil_iff]
      intro ds _
      show ¬ (f.okAt R.met 0 (0, 0) && _) = true
      rw [Bool.and_eq_true]
      exact fun z => h2 z.1
/-! ### who is a trip -/
theorem mem_suf {R : Rec} : ∀ {n t : Nat} {p : Pl} {ds : List Nat}, ds ∈ R.suf t p n ↔ ds.length = n ∧ R.okF t p ds = true
  | 0, t, p, ds => by
    show ds ∈ [[]] ↔ _
    rw [List.mem_singleton]
    constructor
    · rintro rfl
      exact ⟨rfl, rfl⟩
    · exact fun h => List.length_eq_zero_iff.mp h.1
  | n + 1, t, p, ds => by
    show ds ∈ (R.steps t p).flatMap _ ↔ _
    rw [List.mem_flatMap]
    constructor
    · rintro ⟨s, hs, h⟩
      obtain ⟨ds', h2, rfl⟩ := List.mem_map.mp h
      obtain ⟨h3, h4⟩ := mem_suf.mp h2
      obtain ⟨h5, h6⟩ := mem_steps.mp hs
      refine ⟨by rw [List.length_cons, h3], ?_⟩
      show (R.okD t p s.1 && R.okF (t + 1) (R.met.next p s.1) ds') = true
      rw [h5, ← h6, h4]
      rfl
    · rintro ⟨h1, h2⟩
      match ds, h1, h2 with
      | d :: ds', h1, h2 =>
        have h2 : (R.okD t p d && R.okF (t + 1) (R.met.next p d) ds') = true := h2
        rw [Bool.and_eq_true] at h2
        exact ⟨(d, R.met.next p d), mem_steps.mpr ⟨h2.1, rfl⟩, List.mem_map.mpr ⟨ds', mem_suf.mpr ⟨Nat.succ.inj h1, h2.2⟩, rfl⟩⟩
theorem okF_app {R : Rec} : ∀ (ds es : List Nat) (t : Nat) (p : Pl), R.okF t p (ds ++ es) = (R.okF t p ds && R.okF (t + ds.length) (R.met.path p ds) es)
  | [], es, t, p => by
    show _ = (true && _)
    rw [Bool.true_and]
    rfl
  | d :: ds, es, t, p => by
    show (R.okD t p d && R.okF (t + 1) (R.met.next p d) (ds ++ es)) = ((R.okD t p d && R.okF (t + 1) (R.met.next p d) ds) && _)
    rw [okF_app ds es, Bool.and_assoc]
    have : t + 1 + ds.length = t + (d :: ds).length := by rw [List.length_cons]; omega
    rw [this]
    rfl
theorem mem_trips {R : Rec} {ds : List Nat} : ds ∈ R.trips ↔ R.agreesAt 0 (0, 0) = true ∧ ds.length = R.ticks ∧ R.okF 0 (0, 0) ds = true := by
  unfold Rec.trips Rec.begins
  by_cases h : R.agreesAt 0 (0, 0) = true
  · rw [if_pos h, List.flatMap_cons, List.flatMap_nil, List.append_nil, mem_suf]
    exact ⟨fun z => ⟨h, z⟩, fun z => z.2⟩
  · rw [if_neg h]
    exact ⟨fun z => (nomatch z), fun z => absurd z.1 h⟩
theorem path_app (M : Met) (p : Pl) (ds es : List Nat) : M.path p (ds ++ es) = M.path (M.path p ds) es := by
  unfold Met.path
  rw [List.foldl_append]
/-! ### counted -/
def wsum (G : Pl → Int) (D : List (Pl × Int)) : Int := (D.map fun e => e.2 * G e.1).sum
theorem wsum_cons (G : Pl → Int) (e : Pl × Int) (D : List (Pl × Int)) : wsum G (e :: D) = e.2 * G e.1 + wsum G D := by
  unfold wsum
  rw [List.map_cons, List.sum_cons]
theorem wsum_old (G : Pl → Int) (k : Pl) (v : Int) : ∀ (D : List (Pl × Int)), (D.map (·.1)).Nodup → k ∈ D.map (·.1) → wsum G (D.map fun e => if e.1 = k then (e.1, (getD? D k).getD 0 + v) else e) = wsum G D + v * G k := by
  intro D
  suffices h : ∀ (u : Int) (D : List (Pl × Int)), (D.map (·.1)).Nodup → (k ∉ D.map (·.1) → wsum G (D.map fun e => if e.1 = k then (e.1, u) else e) = wsum G D) ∧ (∀ o, getD? D k = some o → wsum G (D.map fun e => if e.1 = k then (e.1, u) else e) = wsum G D + (u - o) * G k) by
    intro hn hk
    obtain ⟨o, ho⟩ := Option.isSome_iff_exists.mp (getD?_some.mpr hk)
    rw [(h _ D hn).2 o ho, ho]
    show _ + (o + v - o) * G k = _
    have : o + v - o = v := by omega
    rw [this]
  intro u D
  induction D with
  | nil => exact fun _ => ⟨fun _ => rfl, fun o ho => nomatch ho⟩
  | cons e D ih =>
    intro hn
    obtain ⟨h1, h2⟩ := List.nodup_cons.mp hn
    obtain ⟨i1, i2⟩ := ih h2
    have c := wsum_cons G
    constructor
    · intro hk
      have n1 : ¬ e.1 = k := fun z => hk (z ▸ List.mem_cons_self)
      have n2 : k ∉ D.map (·.1) := fun z => hk (List.mem_cons_of_mem _ z)
      rw [List.map_cons, c, c, i1 n2, if_neg n1]
    · intro o ho
      rw [getD?_cons] at ho
      rw [List.map_cons, c, c]
      by_cases z : e.1 = k
      · rw [if_pos z] at ho
        cases ho
        rw [i1 (fun q => h1 (by show e.1 ∈ _; rw [z]; exact q)), if_pos z]
        show u * G e.1 + _ = _
        rw [z, Int.sub_mul]
        omega
      · rw [if_neg z] at ho
        rw [i2 o ho, if_neg z]
        omega
theorem wsum_put (G : Pl → Int) (k : Pl) (v : Int) (D : List (Pl × Int)) (hn : (D.map (·.1)).Nodup) : wsum G (putD D k ((getD? D k).getD 0 + v)) = wsum G D + v * G k := by
  by_cases h : k ∈ D.map (·.1)
  · rw [putD_old h]
    exact wsum_old G k v D hn h
  · rw [putD_new h, getD?_none h]
    unfold wsum
    rw [List.map_append, List.sum_append]
    show _ + ((0 + v) * G k + 0) = _
    rw [Int.zero_add, Int.add_zero]
theorem wsum_addAll (G : Pl → Int) (k : Int) : ∀ (ss : List (Nat × Pl)) (now : List (Pl × Int)), (now.map (·.1)).Nodup → wsum G (addAll k now ss) = wsum G now + k * (ss.map fun s => G s.2).sum
  | [], now, _ => by
    show _ = _ + k * 0
    rw [Int.mul_zero, Int.add_zero]
    rfl
  | s :: ss, now, h => by
    show wsum G (addAll k (putD now s.2 _) ss) = _
    rw [wsum_addAll G k ss _ (putD_nodup _ _ h), wsum_put G s.2 k now h, List.map_cons, List.sum_cons, Int.mul_add]
    omega
theorem wsum_fold (R : Rec) (t : Nat) (G : Pl → Int) : ∀ (D now : List (Pl × Int)), (now.map (·.1)).Nodup → wsum G (D.foldl (fun now e => addAll e.2 now (R.steps t e.1)) now) = wsum G now + wsum (fun p => ((R.steps t p).map fun s => G s.2).sum) D
  | [], now, _ => by
    show wsum G now = wsum G now + 0
    rw [Int.add_zero]
  | e :: D, now, h => by
    rw [List.foldl_cons, wsum_fold R t G D _ (addAll_nodup _ _ _ h), wsum_addAll G e.2 _ now h]
    rw [wsum_cons]
    omega
def Rec.cnt (R : Rec) (t : Nat) (n : Nat) (p : Pl) : Int := ((R.suf t p n).length : Nat)
theorem cnt_succ (R : Rec) (t n : Nat) (p : Pl) : R.cnt t (n + 1) p = ((R.steps t p).map fun s => R.cnt (t + 1) n s.2).sum := by
  unfold Rec.cnt
  show ((((R.steps t p).flatMap _).length : Nat) : Int) = _
  generalize R.steps t p = l
  induction l with
  | nil => rfl
  | cons s l ih =>
    rw [List.flatMap_cons, List.length_append, List.map_cons, List.sum_cons, ← ih, List.length_map]
    omega
theorem wsum_ahead (R : Rec) : ∀ (t n : Nat), wsum (R.cnt t n) (R.aheadD t) = wsum (R.cnt 0 (t + n)) (R.aheadD 0)
  | 0, n => by rw [Nat.zero_add]
  | t + 1, n => by
    have e : t + 1 + n = t + (n + 1) := by omega
    rw [e, ← wsum_ahead R t (n + 1)]
    show wsum _ (R.aheadStep t (R.aheadD t)) = _
    unfold Rec.aheadStep
    rw [wsum_fold R t _ _ [] (by simp)]
    show 0 + _ = _
    rw [Int.zero_add]
    congr 1
    funext p
    exact (cnt_succ R t n p).symm
theorem howMany_len (R : Rec) : R.howMany = ((R.trips.length : Nat) : Int) := by
  have h := wsum_ahead R R.ticks 0
  have e1 : wsum (R.cnt R.ticks 0) (R.aheadD R.ticks) = R.howMany := by
    unfold wsum Rec.howMany
    congr 1
    apply List.map_congr_left
    intro e _
    show e.2 * 1 = e.2
    rw [Int.mul_one]
  rw [← e1, h]
  show wsum _ (R.begins.map fun p => (p, (1 : Int))) = _
  unfold Rec.trips Rec.begins
  by_cases h : R.agreesAt 0 (0, 0) = true
  · rw [if_pos h, List.flatMap_cons, List.flatMap_nil, List.append_nil]
    show 1 * R.cnt 0 (R.ticks + 0) (0, 0) + 0 = _
    rw [Int.one_mul, Int.add_zero]
    rfl
  · rw [if_neg h]
    rfl
end Cab
/-! text CabY2 -/
set_option Elab.async false
set_option linter.all false
set_option maxRecDepth 100000
set_option maxHeartbeats 2000000
namespace Cab
/-! ### the places that trips pass -/
theorem okF_take {R : Rec} {t : Nat} {p : Pl} {ds : List Nat} {k : Nat} (h : R.okF t p ds = true) (hk : k ≤ ds.length) : R.okF t p (ds.take k) = true ∧ R.okF (t + k) (R.met.path p (ds.take k)) (ds.drop k) = true := by
  have e := okF_app (R := R) (ds.take k) (ds.drop k) t p
  rw [List.take_append_drop, h, List.length_take, Nat.min_eq_left hk] at e
  exact Bool.and_eq_true_iff.mp e.symm
theorem okF_snoc {R : Rec} {t : Nat} {p : Pl} {ds : List Nat} {d : Nat} : R.okF t p (ds ++ [d]) = true ↔ R.okF t p ds = true ∧ R.okD (t + ds.length) (R.met.path p ds) d = true := by
  rw [okF_app, Bool.and_eq_true]
  show _ ∧ (R.okD _ _ d && true) = true ↔ _
  rw [Bool.and_true]
theorem path_snoc (M : Met) (p : Pl) (ds : List Nat) (d : Nat) : M.path p (ds ++ [d]) = M.next (M.path p ds) d := path_app M p ds [d]
theorem begins_mem {R : Rec} {q : Pl} : q ∈ R.begins ↔ R.agreesAt 0 (0, 0) = true ∧ q = (0, 0) := by
  unfold Rec.begins
  by_cases h : R.agreesAt 0 (0, 0) = true
  · rw [if_pos h, List.mem_singleton]
    exact ⟨fun z => ⟨h, z⟩, fun z => z.2⟩
  · rw [if_neg h]
    exact ⟨fun z => (nomatch z), fun z => absurd z.1 h⟩
theorem steps_to {R : Rec} {t : Nat} {p y : Pl} : y ∈ (R.steps t p).map (·.2) ↔ ∃ d, R.okD t p d = true ∧ y = R.met.next p d := by
  rw [List.mem_map]
  constructor
  · rintro ⟨s, hs, rfl⟩
    exact ⟨s.1, mem_steps.mp hs⟩
  · rintro ⟨d, h1, rfl⟩
    exact ⟨(d, R.met.next p d), mem_steps.mpr ⟨h1, rfl⟩, rfl⟩
theorem len_snoc {ds : List Nat} {t : Nat} (h : ds.length = t + 1) : ∃ es d, ds = es ++ [d] ∧ es.length = t := by
  have hne : ds ≠ [] := fun z => by rw [z] at h; cases h
  refine ⟨ds.dropLast, ds.getLast hne, (List.dropLast_concat_getLast hne).symm, ?_⟩
  rw [List.length_dropLast, h]
  rfl
theorem ahead_key {R : Rec} : ∀ {t : Nat} {q : Pl}, q ∈ (R.aheadD t).map (·.1) ↔ R.agreesAt 0 (0, 0) = true ∧ ∃ ds : List Nat, ds.length = t ∧ R.okF 0 (0, 0) ds = true ∧ R.met.path (0, 0) ds = q
  | 0, q => by
    show q ∈ (R.begins.map fun p => (p, (1 : Int))).map (·.1) ↔ _
    rw [List.map_map]
    have e : R.begins.map ((fun e : Pl × Int => e.1) ∘ fun p => (p, (1 : Int))) = R.begins := List.map_id' _
    rw [e, begins_mem]
    constructor
    · rintro ⟨h, rfl⟩
      exact ⟨h, [], rfl, rfl, rfl⟩
    · rintro ⟨h, ds, h1, h2, rfl⟩
      rw [List.length_eq_zero_iff.mp h1]
      exact ⟨h, rfl⟩
  | t + 1, q => by
    show q ∈ (R.aheadStep t (R.aheadD t)).map (·.1) ↔ _
    unfold Rec.aheadStep
    rw [fold_mem]
    constructor
    · rintro (z | ⟨e, he, z⟩)
      · cases z
      · obtain ⟨h0, ds, h1, h2, h3⟩ := ahead_key.mp (List.mem_map.mpr ⟨e, he, rfl⟩)
        obtain ⟨d, h4, h5⟩ := steps_to.mp z
        refine ⟨h0, ds ++ [d], by rw [List.length_append, h1]; rfl, okF_snoc.mpr ⟨h2, ?_⟩, ?_⟩
        · rw [h1, h3, Nat.zero_add]
          exact h4
        · rw [path_snoc, h3, h5]
    · rintro ⟨h0, ds, h1, h2, h3⟩
      obtain ⟨es, d, rfl, h4⟩ := len_snoc h1
      obtain ⟨h5, h6⟩ := okF_snoc.mp h2
      rw [Nat.zero_add, h4] at h6
      obtain ⟨e, he, h7⟩ := List.mem_map.mp (ahead_key.mpr ⟨h0, es, h4, h5, rfl⟩)
      refine .inr ⟨e, he, steps_to.mpr ⟨d, ?_, ?_⟩⟩
      · rw [h7]
        exact h6
      · rw [← h3, path_snoc, h7]
theorem ahead_step {R : Rec} {t : Nat} {q : Pl} {s : Nat × Pl} (h : q ∈ (R.aheadD t).map (·.1)) (hs : s ∈ R.steps t q) : s.2 ∈ (R.aheadD (t + 1)).map (·.1) := by
  obtain ⟨e, he, rfl⟩ := List.mem_map.mp h
  exact (fold_mem R t (R.aheadD t) []).mpr (.inr ⟨e, he, List.mem_map.mpr ⟨s, hs, rfl⟩⟩)
theorem getD?_key {α : Type} {D : List (Pl × α)} {k : Pl} {v : α} (h : getD? D k = some v) : k ∈ D.map (·.1) := getD?_some.mp (by rw [h]; rfl)
theorem onesFold_val {α : Type} (v : α) {q : Pl} {u : α} : ∀ (ps : List Pl) (acc : List (Pl × α)), getD? (ps.foldl (fun acc p => putD acc p v) acc) q = some u → getD? acc q = some u ∨ u = v
  | [], acc, h => .inl h
  | p :: ps, acc, h => by
    rcases onesFold_val v ps (putD acc p v) h with z | z
    · rw [getD?_put] at z
      by_cases e : q = p
      · rw [if_pos e] at z
        exact .inr (Option.some.inj z).symm
      · rw [if_neg e] at z
        exact .inl z
    · exact .inr z
theorem behFold_val (R : Rec) (t : Nat) (B : List (Pl × Int)) {q : Pl} {u : Int} : ∀ (A now : List (Pl × Int)), getD? (A.foldl (fun now e => if 0 < R.num t B e.1 then putD now e.1 (R.num t B e.1) else now) now) q = some u → getD? now q = some u ∨ u = R.num t B q
  | [], _, h => .inl h
  | e :: A, now, h => by
    rcases behFold_val R t B A _ h with z | z
    · have z : getD? (if 0 < R.num t B e.1 then putD now e.1 (R.num t B e.1) else now) q = some u := z
      by_cases hn : 0 < R.num t B e.1
      · rw [if_pos hn, getD?_put] at z
        by_cases he : q = e.1
        · rw [if_pos he] at z
          rw [he]
          exact .inr (Option.some.inj z).symm
        · rw [if_neg he] at z
          exact .inl z
      · rw [if_neg hn] at z
        exact .inl z
    · exact .inr z
theorem cnt0 {R : Rec} {t n : Nat} {p : Pl} : 0 ≤ R.cnt t n p := Int.natCast_nonneg _
theorem cnt_pos {R : Rec} {t n : Nat} {p : Pl} : 0 < R.cnt t n p ↔ ∃ es : List Nat, es.length = n ∧ R.okF t p es = true := by
  unfold Rec.cnt
  constructor
  · intro h
    have h : 0 < (R.suf t p n).length := by omega
    obtain ⟨es, he⟩ := List.exists_mem_of_length_pos h
    exact ⟨es, mem_suf.mp he⟩
  · rintro ⟨es, he⟩
    have := List.length_pos_of_mem (mem_suf.mpr he)
    omega
theorem num_cnt {R : Rec} {t k : Nat} {B : List (Pl × Int)} {p : Pl} (hp : p ∈ (R.aheadD t).map (·.1))
    (hB : ∀ q, q ∈ (R.aheadD (t + 1)).map (·.1) → (∀ v, getD? B q = some v → v = R.cnt (t + 1) k q) ∧ (getD? B q = none → R.cnt (t + 1) k q = 0)) : R.num t B p = R.cnt t (k + 1) p := by
  rw [cnt_succ]
  unfold Rec.num
  have : ∀ s ∈ R.steps t p, s.2 ∈ (R.aheadD (t + 1)).map (·.1) := fun s hs => ahead_step hp hs
  generalize R.steps t p = l at this
  induction l with
  | nil => rfl
  | cons s l ih =>
    have i := ih fun s hs => this s (List.mem_cons_of_mem _ hs)
    have h := hB s.2 (this s List.mem_cons_self)
    rw [List.map_cons, List.sum_cons, ← i]
    cases e : getD? B s.2 with
    | none =>
      rw [List.filter_cons_of_neg (by rw [e]; exact Bool.false_ne_true), h.2 e, Int.zero_add]
    | some v =>
      rw [List.filter_cons_of_pos (by rw [e]; rfl), List.map_cons, List.sum_cons, e, ← h.1 v e]
      rfl
theorem beh_spec (R : Rec) : ∀ k, k ≤ R.ticks → (∀ q, q ∈ (R.beh k).map (·.1) ↔ q ∈ (R.aheadD (R.ticks - k)).map (·.1) ∧ 0 < R.cnt (R.ticks - k) k q) ∧ ∀ q v, getD? (R.beh k) q = some v → v = R.cnt (R.ticks - k) k q
  | 0, _ => by
    constructor
    · intro q
      show q ∈ (onesOf (1 : Int) _).map (·.1) ↔ _
      unfold onesOf
      rw [onesFold_key]
      constructor
      · rintro (z | z)
        · cases z
        · exact ⟨z, by show (0 : Int) < 1; decide⟩
      · exact fun z => .inr z.1
    · intro q v h
      rcases onesFold_val 1 _ [] h with z | z
      · cases z
      · exact z
  | k + 1, hk => by
    obtain ⟨i1, i2⟩ := beh_spec R k (by omega)
    have e : R.ticks - 1 - k = R.ticks - (k + 1) := by omega
    have e2 : R.ticks - k = R.ticks - (k + 1) + 1 := by omega
    have eb : R.beh (k + 1) = R.behStep (R.ticks - (k + 1)) (R.aheadD (R.ticks - (k + 1))) (R.beh k) := by
      rw [← e]
      rfl
    rw [e2] at i1 i2
    generalize R.ticks - (k + 1) = t at *
    have hB : ∀ q, q ∈ (R.aheadD (t + 1)).map (·.1) → (∀ v, getD? (R.beh k) q = some v → v = R.cnt (t + 1) k q) ∧ (getD? (R.beh k) q = none → R.cnt (t + 1) k q = 0) := by
      intro q hq
      refine ⟨fun v hv => i2 q v hv, fun hn => ?_⟩
      have n1 : q ∉ (R.beh k).map (·.1) := fun z => by
        have := getD?_some.mpr z
        rw [hn] at this
        cases this
      have c0 := cnt0 (R := R) (t := t + 1) (n := k) (p := q)
      by_cases h : 0 < R.cnt (t + 1) k q
      · exact absurd ((i1 q).mpr ⟨hq, h⟩) n1
      · omega
    have key : ∀ q, q ∈ (R.beh (k + 1)).map (·.1) ↔ q ∈ (R.aheadD t).map (·.1) ∧ 0 < R.cnt t (k + 1) q := by
      intro q
      rw [eb]
      unfold Rec.behStep
      rw [behFold_key]
      constructor
      · rintro (z | ⟨z1, z2⟩)
        · cases z
        · rw [num_cnt z1 hB] at z2
          exact ⟨z1, z2⟩
      · rintro ⟨z1, z2⟩
        exact .inr ⟨z1, by rw [num_cnt z1 hB]; exact z2⟩
    refine ⟨key, fun q v h => ?_⟩
    have hq := (key q).mp (getD?_key h)
    rw [eb] at h
    rcases behFold_val R t (R.beh k) _ [] h with z | z
    · cases z
    · rw [z, num_cnt hq.1 hB]
theorem behind_key {R : Rec} {t : Nat} (ht : t ≤ R.ticks) {q : Pl} : q ∈ (R.behindAt t).map (·.1) ↔ ∃ ds ∈ R.trips, R.met.path (0, 0) (ds.take t) = q := by
  have h := (beh_spec R (R.ticks - t) (by omega)).1 q
  have e : R.ticks - (R.ticks - t) = t := by omega
  rw [e, cnt_pos, ahead_key] at h
  unfold Rec.behindAt
  rw [h]
  constructor
  · rintro ⟨⟨h0, ds, h1, h2, h3⟩, es, h4, h5⟩
    refine ⟨ds ++ es, mem_trips.mpr ⟨h0, by rw [List.length_append]; omega, ?_⟩, ?_⟩
    · rw [okF_app, h2, h1, h3, Nat.zero_add, h5]
      rfl
    · rw [List.take_append_of_le_length (by omega), List.take_of_length_le (by omega)]
      exact h3
  · rintro ⟨ds, hd, rfl⟩
    obtain ⟨h0, h1, h2⟩ := mem_trips.mp hd
    obtain ⟨h3, h4⟩ := okF_take h2 (k := t) (by omega)
    rw [Nat.zero_add] at h4
    exact ⟨⟨h0, ds.take t, by rw [List.length_take]; omega, h3, rfl⟩, ds.drop t, by rw [List.length_drop]; omega, h4⟩
theorem take_snoc {ds : List Nat} {t d : Nat} (h : ds[t]? = some d) : ds.take (t + 1) = ds.take t ++ [d] := by
  obtain ⟨h1, h2⟩ := List.getElem?_eq_some_iff.mp h
  rw [List.take_succ_eq_append_getElem h1, h2]
theorem path_take {M : Met} {ds : List Nat} {t d : Nat} (p : Pl) (h : ds[t]? = some d) : M.path p (ds.take (t + 1)) = M.next (M.path p (ds.take t)) d := by
  rw [take_snoc h, path_snoc]
theorem mem_open {R : Rec} {t : Nat} (ht : t < R.ticks) {o : Pl × Nat × Pl} : o ∈ R.openAt t ↔ o.1 ∈ (R.behindAt t).map (·.1) ∧ (o.2.1, o.2.2) ∈ R.steps t o.1 ∧ o.2.2 ∈ (R.behindAt (t + 1)).map (·.1) := by
  unfold Rec.openAt
  rw [List.mem_flatMap]
  unfold Rec.openOf
  constructor
  · rintro ⟨e, he, h⟩
    obtain ⟨s, hs, rfl⟩ := List.mem_map.mp h
    obtain ⟨h1, h2⟩ := List.mem_filter.mp hs
    exact ⟨List.mem_map.mpr ⟨e, he, rfl⟩, h1, getD?_some.mp h2⟩
  · rintro ⟨h1, h2, h3⟩
    obtain ⟨e, he, h4⟩ := List.mem_map.mp h1
    refine ⟨e, he, List.mem_map.mpr ⟨(o.2.1, o.2.2), List.mem_filter.mpr ⟨by rw [h4]; exact h2, getD?_some.mpr h3⟩, ?_⟩⟩
    rw [h4]
theorem open_digit {R : Rec} {t : Nat} (ht : t < R.ticks) {d : Nat} : d ∈ (R.openAt t).map (fun e => e.2.1) ↔ ∃ ds ∈ R.trips, ds[t]? = some d := by
  rw [List.mem_map]
  constructor
  · rintro ⟨o, ho, rfl⟩
    obtain ⟨h1, h2, h3⟩ := (mem_open ht).mp ho
    obtain ⟨ds, hd, e1⟩ := (behind_key (by omega)).mp h1
    obtain ⟨es, he, e2⟩ := (behind_key (by omega)).mp h3
    obtain ⟨a0, a1, a2⟩ := mem_trips.mp hd
    obtain ⟨b0, b1, b2⟩ := mem_trips.mp he
    obtain ⟨h4, h5⟩ := mem_steps.mp h2
    have a3 := (okF_take a2 (k := t) (by omega)).1
    have b3 := (okF_take b2 (k := t + 1) (by omega)).2
    rw [e2, Nat.zero_add] at b3
    have tl : (ds.take t).length = t := by rw [List.length_take]; omega
    refine ⟨ds.take t ++ o.2.1 :: es.drop (t + 1), mem_trips.mpr ⟨a0, ?_, ?_⟩, ?_⟩
    · rw [List.length_append, List.length_cons, List.length_drop, tl]
      omega
    · rw [okF_app, a3, tl, e1, Nat.zero_add]
      show (true && (R.okD t o.1 o.2.1 && R.okF (t + 1) (R.met.next o.1 o.2.1) _)) = true
      rw [h4, ← h5, b3]
      rfl
    · rw [List.getElem?_append_right (by omega), tl, Nat.sub_self]
      rfl
  · rintro ⟨ds, hd, h⟩
    obtain ⟨a0, a1, a2⟩ := mem_trips.mp hd
    refine ⟨(R.met.path (0, 0) (ds.take t), d, R.met.path (0, 0) (ds.take (t + 1))), (mem_open ht).mpr ⟨(behind_key (by omega)).mpr ⟨ds, hd, rfl⟩, mem_steps.mpr ⟨?_, path_take _ h⟩, (behind_key (by omega)).mpr ⟨ds, hd, rfl⟩⟩, rfl⟩
    have a3 := (okF_take a2 (k := t + 1) (by omega)).1
    rw [take_snoc h, okF_snoc, Nat.zero_add] at a3
    have tl : (ds.take t).length = t := by rw [List.length_take]; omega
    rw [tl] at a3
    exact a3.2
/-! ### the layers of a claim -/
theorem lay_key {R : Rec} {m : Nat} {x : Int} {wt : Bool} : ∀ {t : Nat} {q : Pl}, q ∈ (R.layD m x wt t).map (·.1) ↔ R.agreesAt 0 (0, 0) = true ∧ ∃ ds : List Nat, ds.length = t ∧ R.okF 0 (0, 0) ds = true ∧ R.met.path (0, 0) ds = q ∧ (m ≤ t → decide (x ≤ (R.met.path (0, 0) (ds.take m)).2) = wt)
  | 0, q => by
    show q ∈ (((R.begins.filter fun p => wantedAt m x wt 0 p).map fun p => (p, ([] : List Nat))).map (·.1)) ↔ _
    rw [List.map_map]
    have e : (R.begins.filter fun p => wantedAt m x wt 0 p).map ((fun e : Pl × List Nat => e.1) ∘ fun p => (p, ([] : List Nat))) = R.begins.filter fun p => wantedAt m x wt 0 p := List.map_id' _
    rw [e, List.mem_filter, begins_mem]
    unfold wantedAt
    constructor
    · rintro ⟨⟨h, rfl⟩, h2⟩
      refine ⟨h, [], rfl, rfl, rfl, fun hm => ?_⟩
      rw [if_pos (by omega)] at h2
      have := of_decide_eq_true h2
      rw [List.take_nil]
      exact this
    · rintro ⟨h, ds, h1, h2, rfl, h3⟩
      have e := List.length_eq_zero_iff.mp h1
      subst e
      refine ⟨⟨h, rfl⟩, ?_⟩
      by_cases hm : m = 0
      · rw [if_pos hm]
        have := h3 (by omega)
        rw [List.take_nil] at this
        exact decide_eq_true this
      · rw [if_neg hm]
  | t + 1, q => by
    show q ∈ (R.layStep m x wt t (R.layD m x wt t)).map (·.1) ↔ _
    unfold Rec.layStep
    rw [layFold_mem]
    unfold wantedAt
    constructor
    · rintro (z | ⟨⟨e, he, z⟩, hw⟩)
      · cases z
      · obtain ⟨h0, ds, h1, h2, h3, h6⟩ := lay_key.mp (List.mem_map.mpr ⟨e, he, rfl⟩)
        obtain ⟨d, h4, h5⟩ := steps_to.mp z
        have hl : (ds ++ [d]).length = t + 1 := by rw [List.length_append, h1]; rfl
        refine ⟨h0, ds ++ [d], hl, okF_snoc.mpr ⟨h2, ?_⟩, ?_, fun hm => ?_⟩
        · rw [h1, h3, Nat.zero_add]
          exact h4
        · rw [path_snoc, h3, h5]
        · by_cases hm2 : m = t + 1
          · rw [if_pos hm2] at hw
            rw [List.take_of_length_le (by omega), path_snoc, h3, ← h5]
            exact of_decide_eq_true hw
          · rw [List.take_append_of_le_length (by omega)]
            exact h6 (by omega)
    · rintro ⟨h0, ds, h1, h2, h3, h7⟩
      obtain ⟨es, d, rfl, h4⟩ := len_snoc h1
      obtain ⟨h5, h6⟩ := okF_snoc.mp h2
      rw [Nat.zero_add, h4] at h6
      have h8 : m ≤ t → decide (x ≤ (R.met.path (0, 0) (es.take m)).2) = wt := fun hm => by
        have := h7 (by omega)
        rw [List.take_append_of_le_length (by omega)] at this
        exact this
      obtain ⟨e, he, h9⟩ := List.mem_map.mp (lay_key.mpr ⟨h0, es, h4, h5, rfl, h8⟩)
      refine .inr ⟨⟨e, he, steps_to.mpr ⟨d, ?_, ?_⟩⟩, ?_⟩
      · rw [h9]
        exact h6
      · rw [← h3, path_snoc, h9]
      · by_cases hm : m = t + 1
        · rw [if_pos hm]
          have := h7 (by omega)
          rw [List.take_of_length_le (by omega), h3] at this
          exact decide_eq_true this
        · rw [if_neg hm]
theorem lay_empty {R : Rec} {m : Nat} {x : Int} {wt : Bool} (hm : m ≤ R.ticks) : (R.layD m x wt R.ticks).isEmpty = false ↔ ∃ ds ∈ R.trips, decide (x ≤ (R.met.path (0, 0) (ds.take m)).2) = wt := by
  have k : (R.layD m x wt R.ticks).isEmpty = false ↔ ∃ q, q ∈ (R.layD m x wt R.ticks).map (·.1) := by
    cases R.layD m x wt R.ticks with
    | nil => exact ⟨fun h => (nomatch h), fun ⟨q, h⟩ => (nomatch h)⟩
    | cons e l => exact ⟨fun _ => ⟨e.1, List.mem_cons_self⟩, fun _ => rfl⟩
  rw [k]
  constructor
  · rintro ⟨q, hq⟩
    obtain ⟨h0, ds, h1, h2, h3, h4⟩ := lay_key.mp hq
    exact ⟨ds, mem_trips.mpr ⟨h0, h1, h2⟩, h4 hm⟩
  · rintro ⟨ds, hd, h⟩
    obtain ⟨h0, h1, h2⟩ := mem_trips.mp hd
    exact ⟨_, lay_key.mpr ⟨h0, ds, h1, h2, rfl, fun _ => h⟩⟩
/-! ### the ranges -/
theorem getD?_in {α : Type} {D : List (Pl × α)} {k : Pl} {v : α} (h : getD? D k = some v) : (k, v) ∈ D := by
  unfold getD? at h
  cases e : D.find? fun e => decide (e.1 = k) with
  | none => rw [e] at h; cases h
  | some y =>
    rw [e] at h
    have h1 := List.mem_of_find?_eq_some e
    have h2 : y.1 = k := by
      have := List.find?_some e
      exact of_decide_eq_true this
    have h3 : y.2 = v := Option.some.inj h
    rw [← h2, ← h3]
    exact h1
theorem putD_mem {α : Type} {D : List (Pl × α)} {k : Pl} {v : α} {e : Pl × α} (h : e ∈ putD D k v) : e ∈ D ∨ e = (k, v) := by
  by_cases hk : k ∈ D.map (·.1)
  · rw [putD_old hk] at h
    obtain ⟨y, hy, h2⟩ := List.mem_map.mp h
    by_cases e2 : y.1 = k
    · rw [if_pos e2, e2] at h2
      exact .inr h2.symm
    · rw [if_neg e2] at h2
      exact .inl (h2 ▸ hy)
  · rw [putD_new hk] at h
    exact (List.mem_append.mp h).imp id List.mem_singleton.mp
/-- every range is the way itself -/
def Flat (D : List (Pl × (Int × Int))) : Prop := ∀ e ∈ D, e.2 = (e.1.2, e.1.2)
theorem rngPut_flat {R : Rec} {t : Nat} {D now : List (Pl × (Int × Int))} {o : Pl × Nat × Pl} (hD : Flat D) (hn : Flat now) (hk : o.1 ∈ D.map (·.1)) (hs : (o.2.1, o.2.2) ∈ R.steps t o.1) : Flat (rngPut D now o) := by
  obtain ⟨v, hv⟩ := Option.isSome_iff_exists.mp (getD?_some.mpr hk)
  have e1 : v = (o.1.2, o.1.2) := hD _ (getD?_in hv)
  have e2 := (mem_steps.mp hs).2
  have e3 : o.2.2.2 = o.1.2 + (o.2.1 : Int) := by
    rw [show o.2.2 = R.met.next o.1 o.2.1 from e2]
    rfl
  have e4 : (getD? now o.2.2).getD (o.2.2.2, o.2.2.2) = (o.2.2.2, o.2.2.2) := by
    cases h : getD? now o.2.2 with
    | none => rfl
    | some u => exact hn _ (getD?_in h)
  intro e he
  unfold rngPut at he
  rw [hv, e1] at he
  simp only [Option.getD_some] at he
  rw [← e3, e4] at he
  simp only [gt_iff_lt, Int.lt_irrefl, if_false] at he
  rcases putD_mem he with z | z
  · exact hn e z
  · rw [z]
theorem rngFold_flat {R : Rec} {t : Nat} {D : List (Pl × (Int × Int))} (hD : Flat D) : ∀ (os : List (Pl × Nat × Pl)) (now : List (Pl × (Int × Int))), (∀ o ∈ os, o.1 ∈ D.map (·.1) ∧ (o.2.1, o.2.2) ∈ R.steps t o.1) → Flat now → Flat (os.foldl (rngPut D) now)
  | [], _, _, h => h
  | o :: os, now, ho, h => rngFold_flat hD os _ (fun o h => ho o (List.mem_cons_of_mem _ h)) (rngPut_flat hD h (ho o List.mem_cons_self).1 (ho o List.mem_cons_self).2)
theorem rngFold_key {D : List (Pl × (Int × Int))} {q : Pl} : ∀ (os : List (Pl × Nat × Pl)) (now : List (Pl × (Int × Int))), q ∈ (os.foldl (rngPut D) now).map (·.1) ↔ q ∈ now.map (·.1) ∨ q ∈ os.map (·.2.2)
  | [], _ => by simp
  | o :: os, now => by
    rw [List.foldl_cons, rngFold_key os]
    unfold rngPut
    rw [putD_key_mem, List.map_cons, List.mem_cons, or_assoc]
theorem path_zero {R : Rec} {q : Pl} (h : q ∈ (R.behindAt 0).map (·.1)) : q = (0, 0) := by
  obtain ⟨ds, _, e⟩ := (behind_key (Nat.zero_le _)).mp h
  rw [← e]
  rfl
theorem rng_spec (R : Rec) : ∀ t, t ≤ R.ticks → (∀ q, q ∈ (R.rngD t).map (·.1) ↔ q ∈ (R.behindAt t).map (·.1)) ∧ Flat (R.rngD t)
  | 0, _ => by
    have k : ∀ q, q ∈ (R.rngD 0).map (·.1) ↔ q ∈ (R.behindAt 0).map (·.1) := fun q => by
      show q ∈ (onesOf ((0, 0) : Int × Int) _).map (·.1) ↔ _
      unfold onesOf
      rw [onesFold_key]
      exact ⟨fun z => z.elim (fun z => (nomatch z)) id, .inr⟩
    refine ⟨k, fun e he => ?_⟩
    have hn : ((R.rngD 0).map (·.1)).Nodup := onesFold_nodup (0, 0) _ [] (by simp)
    have h1 := path_zero ((k e.1).mp (List.mem_map.mpr ⟨e, he, rfl⟩))
    rcases onesFold_val (0, 0) _ [] (getD?_mem hn (show (e.1, e.2) ∈ R.rngD 0 from he)) with z | z
    · cases z
    · rw [z, h1]
  | t + 1, ht => by
    obtain ⟨i1, i2⟩ := rng_spec R t (by omega)
    have ho : ∀ o ∈ R.openAt t, o.1 ∈ (R.rngD t).map (·.1) ∧ (o.2.1, o.2.2) ∈ R.steps t o.1 := fun o ho => by
      obtain ⟨h1, h2, _⟩ := (mem_open (by omega)).mp ho
      exact ⟨(i1 _).mpr h1, h2⟩
    refine ⟨fun q => ?_, rngFold_flat i2 _ _ ho fun e he => (nomatch he)⟩
    show q ∈ ((R.openAt t).foldl (rngPut (R.rngD t)) []).map (·.1) ↔ _
    rw [rngFold_key]
    constructor
    · rintro (z | z)
      · cases z
      · obtain ⟨o, h1, rfl⟩ := List.mem_map.mp z
        exact ((mem_open (by omega)).mp h1).2.2
    · intro h
      obtain ⟨ds, hd, e⟩ := (behind_key ht).mp h
      obtain ⟨a0, a1, a2⟩ := mem_trips.mp hd
      have h3 : ds[t]? = some (ds[t]'(by omega)) := List.getElem?_eq_getElem (by omega)
      generalize ds[t]'_ = d at h3
      refine .inr (List.mem_map.mpr ⟨(R.met.path (0, 0) (ds.take t), d, q), (mem_open (by omega)).mpr ⟨(behind_key (by omega)).mpr ⟨ds, hd, rfl⟩, mem_steps.mpr ⟨?_, by rw [← e]; exact path_take _ h3⟩, h⟩, rfl⟩)
      have a3 := (okF_take a2 (k := t + 1) (by omega)).1
      rw [take_snoc h3, okF_snoc, Nat.zero_add] at a3
      have tl : (ds.take t).length = t := by rw [List.length_take]; omega
      rw [tl] at a3
      exact a3.2
end Cab
/-! text CabU12 -/
set_option Elab.async false
set_option linter.all false
set_option maxRecDepth 100000
set_option maxHeartbeats 4000000
namespace Cab
open PySem PySem.Spec PyProof.Rows L2 He
/-- the plain law of the claims -/
structure Claims (R : Rec) (m : Nat) : Prop where
  way0 : ∀ e ∈ R.behindAt m, 0 ≤ e.1.2
  ne : R.behindAt m ≠ []
  always : ∀ x : Int, 0 ≤ x → (∀ e ∈ R.behindAt m, x ≤ e.1.2) → R.verdict m x = "always"
  sometimes : ∀ x : Int, 0 ≤ x → (∃ e ∈ R.behindAt m, x ≤ e.1.2) → (∃ e ∈ R.behindAt m, ¬ x ≤ e.1.2) → R.verdict m x = "sometimes"
  never : ∀ x : Int, 0 ≤ x → (∀ e ∈ R.behindAt m, ¬ x ≤ e.1.2) → R.verdict m x = "never"
  nz : R.howMany ≠ 0
  cl : ∀ t, t < m → ∀ o ∈ R.openAt t, o.1 ∈ (R.rngD t).map (·.1)
  rne : R.rngD m ≠ []
  low : ∀ e ∈ R.rngD m, (∃ b ∈ R.behindAt m, e.2.1 = b.1.2) ∧ ∃ b ∈ R.behindAt m, e.2.2 = b.1.2
  all : ∀ b ∈ R.behindAt m, ∃ e ∈ R.rngD m, e.2.1 ≤ b.1.2 ∧ b.1.2 ≤ e.2.2
theorem pw_first {ws : List Int} (h : ws.Pairwise (· < ·)) {a : Int} (h0 : ws[0]? = some a) : ∀ x ∈ ws, a ≤ x := by
  cases ws with
  | nil => cases h0
  | cons b ws =>
    have h0 := Option.some.inj h0
    subst h0
    intro x hx
    rcases List.mem_cons.mp hx with z | z
    · omega
    · have := (List.pairwise_cons.mp h).1 x z
      omega
theorem pw_last : ∀ {ws : List Int}, ws.Pairwise (· < ·) → ∀ x ∈ ws, x ≤ ws.getLastD 0
  | [], _, x, h => nomatch h
  | [a], _, x, h => by rw [List.mem_singleton.mp h]; exact Int.le_refl _
  | a :: b :: ws, h, x, hx => by
    have h2 := List.pairwise_cons.mp h
    have e : (a :: b :: ws).getLastD 0 = (b :: ws).getLastD 0 := rfl
    rw [e]
    rcases List.mem_cons.mp hx with z | z
    · have h3 := h2.1 b List.mem_cons_self
      have h4 := pw_last h2.2 b List.mem_cons_self
      omega
    · exact pw_last h2.2 x z
theorem last_mem : ∀ {ws : List Int}, ws ≠ [] → ws.getLastD 0 ∈ ws
  | [], h => absurd rfl h
  | [a], _ => List.mem_singleton.mpr rfl
  | a :: b :: ws, _ => by
    have e : (a :: b :: ws).getLastD 0 = (b :: ws).getLastD 0 := rfl
    rw [e]
    exact List.mem_cons_of_mem _ (last_mem (fun h => nomatch h))
section
variable {P : Program} {w : World} {K : PySem.W.Frag} {mg : Str → Option Value} {base : Heap}
def spClaims (K : PySem.W.Frag) : Sp := sp3 fun a b c H Q => ∃ (p : Addr) (R : Rec) (m : Nat), a = .ref p ∧ RecAt K H p R ∧ okRec R ∧ b = .int (R.ticks : Nat) ∧ c = .int (m : Nat) ∧ m ≤ R.ticks ∧ Claims R m ∧ ∀ H', Same H H' → Q (.bl true) H'
theorem ok_law_claims_right (T : TX K mg) : FnP P w K mg base d_law_claims_right 14 ["_law_record", "_law_ticks", "_law_mark"] (spClaims K) [] := by
  refine fn3 (T.d D_law_claims_right) rfl sc_law_claims_right bd_law_claims_right fun cdv A outer s H Q E a b c hr h => ?_
  obtain ⟨p, R, m, rfl, hRR, ok, rfl, rfl, hm, C, q⟩ := h
  obtain ⟨f, hR⟩ := id hRR
  obtain ⟨dx, me, t, qs, h1, h2, h3, h4, h5⟩ := hR.ex
  refine wb_cons <| ws_set 3 (we_meth (ok_Record_ways T) (T.c c_Record) (T.m m_Record_ways) hr <| we_var 0 rfl ⟨p, dx, _, rfl, h1, by kernel_rfl, wa_cons <| we_var 2 rfl <| wa_nil ⟨_, _, rfl, p, R, m, rfl, hRR, ok, rfl, hm, fun ws l H1 s1 pw hw el => ?_⟩⟩) sc_law_claims_right.nd
  have hne : ws ≠ [] := fun z => by
    cases hb : R.behindAt m with
    | nil => exact C.ne hb
    | cons e r =>
      have := (hw e.1.2).mpr (by rw [hb]; exact List.mem_cons_self)
      rw [z] at this
      cases this
  have mem : ∀ x ∈ ws, ∃ e ∈ R.behindAt m, e.1.2 = x := fun x hx => List.mem_map.mp ((hw x).mp hx)
  have mem' : ∀ e ∈ R.behindAt m, e.1.2 ∈ ws := fun e he => (hw _).mpr (List.mem_map.mpr ⟨e, he, rfl⟩)
  have ge0 : ∀ x ∈ ws, 0 ≤ x := fun x hx => by
    obtain ⟨e, he, rfl⟩ := mem x hx
    exact C.way0 e he
  have hl : 0 < ws.length := by
    cases ws with
    | nil => exact absurd rfl hne
    | cons a r => exact Nat.succ_pos _
  have wl : ws.length ≤ 6561 := by
    have h1 := nodup_le _ _ (pw_nodup pw) fun x hx => (hw x).mp hx
    have h2 : (R.behindAt m).length ≤ 6561 := behAt_len ok _ (by omega)
    rw [List.length_map] at h1
    omega
  obtain ⟨a0, ha0⟩ : ∃ a, ws[0]? = some a := ⟨ws[0]'hl, List.getElem?_eq_getElem hl⟩
  obtain ⟨am, ham⟩ : ∃ a, ws[ws.length / 2]? = some a := ⟨_, List.getElem?_eq_getElem (by omega)⟩
  have m0 : a0 ∈ ws := List.mem_of_getElem? ha0
  have mm : am ∈ ws := List.mem_of_getElem? ham
  have ml := last_mem hne
  have first := pw_first pw ha0
  have lastle := pw_last pw
  have at0 : atI (ws.map V.int) 0 = some (V.int a0) := at_of (j := 0) rfl (by rw [List.getElem?_map, ha0]; rfl)
  have atl : atI (ws.map V.int) (-1) = some (V.int (ws.getLastD 0)) := atI_back _ hne
  generalize hla : ws.getLastD 0 = la at ml lastle atl
  have verd : ∀ x ∈ ws, R.verdict m x = if x = a0 then "always" else "sometimes" := fun x hx => by
    by_cases hx0 : x = a0
    · rw [if_pos hx0]
      exact C.always x (ge0 x hx) fun e he => by rw [hx0]; exact first _ (mem' e he)
    · rw [if_neg hx0]
      obtain ⟨e, he, ee⟩ := mem x hx
      obtain ⟨e0, he0, ee0⟩ := mem a0 m0
      have := first x hx
      exact C.sometimes x (ge0 x hx) ⟨e, he, by omega⟩ ⟨e0, he0, by omega⟩
  have atm : atI (ws.map V.int) ((((ws.map V.int).length : Nat) : Int) / 2) = some (V.int am) := at_of (j := ws.length / 2) (by rw [List.length_map]; omega) (by rw [List.getElem?_map, ham]; rfl)
  have sqT : ∀ {H'}, Same H1 H' → SqL K H' l (ws.map V.int) := fun s' => SqL.of (s' _ _ el)
  have hl3 : (3 : Nat) ≤ sizeLine := by decide
  -- the three ways
  refine wb_cons <| ws_forW PassesOwn.never rfl (fun _ => rfl) <| wi_list <| we_lst <| wa_cons <| we_ix ix_list <| we_var 3 rfl <| we_int ⟨l, _, 0, _, rfl, rfl, SqL.of el, at0, wa_cons <| we_ix ix_list <| we_var 3 rfl <| we_un un_neg <| we_int ⟨1, rfl, l, _, -1, _, rfl, rfl, SqL.of el, atl, wa_cons <| we_ix ix_list <| we_var 3 rfl <| we_op op_fdiv <| we_blt call_len_seq (T.fr f_len) boot_len <| wa_cons <| we_var 3 rfl <| wa_nil ⟨l, _, rfl, .inl (SqL.of el), we_int ⟨_, _, rfl, rfl, ⟨by omega, by omega⟩, l, _, _, _, rfl, rfl, SqL.of el, atm, wa_nil ⟨hl3, fun L H2 hL s2 eL => ?_⟩⟩⟩⟩⟩
  refine ⟨L, _, rfl, SqL.of eL, _, _, _, walk_list (xs := [V.int a0, V.int la, V.int am]), fun i σ H' => Same H2 H' ∧ ∃ v4 v5, σ = [some (.ref p), some (.int (R.ticks : Nat)), some (.int (m : Nat)), some (.ref l), v4, v5], ⟨fun _ _ e => e, _, _, rfl⟩, fun _ _ _ _ z => SqL.of (z.1 _ _ eL), ?_, ?_⟩
  · rintro i x σ H3 H4 hi ⟨s3, v4, v5, rfl⟩ ⟨rfl, hx⟩
    obtain ⟨xv, hxv, rfl⟩ : ∃ xv, xv ∈ ws ∧ x = V.int xv := by
      have := List.mem_of_getElem? hx
      rcases List.mem_cons.mp this with z | z
      · exact ⟨a0, m0, z⟩
      rcases List.mem_cons.mp z with z | z
      · exact ⟨la, ml, z⟩
      · exact ⟨am, mm, List.mem_singleton.mp z⟩
    have s14 := Same.trans s2 s3
    have ev := verd xv hxv
    have rest : ∀ due : Str, R.verdict m xv = due → WB (XC P w K mg base d_law_claims_right N_law_claims_right (d_law_claims_right.path K) cdv A outer s H E) ((forBody (d_law_claims_right.body.getD 1 (.Pass default))).drop 2) { nx := fun σ H' => Same H2 H' ∧ ∃ v4 v5, σ = [some (.ref p), some (.int (R.ticks : Nat)), some (.int (m : Nat)), some (.ref l), v4, v5], rt := Q, ct := fun σ H' => Same H2 H' ∧ ∃ v4 v5, σ = [some (.ref p), some (.int (R.ticks : Nat)), some (.int (m : Nat)), some (.ref l), v4, v5], bk := WB (XC P w K mg base d_law_claims_right N_law_claims_right (d_law_claims_right.path K) cdv A outer s H E) (d_law_claims_right.body.drop 2) { nx := fun _ H' => Q .non H', rt := Q } } [some (.ref p), some (.int (R.ticks : Nat)), some (.int (m : Nat)), some (.ref l), some (.int xv), some (.str due)] H4 := by
      intro due hdue
      refine wb_cons <| ws_if <| wt_cmp op_ne <| we_call (ok_verdict_on T) (T.g g_verdict_on) hr <| wa_cons <| we_var 0 rfl <| wa_cons <| we_tup <| wa_cons <| we_str <| wa_cons <| we_var 2 rfl <| wa_cons <| we_var 4 rfl <| wa_nil ⟨hl3, fun cq H5 hcq s5 e5 => wa_nil ⟨_, _, rfl, p, cq, R, m, xv, rfl, rfl, hRR.mono (Same.trans s1 (Same.trans s14 s5)), ok, e5, hm, ge0 xv hxv, fun H6 s6 => we_var 5 rfl ⟨rfl, _, rfl, ?_⟩⟩⟩
      rw [hdue, decide_eq_true (rfl : V.str due = V.str due)]
      exact iteF <| wb_nil <| wb_nil ⟨Same.trans s3 (Same.trans s5 s6), _, _, rfl⟩
    refine wg_name 4 ?_ sc_law_claims_right.nd
    refine wb_cons <| ws_set 5 (we_str ?_) sc_law_claims_right.nd
    refine wb_cons <| ws_if <| wt_cmp op_eq <| we_var 4 rfl <| we_ix ix_list <| we_var 3 rfl <| we_int ⟨l, _, 0, _, rfl, rfl, sqT s14, at0, rfl, _, rfl, ?_⟩
    rw [dec_intV]
    by_cases h0 : xv = a0
    · rw [if_pos h0] at ev
      rw [decide_eq_true h0]
      exact iteT <| wb_cons <| ws_set 5 (we_str <| wb_nil <| rest _ ev) sc_law_claims_right.nd
    · rw [if_neg h0] at ev
      rw [decide_eq_false h0]
      exact iteF <| wb_nil <| rest _ ev
  rintro σ H3 ⟨s3, v4, v5, rfl⟩
  have s13 := Same.trans s2 s3
  have ev : R.verdict m (la + 1) = "never" := C.never (la + 1) (by have := ge0 la ml; omega) fun e he => by have := lastle _ (mem' e he); omega
  refine wb_cons <| ws_if <| wt_cmp op_ne <| we_call (ok_verdict_on T) (T.g g_verdict_on) hr <| wa_cons <| we_var 0 rfl <| wa_cons <| we_tup <| wa_cons <| we_str <| wa_cons <| we_var 2 rfl <| wa_cons <| we_add <| we_ix ix_list <| we_var 3 rfl <| we_un un_neg <| we_int ⟨1, rfl, l, _, -1, _, rfl, rfl, sqT s13, atl, we_int ⟨_, _, rfl, rfl, wa_nil ⟨hl3, fun cq H5 hcq s5 e5 => wa_nil ⟨_, _, rfl, p, cq, R, m, la + 1, rfl, rfl, hRR.mono (Same.trans s1 (Same.trans s13 s5)), ok, e5, hm, by have := ge0 la ml; omega, fun H6 s6 => we_str ⟨rfl, _, rfl, ?_⟩⟩⟩⟩⟩
  rw [ev, decide_eq_true rfl]
  have s16 := Same.trans s13 (Same.trans s5 s6)
  have s06 := Same.trans s1 s16
  refine iteF <| wb_nil <| wb_cons <| ws_ret <| we_cmp (op_eqD hr.units) <| we_call (ok_way_range T) (T.g g_way_range) hr <| wa_cons <| we_var 0 rfl <| wa_cons <| we_int <| wa_cons <| we_var 2 rfl <| wa_nil ⟨_, _, _, rfl, p, R, m, rfl, rfl, rfl, hRR.mono s06, ok, hm, C.nz, C.cl, C.rne, fun lo hi u H7 s7 hlo lol hhi hil eu => ?_⟩
  have s17 := Same.trans s16 s7
  refine we_tup <| wa_cons <| we_ix ix_list <| we_var 3 rfl <| we_int ⟨l, _, 0, _, rfl, rfl, sqT s17, at0, wa_cons <| we_ix ix_list <| we_var 3 rfl <| we_un un_neg <| we_int ⟨1, rfl, l, _, -1, _, rfl, rfl, sqT s17, atl, wa_nil ⟨by show 2 ≤ sizeLine; decide, fun u2 H8 hu2 s8 e8 => ?_⟩⟩⟩
  refine ⟨_, _, dpT_ints (l := [lo, hi]) (SqT.of (s8 _ _ eu)), dpT_ints (l := [a0, la]) (SqT.of e8), sh_tup (lay_ints _), sh_tup (lay_ints _), ?_⟩
  rw [eqvT_ints]
  have elo : lo = a0 := by
    obtain ⟨e, he, ee⟩ := List.mem_map.mp hlo
    obtain ⟨b, hb, eb⟩ := (C.low e he).1
    obtain ⟨b0, hb0, eb0⟩ := mem a0 m0
    obtain ⟨e0, he0, l1, l2⟩ := C.all b0 hb0
    have h1 := first _ (mem' b hb)
    have h2 := lol _ (List.mem_map.mpr ⟨e0, he0, rfl⟩)
    have ee : e.2.1 = lo := ee
    have h2 : lo ≤ e0.2.1 := h2
    omega
  have ehi : hi = la := by
    obtain ⟨e, he, ee⟩ := List.mem_map.mp hhi
    obtain ⟨b, hb, eb⟩ := (C.low e he).2
    obtain ⟨b0, hb0, eb0⟩ := mem la ml
    obtain ⟨e0, he0, l1, l2⟩ := C.all b0 hb0
    have h1 := lastle _ (mem' b hb)
    have h2 := hil _ (List.mem_map.mpr ⟨e0, he0, rfl⟩)
    have ee : e.2.2 = hi := ee
    have h2 : e0.2.2 ≤ hi := h2
    omega
  rw [elo, ehi, decide_eq_true rfl]
  exact q H8 (Same.trans s06 (Same.trans s7 s8))
end
end Cab
/-! text CabY3 -/
set_option Elab.async false
set_option linter.all false
set_option maxRecDepth 100000
set_option maxHeartbeats 2000000
namespace Cab
/-! ### a fact on a trip -/
theorem okF_iff {f : Fact} {M : Met} : ∀ {ds : List Nat} {t : Nat} {p : Pl}, f.okF M t p ds = true ↔ ∀ k d, ds[k]? = some d → f.ok1 M (t + k) (M.path p (ds.take k)) d = true
  | [], t, p => ⟨fun _ k d h => (by rw [List.getElem?_nil] at h; cases h), fun _ => rfl⟩
  | d :: ds, t, p => by
    show (f.ok1 M t p d && f.okF M (t + 1) (M.next p d) ds) = true ↔ _
    rw [Bool.and_eq_true, okF_iff]
    constructor
    · rintro ⟨h1, h2⟩ k e he
      cases k with
      | zero =>
        have : d = e := Option.some.inj he
        rw [← this]
        exact h1
      | succ k =>
        have := h2 k e he
        have e2 : t + 1 + k = t + (k + 1) := by omega
        rw [e2] at this
        exact this
    · intro h
      refine ⟨h 0 d rfl, fun k e he => ?_⟩
      have := h (k + 1) e he
      have e2 : t + 1 + k = t + (k + 1) := by omega
      rw [e2]
      exact this
theorem holds_iff {f : Fact} {M : Met} {ds : List Nat} : f.holds M ds = true ↔ f.okAt M 0 (0, 0) = true ∧ ∀ k d, ds[k]? = some d → f.ok1 M k (M.path (0, 0) (ds.take k)) d = true := by
  unfold Fact.holds
  rw [Bool.and_eq_true, okF_iff]
  constructor
  · rintro ⟨h1, h2⟩
    exact ⟨h1, fun k d h => by have := h2 k d h; rw [Nat.zero_add] at this; exact this⟩
  · rintro ⟨h1, h2⟩
    exact ⟨h1, fun k d h => by rw [Nat.zero_add]; exact h2 k d h⟩
/-- of a fact about a mark -/
theorem holds_at {f : Fact} {M : Met} {ds : List Nat} {m : Nat} (hm : m ≤ ds.length) {b : Pl → Bool} (h1 : ∀ k p, f.okAt M k p = (!(decide (m = k)) || b p)) (h2 : ∀ t c g, f.okIn M t c g = true) (h3 : ∀ t d, f.okCut t d = true) : f.holds M ds = b (M.path (0, 0) (ds.take m)) := by
  rw [Bool.eq_iff_iff, holds_iff]
  constructor
  · rintro ⟨a1, a2⟩
    cases m with
    | zero =>
      rw [h1] at a1
      exact a1
    | succ k =>
      have e : ds[k]? = some (ds[k]'hm) := List.getElem?_eq_getElem hm
      have a := a2 k _ e
      unfold Fact.ok1 at a
      rw [h1, h2, h3] at a
      rw [path_take _ e]
      simpa using a
  · intro a
    constructor
    · rw [h1]
      by_cases z : m = 0
      · subst z
        rw [decide_eq_true rfl]
        exact a
      · rw [decide_eq_false z]
        rfl
    · intro k d e
      unfold Fact.ok1
      rw [h1, h2, h3]
      by_cases z : m = k + 1
      · subst z
        rw [decide_eq_true rfl]
        rw [path_take _ e] at a
        rw [a]
        rfl
      · rw [decide_eq_false z]
        rfl
theorem holds_passed {M : Met} {ds : List Nat} {m : Nat} {w : Int} (hm : m ≤ ds.length) : (Fact.passed m w).holds M ds = decide (w = (M.path (0, 0) (ds.take m)).2) :=
  holds_at hm (b := fun p => decide (w = p.2)) (fun _ _ => rfl) (fun _ _ _ => rfl) (fun _ _ => rfl)
theorem holds_showed {M : Met} {ds : List Nat} {m : Nat} {w : Int} (hm : m ≤ ds.length) : (Fact.showed m w).holds M ds = decide (w = M.price (M.path (0, 0) (ds.take m)).1) :=
  holds_at hm (b := fun p => decide (w = M.price p.1)) (fun _ _ => rfl) (fun _ _ _ => rfl) (fun _ _ => rfl)
def jumpsIn (M : Met) (m : Nat) (ds : List Nat) : Bool := decide (M.jumpsAt (M.path (0, 0) (ds.take m)).1 < M.jumpsAt (M.path (0, 0) (ds.take (m + 1))).1)
theorem holds_jumped {M : Met} {ds : List Nat} {m : Nat} {b : Bool} (hm : m < ds.length) : (Fact.jumped m b).holds M ds = decide (b = jumpsIn M m ds) := by
  rw [Bool.eq_iff_iff, holds_iff]
  have e : ds[m]? = some (ds[m]'hm) := List.getElem?_eq_getElem hm
  unfold jumpsIn
  constructor
  · rintro ⟨_, a2⟩
    have a : (true && ((!(decide (m = m)) || decide (b = decide (M.jumpsAt (M.next (M.path (0, 0) (ds.take m)) _).1 > M.jumpsAt (M.path (0, 0) (ds.take m)).1))) && true)) = true := a2 m _ e
    rw [path_take _ e]
    simpa using a
  · intro a
    refine ⟨rfl, fun k d e2 => ?_⟩
    show (true && ((!(decide (m = k)) || decide (b = decide (M.jumpsAt (M.next (M.path (0, 0) (ds.take k)) d).1 > M.jumpsAt (M.path (0, 0) (ds.take k)).1))) && true)) = true
    by_cases z : m = k
    · subst z
      rw [path_take _ e2] at a
      simpa using a
    · rw [decide_eq_false z]
      rfl
theorem holds_speeds {M : Met} {ds : List Nat} {m d : Nat} {es : List Nat} (hd : ds[m]? = some d) : (Fact.speeds m es).holds M ds = decide (d ∈ es) := by
  rw [Bool.eq_iff_iff, holds_iff]
  constructor
  · rintro ⟨_, a2⟩
    have a : ((!(decide (m = m)) || decide (d ∈ es)) && (true && true)) = true := a2 m _ hd
    simpa using a
  · intro a
    refine ⟨rfl, fun k d' e2 => ?_⟩
    show ((!(decide (m = k)) || decide (d' ∈ es)) && (true && true)) = true
    by_cases z : m = k
    · subst z
      rw [hd] at e2
      cases e2
      rw [a]
      simp
    · rw [decide_eq_false z]
      rfl
/-! ### parts add up -/
theorem sum_one {β : Type} [DecidableEq β] (k : β) : ∀ (ws : List β), ws.Nodup → (ws.map fun w => if w = k then (1 : Int) else 0).sum = if k ∈ ws then 1 else 0
  | [], _ => rfl
  | a :: ws, h => by
    obtain ⟨h1, h2⟩ := List.nodup_cons.mp h
    rw [List.map_cons, List.sum_cons, sum_one k ws h2]
    by_cases e : a = k
    · subst e
      rw [if_pos rfl, if_neg h1, if_pos List.mem_cons_self]
      rfl
    · rw [if_neg e, Int.zero_add]
      by_cases m : k ∈ ws
      · rw [if_pos m, if_pos (List.mem_cons_of_mem _ m)]
      · rw [if_neg m, if_neg (fun z => (List.mem_cons.mp z).elim (fun q => e q.symm) m)]
theorem sum_add {β : Type} (f g : β → Int) : ∀ (ws : List β), (ws.map fun w => f w + g w).sum = (ws.map f).sum + (ws.map g).sum
  | [] => rfl
  | a :: ws => by
    rw [List.map_cons, List.sum_cons, sum_add f g ws, List.map_cons, List.sum_cons, List.map_cons, List.sum_cons]
    omega
theorem sum_zero {β : Type} : ∀ (ws : List β), (ws.map fun _ => (0 : Int)).sum = 0
  | [] => rfl
  | a :: ws => by rw [List.map_cons, List.sum_cons, sum_zero ws]; rfl
theorem part_sum {α β : Type} [DecidableEq β] (key : α → β) {ws : List β} (hn : ws.Nodup) : ∀ {L : List α}, (∀ x ∈ L, key x ∈ ws) → (ws.map fun w => (((L.filter fun x => decide (w = key x)).length : Nat) : Int)).sum = ((L.length : Nat) : Int)
  | [], _ => sum_zero ws
  | x :: L, h => by
    have ih := part_sum key hn (L := L) fun y hy => h y (List.mem_cons_of_mem _ hy)
    have e : (ws.map fun w => ((((x :: L).filter fun x => decide (w = key x)).length : Nat) : Int)) = ws.map fun w => (if w = key x then (1 : Int) else 0) + (((L.filter fun x => decide (w = key x)).length : Nat) : Int) := by
      apply List.map_congr_left
      intro w _
      rw [List.filter_cons]
      by_cases z : w = key x
      · rw [if_pos z, if_pos (decide_eq_true z), List.length_cons]
        omega
      · rw [if_neg z, if_neg (fun q => z (of_decide_eq_true q)), Int.zero_add]
    rw [e, sum_add, ih, sum_one _ _ hn, if_pos (h x List.mem_cons_self), List.length_cons]
    omega
theorem part_ne {α β : Type} [DecidableEq β] (key : α → β) {L : List α} {w : β} (h : ∃ x ∈ L, key x = w) : (((L.filter fun x => decide (w = key x)).length : Nat) : Int) ≠ 0 := by
  obtain ⟨x, hx, e⟩ := h
  have hm : x ∈ L.filter fun x => decide (w = key x) := List.mem_filter.mpr ⟨hx, decide_eq_true e.symm⟩
  have := List.length_pos_of_mem hm
  omega
theorem add_many {R : Rec} {f : Fact} {b : List Nat → Bool} (h : ∀ ds ∈ R.trips, f.holds R.met ds = b ds) : (R.add f).howMany = (((R.trips.filter b).length : Nat) : Int) := by
  rw [howMany_len, add_trips, List.filter_congr h]
theorem trip_len {R : Rec} {ds : List Nat} (h : ds ∈ R.trips) : ds.length = R.ticks := (mem_trips.mp h).2.1
theorem lt_nodup {l : List Int} (h : l.Pairwise (· < ·)) : l.Nodup := List.Pairwise.imp (fun h => by omega) h
theorem parts_of {R : Rec} {m : Nat} (hm : m ≤ R.ticks) (h0 : ∀ x ∈ (R.behindAt m).map (·.1), 0 ≤ x.1 ∧ 0 ≤ x.2) : Parts R m := by
  have bk := fun q => behind_key hm (q := q)
  -- the values of a function of the place
  have vals : ∀ (g : Pl → Int) (ws : List Int), (∀ x, x ∈ ws ↔ x ∈ (R.behindAt m).map fun e => g e.1) → ∀ x, x ∈ ws ↔ ∃ ds ∈ R.trips, g (R.met.path (0, 0) (ds.take m)) = x := by
    intro g ws hw x
    rw [hw, List.mem_map]
    constructor
    · rintro ⟨e, he, rfl⟩
      obtain ⟨ds, hd, e2⟩ := (bk e.1).mp (List.mem_map.mpr ⟨e, he, rfl⟩)
      exact ⟨ds, hd, by rw [e2]⟩
    · rintro ⟨ds, hd, rfl⟩
      obtain ⟨e, he, e2⟩ := List.mem_map.mp ((bk _).mpr ⟨ds, hd, rfl⟩)
      exact ⟨e, he, by rw [e2]⟩
  have main : ∀ {β : Type} [DecidableEq β] (key : List Nat → β) (F : β → Fact) (ws : List β), ws.Nodup → (∀ w, ∀ ds ∈ R.trips, (F w).holds R.met ds = decide (w = key ds)) → (∀ x, x ∈ ws ↔ ∃ ds ∈ R.trips, key ds = x) → (ws.map fun w => (R.add (F w)).howMany).sum = R.howMany ∧ ∀ w ∈ ws, (R.add (F w)).howMany ≠ 0 := by
    intro β _ key F ws hn hF hw
    have e : (ws.map fun w => (R.add (F w)).howMany) = ws.map fun w => (((R.trips.filter fun ds => decide (w = key ds)).length : Nat) : Int) := List.map_congr_left fun w _ => add_many (hF w)
    rw [e, howMany_len]
    refine ⟨part_sum key hn fun ds hd => (hw _).mpr ⟨ds, hd, rfl⟩, fun w h => ?_⟩
    rw [add_many (hF w)]
    exact part_ne key ((hw w).mp h)
  refine ⟨fun e he => ?_, fun ws pw hw => ?_, fun ws pw hw => ?_, fun hlt es hn hes => ?_, fun hlt => ?_⟩
  · have := h0 e.1 (List.mem_map.mpr ⟨e, he, rfl⟩)
    exact ⟨this.2, this.1⟩
  · exact main (fun ds => (R.met.path (0, 0) (ds.take m)).2) (fun w => .passed m w) ws (lt_nodup pw) (fun w ds hd => holds_passed (by rw [trip_len hd]; exact hm)) (vals (fun p => p.2) ws hw)
  · exact main (fun ds => R.met.price (R.met.path (0, 0) (ds.take m)).1) (fun w => .showed m w) ws (lt_nodup pw) (fun w ds hd => holds_showed (by rw [trip_len hd]; exact hm)) (vals (fun p => R.met.price p.1) ws hw)
  · refine main (fun ds => ds.getD m 0) (fun d => .speeds m [d]) es hn (fun w ds hd => ?_) (fun x => ?_)
    · have hl := trip_len hd
      have e : ds[m]? = some (ds[m]'(by omega)) := List.getElem?_eq_getElem (by omega)
      generalize ds[m]'_ = d at e
      rw [holds_speeds e, List.getD_eq_getElem?_getD, e]
      apply decide_eq_decide.mpr
      rw [List.mem_singleton]
      exact eq_comm
    · rw [hes, open_digit hlt]
      constructor
      · rintro ⟨ds, hd, e⟩
        exact ⟨ds, hd, by rw [List.getD_eq_getElem?_getD, e]; rfl⟩
      · rintro ⟨ds, hd, rfl⟩
        have hl := trip_len hd
        refine ⟨ds, hd, ?_⟩
        rw [List.getD_eq_getElem?_getD, List.getElem?_eq_getElem (show m < ds.length by omega)]
        rfl
  · have hF : ∀ b : Bool, ∀ ds ∈ R.trips, (Fact.jumped m b).holds R.met ds = decide (b = jumpsIn R.met m ds) := fun b ds hd => holds_jumped (by rw [trip_len hd]; exact hlt)
    rw [add_many (hF true), add_many (hF false), howMany_len]
    have := part_sum (jumpsIn R.met m) (ws := [true, false]) (by decide) (L := R.trips) fun x _ => by
      cases jumpsIn R.met m x <;> decide
    rw [← this]
    show _ = _ + (_ + 0)
    rw [Int.add_zero]
/-! ### claims -/
theorem claims_of {R : Rec} {m : Nat} (hm : m ≤ R.ticks) (h0 : ∀ x ∈ (R.behindAt m).map (·.1), 0 ≤ x.1 ∧ 0 ≤ x.2) (hne : R.trips ≠ []) : Claims R m := by
  have bk := fun q => behind_key hm (q := q)
  have b1 : ∀ e ∈ R.behindAt m, ∃ ds ∈ R.trips, R.met.path (0, 0) (ds.take m) = e.1 := fun e he => (bk e.1).mp (List.mem_map.mpr ⟨e, he, rfl⟩)
  have b2 : ∀ ds ∈ R.trips, ∃ e ∈ R.behindAt m, e.1 = R.met.path (0, 0) (ds.take m) := fun ds hd => List.mem_map.mp ((bk _).mpr ⟨ds, hd, rfl⟩)
  obtain ⟨d0, hd0⟩ := List.exists_mem_of_ne_nil _ hne
  have ev : ∀ b1 b2 : Bool, ∀ x, (R.layD m x true R.ticks).isEmpty = b1 → (R.layD m x false R.ticks).isEmpty = b2 → R.verdict m x = (if (b1 && b2) = true then ("none" : PySem.Str) else if (!b1 && !b2) = true then ("sometimes" : PySem.Str) else if (!b1) = true then ("always" : PySem.Str) else ("never" : PySem.Str)) := by
    intro b1 b2 x h1 h2
    unfold Rec.verdict
    rw [h1, h2]
  have emp : ∀ x wt, (¬ ∃ ds ∈ R.trips, decide (x ≤ (R.met.path (0, 0) (ds.take m)).2) = wt) → (R.layD m x wt R.ticks).isEmpty = true := by
    intro x wt h
    cases e : (R.layD m x wt R.ticks).isEmpty with
    | true => rfl
    | false => exact absurd ((lay_empty hm).mp e) h
  refine ⟨fun e he => (h0 e.1 (List.mem_map.mpr ⟨e, he, rfl⟩)).2, fun z => ?_, fun x hx hall => ?_, fun x hx h1 h2 => ?_, fun x hx hall => ?_, ?_, fun t ht o ho => ?_, fun z => ?_, fun e he => ?_, fun b hb => ?_⟩
  · obtain ⟨e, he, _⟩ := b2 d0 hd0
    rw [z] at he
    cases he
  · have h : ∀ ds ∈ R.trips, x ≤ (R.met.path (0, 0) (ds.take m)).2 := fun ds hd => by
      obtain ⟨e, he, e2⟩ := b2 ds hd
      rw [← e2]
      exact hall e he
    rw [ev false true x ((lay_empty hm).mpr ⟨d0, hd0, decide_eq_true (h d0 hd0)⟩) (emp x false fun ⟨ds, hd, e⟩ => of_decide_eq_false e (h ds hd))]
    rfl
  · obtain ⟨e1, he1, l1⟩ := h1
    obtain ⟨e2, he2, l2⟩ := h2
    obtain ⟨ds1, hd1, q1⟩ := b1 e1 he1
    obtain ⟨ds2, hd2, q2⟩ := b1 e2 he2
    rw [ev false false x ((lay_empty hm).mpr ⟨ds1, hd1, decide_eq_true (by rw [q1]; exact l1)⟩) ((lay_empty hm).mpr ⟨ds2, hd2, decide_eq_false (by rw [q2]; exact l2)⟩)]
    rfl
  · have h : ∀ ds ∈ R.trips, ¬ x ≤ (R.met.path (0, 0) (ds.take m)).2 := fun ds hd => by
      obtain ⟨e, he, e2⟩ := b2 ds hd
      rw [← e2]
      exact hall e he
    rw [ev true false x (emp x true fun ⟨ds, hd, e⟩ => h ds hd (of_decide_eq_true e)) ((lay_empty hm).mpr ⟨d0, hd0, decide_eq_false (h d0 hd0)⟩)]
    rfl
  · rw [howMany_len]
    have := List.length_pos_of_mem hd0
    omega
  · exact ((rng_spec R t (by omega)).1 _).mpr ((mem_open (by omega)).mp ho).1
  · obtain ⟨e, he, _⟩ := b2 d0 hd0
    have := ((rng_spec R m hm).1 e.1).mpr (List.mem_map.mpr ⟨e, he, rfl⟩)
    rw [z] at this
    cases this
  · obtain ⟨i1, i2⟩ := rng_spec R m hm
    have e2 := i2 e he
    obtain ⟨b, hb, e3⟩ := List.mem_map.mp ((i1 e.1).mp (List.mem_map.mpr ⟨e, he, rfl⟩))
    exact ⟨⟨b, hb, by rw [e2, e3]⟩, b, hb, by rw [e2, e3]⟩
  · obtain ⟨i1, i2⟩ := rng_spec R m hm
    obtain ⟨e, he, e3⟩ := List.mem_map.mp ((i1 b.1).mpr (List.mem_map.mpr ⟨b, hb, rfl⟩))
    have e2 := i2 e he
    refine ⟨e, he, ?_, ?_⟩
    · rw [e2, e3]
      exact Int.le_refl _
    · rw [e2, e3]
      exact Int.le_refl _
/-! ### the base trip -/
theorem path_run (M : Met) : ∀ (ds : List Nat) (p : Pl), M.path p ds = (M.run p.1 ds, p.2 + ((ds.sum : Nat) : Int))
  | [], p => by
    show p = (p.1, p.2 + 0)
    rw [Int.add_zero]
  | d :: ds, p => by
    show M.path (M.next p d) ds = _
    rw [path_run M ds, List.sum_cons]
    show (M.run (M.countOn p.1 d) ds, p.2 + (d : Int) + _) = (M.run (M.countOn p.1 d) ds, _)
    congr 1
    omega
theorem tells_holds {f : Fact} {M : Met} {ds : List Nat} (h : f.tells M ds) : f.holds M ds = true := by
  cases f with
  | passed t i =>
    obtain ⟨h1, h2⟩ := h
    rw [holds_passed h1, path_run]
    apply decide_eq_true
    rw [h2]
    show _ = 0 + _
    rw [Int.zero_add]
  | showed t i =>
    obtain ⟨h1, h2⟩ := h
    rw [holds_showed h1, path_run]
    exact decide_eq_true h2
  | jumped t b =>
    obtain ⟨h1, h2⟩ := h
    rw [holds_jumped h1]
    unfold jumpsIn
    rw [path_run, path_run]
    exact decide_eq_true h2
  | speeds t es =>
    obtain ⟨d, h1, h2⟩ := h
    rw [holds_speeds h1]
    exact decide_eq_true h2
theorem eq_holds {f f' : Fact} {M : Met} {ds : List Nat} (e : FactEq f f') (h : f.tells M ds) : f'.holds M ds = true := by
  cases e with
  | rfl => exact tells_holds h
  | sp t pe =>
    obtain ⟨d, h1, h2⟩ := h
    exact tells_holds (f := .speeds t _) ⟨d, h1, pe.mem_iff.mpr h2⟩
theorem base_add {R : Rec} {f f' : Fact} {ds : List Nat} (hd : ds ∈ R.trips) (h : f.tells R.met ds) (e : FactEq f f') : ds ∈ (R.add f').trips := by
  rw [add_trips]
  exact List.mem_filter.mpr ⟨hd, eq_holds e h⟩
theorem base_nil {M : Met} {n top : Nat} {ds : List Nat} (hl : ds.length = n) (hd : ∀ d ∈ ds, d ≤ top) : ds ∈ (⟨M, n, top, []⟩ : Rec).trips := by
  refine mem_trips.mpr ⟨rfl, hl, ?_⟩
  clear hl
  suffices h : ∀ (t : Nat) (p : Pl), (⟨M, n, top, []⟩ : Rec).okF t p ds = true from h 0 (0, 0)
  induction ds with
  | nil => exact fun _ _ => rfl
  | cons d ds ih =>
    intro t p
    show (decide (d ∈ List.range (top + 1)) && (true && true) && _) = true
    have h1 := hd d List.mem_cons_self
    rw [decide_eq_true (List.mem_range.mpr (by omega)), ih (fun x hx => hd x (List.mem_cons_of_mem _ hx))]
    rfl
theorem fits_base {R : Rec} {ds : List Nat} (hd : ds ∈ R.trips) : 0 < (R.fitsP ds R.ticks).length := by
  obtain ⟨a0, a1, a2⟩ := mem_trips.mp hd
  suffices h : ∀ t, t ≤ R.ticks → R.met.path (0, 0) (ds.take t) ∈ R.fitsP ds t from List.length_pos_of_mem (h R.ticks (Nat.le_refl _))
  intro t
  induction t with
  | zero => exact fun _ => begins_mem.mpr ⟨a0, rfl⟩
  | succ t ih =>
    intro ht
    have h3 : ds[t]? = some (ds[t]'(by omega)) := List.getElem?_eq_getElem (by omega)
    generalize ds[t]'_ = d at h3
    have a3 := (okF_take a2 (k := t + 1) (by omega)).1
    rw [take_snoc h3, okF_snoc, Nat.zero_add] at a3
    have tl : (ds.take t).length = t := by rw [List.length_take]; omega
    rw [tl] at a3
    show _ ∈ (R.fitsP ds t).flatMap _
    refine List.mem_flatMap.mpr ⟨_, ih (by omega), List.mem_map.mpr ⟨(d, R.met.path (0, 0) (ds.take (t + 1))), List.mem_filter.mpr ⟨mem_steps.mpr ⟨a3.2, path_take _ h3⟩, decide_eq_true ?_⟩, rfl⟩⟩
    rw [List.getD_eq_getElem?_getD, h3]
    rfl
end Cab
/-! text CabZ1 -/
set_option Elab.async false
set_option linter.all false
set_option maxRecDepth 100000
set_option maxHeartbeats 4000000
/-! the law itself -/
namespace Cab
open PySem PySem.Spec PyProof.Rows L2 He
open LamX (CodeO TabS Tabs ExtN TabB lam_make2 run_ofS)
theorem Tabs.butBag {T0 : List (Addr × PySem.Str)} {l p : Addr} {H H' : Hp} (bg : BagAt l H p) (b : But p H H') (t : Tabs T0 H) : Tabs T0 H' := by
  obtain ⟨_, _, _, _, _, e, _⟩ := bg
  exact Tabs.butL t b e
theorem RecAt.butBag {K : PySem.W.Frag} {l p q : Addr} {R : Rec} {H H' : Hp} (bg : BagAt l H p) (b : But p H H') (h : RecAt K H q R) : RecAt K H' q R := by
  obtain ⟨_, _, _, _, _, e, _⟩ := bg
  exact RecAt.but b e (fun z => z) h
theorem BagAt.butI {l p q C dx : Addr} {fs : List (PySem.Str × V)} {H H' : Hp} (hq : H q = some (.ins C dx fs)) (b : But q H H') (bg : BagAt l H p) : BagAt l H' p := by
  obtain ⟨ns, i, c, h, n, e1, e2⟩ := bg
  exact ⟨ns, i, c, h, n, b _ _ e1 (ne_of e1 hq (by intro z; cases z)), b _ _ e2 (ne_of e2 hq (by intro z; cases z))⟩
theorem cutV_mem {xs : List V} {lo hi : Option Int} {v : V} (h : v ∈ cutV xs lo hi) : v ∈ xs := List.mem_of_mem_drop (List.mem_of_mem_take h)
section
variable {P : Program} {w : World} {K : PySem.W.Frag} {mg : Str → Option Value} {base : Heap}
def spLaw (K : PySem.W.Frag) : Sp := sp1 fun a H Q => ∃ (q : Addr) (ns : List Int), a = .ref q ∧ SqL K H q (ns.map V.int) ∧ Tabs (Tl K) H ∧ ∀ H', Q (.bl true) H'
theorem ok_law (T : TX K mg) (TB : TabB base mg (cLam K) (tLam K)) : FnP P w K mg base d_law 24 ["_law_script"] (spLaw K) [] := by
  refine fn1 (T.d D_law) rfl sc_law bd_law fun cdv A outer s H Q E a hr h => ?_
  obtain ⟨q0, ns, rfl, hS, hT, q⟩ := h
  refine wb_cons <| ws_set 1 (we_call (ok_law_bag T) (T.g g_law_bag) hr <| wa_cons <| we_var 0 rfl <| wa_nil ⟨_, rfl, q0, ns, rfl, hS, fun l p H1 s1 np nl bg1 => ?_⟩) sc_law.nd
  have hT1 := hT.ext s1
  refine wb_cons <| ws_set 2 (we_call (ok_law_meter T) (T.g g_law_meter) hr <| wa_cons <| we_var 1 rfl <| wa_cons <| we_int <| wa_nil ⟨_, _, rfl, l, p, rfl, bg1, rfl, fun g M H2 b2 bg2 okM asM hp2 => ?_⟩) sc_law.nd
  have hT2 := Tabs.butBag bg1 b2 hT1
  -- ticks, top
  refine wb_cons <| ws_asg <| we_ix ix_list <| we_lst <| wa_cons <| we_tup <| wa_cons <| we_call (ok_law_draw T) (T.g g_law_draw) hr <| wa_cons <| we_var 1 rfl <| wa_cons <| we_int <| wa_nil ⟨_, _, rfl, l, p, 4, rfl, bg2, rfl, by decide, by decide, fun x0 H3 hx0 b3 bg3 => wa_cons <| we_int <| wa_nil ⟨by show 2 ≤ sizeLine; decide, fun t0 H4 ht0 s4 e4 => ?_⟩⟩
  have bg4 := bg3.mono s4
  have n0 : p ≠ t0 := fresh_ne bg3.ne ht0
  refine wa_cons <| we_tup <| wa_cons <| we_call (ok_law_draw T) (T.g g_law_draw) hr <| wa_cons <| we_var 1 rfl <| wa_cons <| we_int <| wa_nil ⟨_, _, rfl, l, p, 9, rfl, bg4, rfl, by decide, by decide, fun x1 H5 hx1 b5 bg5 => wa_cons <| we_int <| wa_nil ⟨by show 2 ≤ sizeLine; decide, fun t1 H6 ht1 s6 e6 => wa_nil ⟨by show 2 ≤ sizeLine; decide, fun L H7 hL s7 e7 => ?_⟩⟩⟩
  have n1 : p ≠ t1 := fresh_ne bg5.ne ht1
  have bg6 := bg5.mono s6
  have nL : p ≠ L := fresh_ne bg6.ne hL
  refine we_call (ok_law_draw T) (T.g g_law_draw) hr <| wa_cons <| we_var 1 rfl <| wa_cons <| we_int <| wa_nil ⟨_, _, rfl, l, p, 2, rfl, bg6.mono s7, rfl, by decide, by decide, fun x2 H8 hx2 b8 bg8 => ?_⟩
  have b28 : But p H2 H8 := But.trans b3 (But.trans (But.same s4) (But.trans b5 (But.trans (But.same (Same.trans s6 s7)) b8)))
  obtain ⟨u, n, top, hu, eu, n8, t9, hsz⟩ : ∃ (u : Addr) (n top : Nat), ([V.ref t0, V.ref t1] : List V)[x2]? = some (.ref u) ∧ H8 u = some (.tup [.int (n : Nat), .int (top : Nat)]) ∧ n ≤ 8 ∧ top ≤ 9 ∧ (top + 1) ^ n ≤ 6561 := by
    have c : x2 = 0 ∨ x2 = 1 := by omega
    rcases c with rfl | rfl
    · exact ⟨t0, x0, 9, rfl, b8 _ _ (s7 _ _ (s6 _ _ (b5 _ _ e4 (Ne.symm n0)))) (Ne.symm n0), by omega, by omega, Nat.le_trans (Nat.pow_le_pow_right (by decide) (show x0 ≤ 3 by omega)) (by decide)⟩
    · exact ⟨t1, x1, 2, rfl, b8 _ _ (s7 _ _ e6) (Ne.symm n1), by omega, by omega, Nat.le_trans (Nat.pow_le_pow_right (by decide) (show x1 ≤ 8 by omega)) (by decide)⟩
  refine ⟨L, _, _, _, rfl, rfl, SqL.of (b8 _ _ e7 (Ne.symm nL)), at_of (j := x2) (v := .ref u) rfl hu, wg_tup2 3 4 (SqT.of eu) ?_ rfl sc_law.nd⟩
  have hp8 := hp2.butB bg2 b28
  have hT8 := Tabs.butBag bg2 b28 hT2
  clear hu eu e4 e6 e7 n0 n1 nL b3 b5 b8 s4 s6 s7 bg3 bg4 bg5 bg6
  -- the trip, the record
  refine wb_cons <| ws_set 5 (we_call (ok_law_base_trip T) (T.g g_law_base_trip) hr <| wa_cons <| we_var 1 rfl <| wa_cons <| we_var 3 rfl <| wa_cons <| we_var 4 rfl <| wa_nil ⟨_, _, _, rfl, l, p, n, top, rfl, bg8, rfl, rfl, n8, t9, fun ds H9 b9 bg9 hdl hdt => ?_⟩) sc_law.nd
  have hp9 := hp8.butB bg8 b9
  have hT9 := Tabs.butBag bg8 b9 hT8
  have hd10 : ∀ d ∈ ds, d < 10 := fun d hd => by have := hdt d hd; omega
  refine wb_cons <| ws_set 6 (we_make (ok_Record_init T) (T.k k_Record) (T.g g_Record) hr <| wa_cons <| we_call (ok_law_made T) (T.g g_law_made) hr <| wa_cons <| we_var 2 rfl <| wa_nil ⟨_, rfl, p, g, M, rfl, hp9, okM, asM, fun mq H10 s10 mM => wa_cons <| we_var 3 rfl <| wa_cons <| we_var 4 rfl <| wa_nil fun r dx H11 n1 n2 n3 s11 e11 => ⟨r, dx, mq, M, n, top, rfl, e11, mM.mono s11, by omega, t9, fun H12 b12 R12 => ⟨rfl, ?_⟩⟩⟩) sc_law.nd
  have s911 := Same.trans s10 s11
  have bg12 := (bg9.mono s911).butI e11 b12
  have hp12 := (hp9.mono s911).butI e11 b12
  have hT12 : Tabs (Tl K) H12 := Tabs.but (hT9.ext s911) b12 e11
  have ok0 : okRec ⟨M, n, top, []⟩ := ⟨okM, n8, t9, hsz, Nat.zero_le _, fun f h => (nomatch h)⟩
  have base0 : ds ∈ (⟨M, n, top, []⟩ : Rec).trips := base_nil hdl hdt
  -- true facts are told
  refine wb_cons <| ws_forW PassesOwn.never rfl (fun _ => rfl) <| wi_rng1 (T.fr f_range) <| we_call (ok_law_draw T) (T.g g_law_draw) hr <| wa_cons <| we_var 1 rfl <| wa_cons <| we_int <| wa_nil ⟨_, _, rfl, l, p, 4, rfl, bg12, rfl, by decide, by decide, fun k H13 hk b13 bg13 => ⟨_, rfl, by omega, by omega, ?_⟩⟩
  rw [Int.toNat_natCast]
  refine ⟨k, _, _, walk_range (lo := 0) (n := k), fun i σ H' => (∃ R : Rec, R.met = M ∧ R.ticks = n ∧ R.facts.length = i ∧ okRec R ∧ ds ∈ R.trips ∧ RecAt K H' r R) ∧ BagAt l H' p ∧ PlainAt p H' g M ∧ Tabs (Tl K) H' ∧ ∃ v7 v8, σ = [some (.ref q0), some (.ref p), some (.ref g), some (.int (n : Nat)), some (.int (top : Nat)), some (.str (tx ds)), some (.ref r), v7, v8], ⟨⟨_, rfl, rfl, rfl, ok0, base0, RecAt.butBag bg12 b13 R12⟩, bg13, hp12.butB bg12 b13, Tabs.butBag bg12 b13 hT12, _, _, rfl⟩, fun _ _ _ _ _ => trivial, ?_, ?_⟩
  · rintro i x σ H14 H15 hi ⟨⟨R, rm, rt, rf, ok, hb, hRR⟩, bg, hp, hT, v7, v8, rfl⟩ ⟨rfl, rfl⟩
    refine wg_name 7 ?_ sc_law.nd
    refine wb_cons <| ws_if <| wt_cmp op_notN <| we_call (ok_law_tell T) (T.g g_law_tell) hr <| wa_cons <| we_var 6 rfl <| wa_cons <| we_call (ok_law_true_fact T) (T.g g_law_true_fact) hr <| wa_cons <| we_var 1 rfl <| wa_cons <| we_var 2 rfl <| wa_cons <| we_var 5 rfl <| wa_nil ⟨_, _, _, rfl, l, p, g, M, ds, rfl, bg, rfl, hp, okM, rfl, by omega, hd10, fun z f H16 b16 bg16 ef tf gf => wa_nil ⟨_, _, rfl, r, z, R, f, rfl, rfl, RecAt.butBag bg b16 hRR, ok, ef, gf R (by rw [rt, hdl]), fun f' H17 fe b17 R17 => we_non ⟨rfl, _, rfl, ?_⟩⟩⟩
    rw [decide_eq_true (rfl : V.non = V.non)]
    obtain ⟨f0, hR0⟩ := RecAt.butBag bg b16 hRR
    obtain ⟨dx6, me, t, qs, h1, _⟩ := hR0.ex
    refine iteF <| wb_nil <| wb_nil ⟨⟨R.add f', rm, rt, ?_, ok.add (by omega) (fe.good (gf R (by rw [rt, hdl]))), base_add hb (by rw [rm]; exact tf) fe, R17⟩, bg16.butI h1 b17, (hp.butB bg b16).butI h1 b17, Tabs.but (Tabs.butBag bg b16 hT) b17 h1, _, _, rfl⟩
    show (R.facts ++ [f']).length = i + 1
    rw [List.length_append, rf]
    rfl
  rintro σ H14 ⟨⟨R, rm, rt, rf, ok, hb, hRR⟩, bg, hp, hT, v7, v8, rfl⟩
  subst rt
  have few : R.facts.length ≤ 50 := by omega
  have hne : R.trips ≠ [] := fun z => by
    rw [z] at hb
    cases hb
  -- the marks
  refine wb_cons <| ws_forW PassesOwn.never rfl (fun _ => rfl) <| wi_list <| we_cut sl_list <| we_call (ok_law_mixed T) (T.g g_law_mixed) hr <| wa_cons <| we_var 1 rfl <| wa_cons <| (show WE _ _ _ _ _ from wE (pe_listRg rfl (by rfl) (T.fr f_list) (prg_1 (by rfl) (T.fr f_range) pE)) <| (show WE _ _ _ _ _ from we_add <| we_var 3 rfl <| we_int ⟨_, _, rfl, rfl, _, rfl, RgOk.of_le (by decide) (by omega) (by decide) (by omega), fun L hL => ?_⟩))
  have ern : ((R.ticks : Nat) : Int) + 1 = ((R.ticks + 1 : Nat) : Int) := rfl
  rw [ern, rg_tick]
  have s15 : Same H14 (upd H14 L (.lst ((List.range (R.ticks + 1)).map fun (i : Nat) => V.int ((i : Nat) : Int)))) := Same.new hL
  have eL : (upd H14 L (.lst ((List.range (R.ticks + 1)).map fun (i : Nat) => V.int ((i : Nat) : Int)))) L = some (.lst ((List.range (R.ticks + 1)).map fun (i : Nat) => V.int ((i : Nat) : Int))) := upd_same
  generalize upd H14 L (.lst ((List.range (R.ticks + 1)).map fun (i : Nat) => V.int ((i : Nat) : Int))) = H15 at s15 eL
  have bg15 := bg.mono s15
  refine wa_nil ⟨_, _, rfl, l, p, L, _, rfl, bg15, rfl, eL, Ne.symm (fresh_ne bg.ne hL), by rw [List.length_map, List.length_range]; omega, fun rr ys H16 b16 bg16 pm hrr err => we_int ⟨3, rfl, rr, _, rfl, SqL.of err, fun L2 hL2 => ?_⟩⟩
  have hmem : ∀ v ∈ cutV ys none (some 3), ∃ m : Nat, m ≤ R.ticks ∧ v = V.int (m : Nat) := fun v hv => by
    obtain ⟨m, hm, rfl⟩ := List.mem_map.mp (pm.mem_iff.mp (cutV_mem hv))
    exact ⟨m, by have := List.mem_range.mp hm; omega, rfl⟩
  generalize cutV ys none (some 3) = xs at hmem
  have s17 : Same H16 (upd H16 L2 (.lst xs)) := Same.new hL2
  have eL2 : (upd H16 L2 (.lst xs)) L2 = some (.lst xs) := upd_same
  generalize upd H16 L2 (.lst xs) = H17 at s17 eL2
  have R17 := (RecAt.butBag bg15 b16 (hRR.mono s15)).mono s17
  have hT17 := (Tabs.butBag bg15 b16 (hT.ext s15)).ext s17
  refine ⟨L2, _, rfl, SqL.of eL2, _, _, _, walk_list (xs := xs), fun i σ H' => H' L2 = some (.lst xs) ∧ RecAt K H' r R ∧ Tabs (Tl K) H' ∧ ∃ v7 v8, σ = [some (.ref q0), some (.ref p), some (.ref g), some (.int (R.ticks : Nat)), some (.int (top : Nat)), some (.str (tx ds)), some (.ref r), v7, v8], ⟨eL2, R17, hT17, _, _, rfl⟩, fun _ _ _ _ z => SqL.of z.1, ?_, ?_⟩
  · rintro i x σ H18 H19 hi ⟨e18, R18, T18, v7, v8, rfl⟩ ⟨rfl, hx⟩
    obtain ⟨m, hm, rfl⟩ := hmem x (List.mem_of_getElem? hx)
    have h0 : ∀ x ∈ (R.behindAt m).map (·.1), 0 ≤ x.1 ∧ 0 ≤ x.2 := fun x hx => by
      have := ok.behindB hm x hx
      exact ⟨this.1, this.2.2.1⟩
    obtain ⟨f0, hR0⟩ := id R18
    obtain ⟨dx6, me, t, qs, h1, _⟩ := hR0.ex
    refine wg_name 8 ?_ sc_law.nd
    exact wb_cons <| ws_if <| wt_W <| ww_or <| wt_not <| wt_val <| we_call (ok_law_parts_right T TB) (T.g g_law_parts_right) hr <| wa_cons <| we_var 6 rfl <| wa_cons <| we_var 3 rfl <| wa_cons <| we_var 8 rfl <| wa_nil ⟨_, _, _, rfl, r, R, m, rfl, R18, ok, few, T18, rfl, rfl, hm, parts_of hm h0, fun H20 b20 t20 r20 => ⟨true, rfl, iteF <| ww_or1 <| wt_not <| wt_val <| we_call (ok_law_claims_right T) (T.g g_law_claims_right) hr <| wa_cons <| we_var 6 rfl <| wa_cons <| we_var 3 rfl <| wa_cons <| we_var 8 rfl <| wa_nil ⟨_, _, _, rfl, r, R, m, rfl, r20, ok, rfl, rfl, hm, claims_of hm h0 hne, fun H21 s21 => ⟨true, rfl, iteF <| wb_nil <| wb_nil ⟨s21 _ _ (b20 _ _ e18 (ne_of e18 h1 (by intro z; cases z)) (by intro _ z; cases z)), r20.mono s21, t20.ext s21, _, _, rfl⟩⟩⟩⟩⟩
  rintro σ H18 ⟨e18, R18, T18, v7, v8, rfl⟩
  obtain ⟨f0, hR0⟩ := id R18
  obtain ⟨dx6, me, t, qs, h1, _⟩ := hR0.ex
  refine wb_cons <| ws_ret <| we_meth (ok_Record_fits T) (T.c c_Record) (T.m m_Record_fits) hr <| we_var 6 rfl ⟨r, dx6, _, rfl, h1, by kernel_rfl, wa_cons <| we_var 5 rfl <| wa_nil ⟨_, _, rfl, r, R, ds, rfl, R18, ok, rfl, hdl, hd10, fun H19 s19 => ?_⟩⟩
  rw [decide_eq_true (fits_base hb)]
  exact q H19
end
end Cab
/-! text CabEnd -/
set_option Elab.async false
set_option linter.all false
set_option maxRecDepth 100000
set_option maxHeartbeats 0
/-! the end -/
namespace Cab
open PySem PySem.Spec PyProof.Rows L2 He
open LamX (CodeO TabS Tabs ExtN TabB lam_make2 run_ofS)
theorem fun_uniq {K : PySem.W.Frag} {x qual : Str} {params : Arguments} {body : List Stmt} {scope : Scope} {dvs : List V} {kws : List (Str × V)} {f : Addr} {fd fd' : FuncData} (F : FunD K x qual params body scope dvs kws f fd) (F' : FunD K x qual params body scope dvs kws f fd') : fd' = fd := by
  obtain ⟨oc, od, dV, kV, doc, pm, an, cdv, ct, osl, e1, lk, _⟩ := F.ex
  obtain ⟨oc', od', dV', kV', doc', pm', an', cdv', ct', osl', e1', lk', _⟩ := F'.ex
  rw [lk] at lk'
  have h := congrArg Obj.data (Option.some.inj lk')
  injection h with h
  exact h.symm
theorem law_at {w : World} {K : PySem.W.Frag} {h : Heap} {mg : Str → Option Value} {a : Addr} (KX : K.In h) (G : h.Ns mainGlobals mg) (hmg : mg ("law" : Str) = some (.ref a)) (c : SaysP fa fp tf exl w h K) : LamX.LawAtS PySem.Challenge.rw_cabmeters_k96_whole_one_fact_more w K CX0 24 63 "_law_script" mg a h := by
  have T : TX K mg := ⟨w, h, KX, G, c⟩
  have e := hmg.symm.trans (T.g g_law)
  cases e
  obtain ⟨fd, F⟩ := T.d D_law
  have mem : pG "_law_left_by" ∈ tf := List.mem_singleton.mpr rfl
  have e0 : d_law.dvs K = [] := rfl
  have b := FunD.bindsA (ps := ["_law_script"]) (by rw [e0] at F; exact F) bd_law
  refine ⟨fd, [(cLam K, tLam K)], spLaw K, fun p hp => ?_, fun p hp => ?_, fun p hp => ?_, fun s u => b s [u] rfl, fun H q ns hl hb hT hS => ?_, fun base hK hN hTB => ?_⟩
  · rw [List.mem_singleton.mp hp]
    exact c.empty _ mem
  · rw [List.mem_singleton.mp hp]
    exact c.out _ mem
  · rw [List.mem_singleton.mp hp]
    exact PySem.W.codeHd_of_K KX (c.hd _ mem)
  · refine ⟨_, rfl, q, ns, rfl, hS, fun p hp => ?_, fun _ => rfl⟩
    rw [List.mem_singleton.mp hp]
    exact TabS.nil (hT _ (List.mem_singleton.mpr rfl))
  · obtain ⟨fd', ds, h1, h2, _⟩ := (ok_law (P := (PySem.Challenge.rw_cabmeters_k96_whole_one_fact_more).prog) (w := w) T (hTB _ (List.mem_singleton.mpr rfl))).ex
    rw [← fun_uniq F h2]
    exact h1
end Cab
open PySem PySem.W PySem.Calls PyProof.Rows
theorem PySem.Challenge.cw_cabmeters_k96_whole_one_fact_more_holds : PySem.Challenge.rw_cabmeters_k96_whole_one_fact_more.Holds := by
  w_on; o_law
  refine HandSHeadRun.head_any (r := OpenLaw.row PySem.Challenge.rw_cabmeters_k96_whole_one_fact_more) (q := view (OpenLaw.row PySem.Challenge.rw_cabmeters_k96_whole_one_fact_more).prog [85]) (H := Cab.hk) (ob := Cab.ob) (M := 12000) (loose := Cab.loose) (d := HandSHeadRun.topDef (OpenLaw.row PySem.Challenge.rw_cabmeters_k96_whole_one_fact_more).prog 85) (kwd := []) Cab.ob_eq
    (by kernel_rfl) (fun s => by kernel_rfl) Cab.run (by kernel_rfl) (by kernel_rfl) (by kernel_rfl) (by rfl) (by first | assumption | decide +kernel) (by decide +kernel) ⟨rfl, rfl, rfl, rfl, rfl, by decide +kernel⟩ ?hw ?hc
  case hw => w_witness2
  case hc =>
    refine LamX.walk_ofTsE (l := PySem.Challenge.rw_cabmeters_k96_whole_one_fact_more) (n := 63) (k := 24) (x := "_law_script") (CX := fun _ => L2.CX0) rfl (by decide) (by kernel_rfl) ⟨rfl, by decide, by decide⟩ ?F (fun _ _ _ _ _ z => z)
    intro w mg fa h Y G hmg0
    obtain ⟨K, KX, c⟩ := Y
    have hmg : mg ("law" : PySem.Str) = some (.ref fa) := by
      have e : (HandSHeadRun.topDef (OpenLaw.row PySem.Challenge.rw_cabmeters_k96_whole_one_fact_more).prog 85).name = ("law" : PySem.Str) := by kernel_rfl
      rw [← e]
      exact hmg0
    exact ⟨K, KX, Cab.law_at KX G hmg c⟩
