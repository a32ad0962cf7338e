import PyProof.Rows.All
import Wide.All
import OpenK.AllK
import Wide.FinOn
import HandS.ForMost
import HandS.Defaults
import HandS.Property
import HandS.EndBits
import HandS.Wide
import HandS.WideBits
import HandS.Conv
import HandS.Exc
import KE.KeyNested
import KE.KDictCopyH
import KE.SortData
import HandS.More
import HandS.IsInst
import HandS.Lambda
import HandS.EndTab
import HandS.ExcInit
import HandS.Deep
import HandS.List
import PyProof.ReprRoads
import PyProof.CallFns
import HandS.NoneIn
import HandS.Codes
import HandS.Hot
import HandS.ExcCtx
import HandS.ExcOwn
import KE.KExcInit
import PyProof.ExcBaseAll.ArithmeticError
import PyProof.ExcBaseAll.ValueError
import HandS.ExcIs
import HandS.ExcField
import HandS.SetFor
import KE.KTryMore
import KE.KNestM
import KE.GoesMore
import KE.GoesEnum
import KE.KStateDown
import HandS.Head0
import HandS.Head1
import HandS.Head2
import HandS.HeadHook1
import KE.LtData
import HandS.TupAny
import HandS.TupLe
import HandS.Style
import HandS.RaiseMore
import HandS.Star
import HandS.Zip
import HandS.TupMul
import HandS.Strs
import HandS.SetBool
import HandS.Iter
import HandS.ReplaceLit
import HandS.OwnEq
import KE.KFmtOwn
import PyProof.InstNe
import HandS.FStr
import HandS.MakeKw
import HandS.ClsMeth
import KE.DataMinMax
import PyProof.StrOps2
import HandS.ExcValue
import HandS.TupSets
import PySem.Challenge.RW_forcedties_k28_whole_fates
set_option Elab.async false
set_option linter.all false
set_option maxRecDepth 100000
set_option maxHeartbeats 4000000
namespace DL
open PySem PySem.Spec PyProof.Rows L2
def TabOk (P : Params) : List (Str × Int) → List DictEntry → Prop
  | [], [] => True
  | p :: tab, e :: l => (∃ t t', e.key = .str p.1 t ∧ e.hash = PyData.keyHash P p.1 ∧ e.val = .int p.2 t') ∧ TabOk P tab l
  | _, _ => False
abbrev Fr := PySem.W.Frag
open He (ga ma eqO eqO_ok frG frG_in growG)
theorem notB {b : Bool} (h : (!b) = true) : b = false := by simpa using h
def matB : V → Value → Bool
  | .non, .none => true
  | .bl b, .bool c => b == c
  | .int i, .int j _ => i == j
  | .str x, .str y _ => x == y
  | .ref a, .ref b => Nat.beq a b
  | _, _ => false
theorem matB_ok {v : V} {u : Value} (h : matB v u = true) : RelV v u := by
  unfold matB at h
  split at h
  · rfl
  · rw [beq_iff_eq.mp h]; rfl
  · rw [beq_iff_eq.mp h]; exact ⟨_, rfl⟩
  · rw [beq_iff_eq.mp h]; exact ⟨_, rfl⟩
  · rw [Nat.eq_of_beq_eq_true h]; rfl
  · cases h
def valsB : List V → List Value → Bool
  | [], [] => true
  | v :: vs, u :: us => matB v u && valsB vs us
  | _, _ => false
theorem valsB_ok : ∀ {vs : List V} {us : List Value}, valsB vs us = true → Vals vs us
  | [], [], _ => .nil
  | v :: vs, u :: us, h => by
    have h : (matB v u && valsB vs us) = true := h
    simp only [Bool.and_eq_true] at h
    exact .cons (matB_ok h.1) (valsB_ok h.2)
  | [], _ :: _, h => by cases h
  | _ :: _, [], h => by cases h
def gloB (K : Fr) (x : Str) : Bool := eqO (PySem.W.nsIn K mainGlobals x) (some (some (.ref (ga K x))))
def freeB (K : Fr) (x : Str) : Bool := eqO (PySem.W.nsIn K mainGlobals x) (some none)
def litB (K : Fr) (x : Str) (v : V) : Bool := match PySem.W.nsIn K mainGlobals x with
  | some (some u) => matB v u
  | _ => false
theorem int_at {K : Fr} {x : Str} {i : Int} (h : litB K x (.int i) = true) : ∃ t, PySem.W.nsIn K mainGlobals x = some (some (.int i t)) := by
  unfold litB at h
  split at h
  · rename_i u e
    obtain ⟨t, rfl⟩ := matB_ok h
    exact ⟨t, e⟩
  · cases h
/-- a tuple at an address -/
def tupB (K : Fr) (a : Addr) (vs : List V) : Bool := match K.lookup a with
  | some ⟨.type n, _, .seq its _, _⟩ => n == "tuple" && (Nat.ble its.size 100 && valsB vs its.toList)
  | _ => false
theorem tup_at {K : Fr} {a : Addr} {vs : List V} (h : tupB K a vs = true) : ∃ gd gi gn gs, K.lookup a = some ⟨.type "tuple", gd, .seq gi gn, gs⟩ ∧ gi.size ≤ sizeLine ∧ Vals vs gi.toList := by
  unfold tupB at h
  split at h
  · rename_i n gd gi gn gs e
    simp only [Bool.and_eq_true] at h
    rw [beq_iff_eq.mp h.1] at e
    exact ⟨gd, gi, gn, gs, e, Nat.le_trans (Nat.le_of_ble_eq_true h.2.1) (by decide), valsB_ok h.2.2⟩
  · cases h
/-- the values of a def's defaults -/
def seqB (K : Fr) (a : Addr) (vs : List V) : Bool := match K.lookup a with
  | some ⟨_, _, .seq its _, _⟩ => valsB vs its.toList
  | _ => false
theorem seq_at {K : Fr} {a : Addr} {vs : List V} (h : seqB K a vs = true) : ∃ d0 dd di dn ds, K.lookup a = some ⟨d0, dd, .seq di dn, ds⟩ ∧ Vals vs di.toList := by
  unfold seqB at h
  split at h
  · rename_i d0 dd di dn ds e
    exact ⟨d0, dd, di, dn, ds, e, valsB_ok h⟩
  · cases h
abbrev FnW : Type := Option (Str × Str × Arguments × FuncBody × Scope × Addr × List (Str × Addr) × Addr)
def fnK (K : Fr) (a : Addr) : FnW := match K.lookup a with
  | some ⟨_, _, .func fd, _⟩ => some (fd.name, fd.qualname, fd.params, fd.body, fd.scope, fd.globals, fd.closure, fd.builtins)
  | _ => none
def refA : Value → Addr
  | .ref d => d
  | _ => 0
def refB : Value → Bool
  | .ref _ => true
  | _ => false
def dfl0 : Data → Addr
  | .func fd => refA fd.defaults
  | _ => 0
def code0 : Data → Addr
  | .func fd => refA fd.code
  | _ => 0
def at11 : Data → Addr
  | .fields vs => refA ((vs.toList[11]?).getD .none)
  | _ => 0
def dtK (K : Fr) (a : Addr) : Addr := match K.lookup a with
  | some o => dfl0 o.data
  | none => 0
def dflB : Value → Bool → Bool
  | .none, b => !b
  | .ref _, b => b
  | _, _ => false
def cqK (K : Fr) (a : Addr) : Addr := match K.lookup a with
  | some o => code0 o.data
  | none => 0
def cpK (K : Fr) (a : Addr) : Addr := match K.lookup (cqK K a) with
  | some o => at11 o.data
  | none => 0
def dfB (K : Fr) (a : Addr) (dfl : Bool) (q : Str) : Bool := (match K.lookup a with
  | some ⟨_, _, .func fd, _⟩ => PySem.W.codeIn K fd.code q && dflB fd.defaults dfl
  | _ => false) && PySem.W.keepIn K (.ref a)
structure DefK where
  ad : Fr → Addr
  name : Str
  qual : Str
  st : Stmt
  dfl : Bool
def DefK.val (d : DefK) : FnW := some (d.name, d.qual, defArgs d.st, .stmts (defBody d.st), defScope d.st, mainGlobals, [], builtinsNs)
def dvK (K : Fr) (a : Addr) (dfl : Bool) : Value := if dfl = true then .ref (dtK K a) else .none
theorem def_at {K : Fr} {d : DefK} (e : fnK K (d.ad K) = d.val) (c : dfB K (d.ad K) d.dfl d.qual = true) :
    ∃ oc od sl kV dc pm an cd ct, K.lookup (d.ad K) = some ⟨oc, od, .func (PySem.W.fnOf d.name d.qual (defArgs d.st) (defBody d.st) (defScope d.st) (dvK K (d.ad K) d.dfl) kV dc pm an cd ct), sl⟩ ∧ PySem.W.codeIn K cd d.qual = true ∧ PySem.W.keepIn K (.ref (d.ad K)) = true := by
  unfold dfB at c
  simp only [Bool.and_eq_true] at c
  obtain ⟨c, ck⟩ := c
  unfold fnK at e
  cases q : K.lookup (d.ad K) with
  | none =>
    rw [q] at c
    cases c
  | some o =>
    obtain ⟨oc, od, dt, osl⟩ := o
    have eqd : dtK K (d.ad K) = dfl0 dt := by
      unfold dtK
      rw [q]
    rw [q] at c e
    cases dt with
    | func fd =>
      obtain ⟨n1, n2, n3, n4, n5, n6, n7, n8, n9, n10, n11, n12, n13, n14, n15⟩ := fd
      have e2 : (some (n1, n2, n3, n4, n5, n6, n7, n15) : FnW) = some (d.name, d.qual, defArgs d.st, .stmts (defBody d.st), defScope d.st, mainGlobals, [], builtinsNs) := e
      simp only [Option.some.injEq, Prod.mk.injEq] at e2
      obtain ⟨h1, h2, h3, h4, h5, h6, h7, h9⟩ := e2
      replace c : (PySem.W.codeIn K n13 d.qual && dflB n8 d.dfl) = true := c
      have c : _ ∧ _ := Bool.and_eq_true_iff.mp c
      have hd : n8 = dvK K (d.ad K) d.dfl := by
        unfold dvK
        rw [eqd]
        have c2 := c.2
        revert c2
        cases n8 with
        | none =>
          intro c2
          have : d.dfl = false := notB c2
          rw [this]
          rfl
        | ref z =>
          intro c2
          have : d.dfl = true := c2
          rw [this]
          rfl
        | _ => intro c2; cases c2
      subst h1 h2 h3 h4 h5 h6 h7 h9
      rw [← hd]
      exact ⟨oc, od, osl, n9, n10, n11, n12, n13, n14, rfl, (by exact c.1), ck⟩
    | _ => cases c
abbrev TbW : Type := Option (List (Option (Str × Int × Int)))
def entW (e : DictEntry) : Option (Str × Int × Int) := match e.key, e.val with
  | .str x _, .int i _ => some (x, e.hash, i)
  | _, _ => none
def tbK (K : Fr) (x : Str) : TbW := match K.lookup (ga K x) with
  | some ⟨.type n, none, .dict es _, sl⟩ => if (n == "dict" && Nat.beq sl.size 0) = true then some (es.toList.map entW) else none
  | _ => none
def tbVal (P : Params) (tab : List (Str × Int)) : TbW := some (tab.map fun p => some (p.1, PyData.keyHash P p.1, p.2))
theorem tabOk_of {P : Params} : ∀ {tab : List (Str × Int)} {l : List DictEntry}, l.map entW = (tab.map fun p => some (p.1, PyData.keyHash P p.1, p.2)) → TabOk P tab l
  | [], [], _ => trivial
  | [], _ :: _, h => by cases h
  | _ :: _, [], h => by cases h
  | p :: tab, e :: l, h => by
    simp only [List.map_cons, List.cons.injEq] at h
    refine ⟨?_, tabOk_of h.2⟩
    have h1 := h.1
    unfold entW at h1
    split at h1
    · rename_i x t i u e1 e2
      simp only [Option.some.injEq, Prod.mk.injEq] at h1
      obtain ⟨rfl, h3, rfl⟩ := h1
      exact ⟨_, _, e1, h3, e2⟩
    · cases h1
theorem tb_at {K : Fr} {P : Params} {x : Str} {tab : List (Str × Int)} (e : tbK K x = tbVal P tab) : ∃ es cn, K.lookup (ga K x) = some ⟨.type "dict", none, .dict es cn, #[]⟩ ∧ TabOk P tab es.toList := by
  unfold tbK at e
  split at e
  · rename_i n es cn sl q
    split at e
    · rename_i h
      simp only [Bool.and_eq_true] at h
      have hs : sl = #[] := Array.eq_empty_of_size_eq_zero (Nat.eq_of_beq_eq_true h.2)
      rw [beq_iff_eq.mp h.1, hs] at q
      exact ⟨es, cn, q, tabOk_of (Option.some.inj e)⟩
    · cases e
  · cases e
def func0 : Data → Bool
  | .func fd => refB fd.code
  | _ => false
def fld11 : Data → Bool
  | .fields vs => refB ((vs.toList[11]?).getD .none)
  | _ => false
def lamB (K : Fr) (a : Addr) : Bool := (match K.lookup a with
  | some o => func0 o.data
  | none => false) && ((match K.lookup (cqK K a) with
  | some o => fld11 o.data
  | none => false) && (PySem.W.codeHdIn K (cqK K a) (cpK K a) && (K.lookup (cpK K a)).isNone))
def rootsK (g : Addr → Option Obj) (names : List Str) : List Addr := match g mainGlobals with
  | some ⟨_, _, .dict es _, _⟩ => names.filterMap fun x => match es.toList.find? (·.key.isStr x) with
    | some e => (match e.val with
      | .ref a => some a
      | _ => none)
    | none => none
  | _ => []
/-- what an object names; of a code object nothing -/
def refsX (o : Obj) : List Addr := match o.cls with
  | .type n => if (n == "code") = true then [] else He.refsO o
  | _ => He.refsO o
/-- the addresses that are new among those that some objects name -/
def newK (g : Addr → Option Obj) (old : List Addr) : List Addr → List Addr → List Addr
  | [], acc => acc
  | a :: as, acc => newK g old as (match g a with
    | some o => (refsX o).foldl (fun acc b => if (old.any (Nat.beq b) || acc.any (Nat.beq b)) = true then acc else b :: acc) acc
    | none => acc)
def reachK (g : Addr → Option Obj) : Nat → List Addr → List Addr → List Addr
  | 0, old, _ => old
  | n + 1, old, front => (fun nw => reachK g n (old ++ nw) nw) (newK g old front [])
def fragK (g : Addr → Option Obj) (names : List Str) (n : Nat) (lams : List Str) : Fr :=
  (fun as => (fun cps => frG g (as.filter fun a => !cps.any (Nat.beq a))) (lams.map fun x => cpK (frG g as) (ga (frG g as) x))) (mainGlobals :: reachK g n (rootsK g names) (rootsK g names))
structure HeadK where
  names : List Str
  n : Nat
  lams : List Str
  facts : List (Fr → Bool)
  defs : List DefK
  tabs : List (Str × List (Str × Int))
abbrev AlK : Type := Bool × List FnW × List TbW
def HeadK.look (hd : HeadK) (g : Addr → Option Obj) (K : Fr) : AlK :=
  ((hd.facts.all fun f => f K) && ((hd.defs.all fun d => dfB K (d.ad K) d.dfl d.qual) && hd.lams.all fun x => lamB K (ga K x) && (match g (cpK K (ga K x)) with
    | some ⟨.none, none, .fields vs, sl⟩ => Nat.beq vs.size 0 && Nat.beq sl.size 0
    | _ => false)), hd.defs.map fun d => fnK K (d.ad K), hd.tabs.map fun p => tbK K p.1)
def HeadK.val (hd : HeadK) (P : Params) : AlK := (true, hd.defs.map DefK.val, hd.tabs.map fun p => tbVal P p.2)
structure HeadK.Says (hd : HeadK) (w : World) (h : Heap) (K : Fr) : Prop where
  in_ : K.In h
  fact : ∀ (i : Nat) (f : Fr → Bool), hd.facts[i]? = some f → f K = true
  def_ : ∀ (i : Nat) (d : DefK), hd.defs[i]? = some d → fnK K (d.ad K) = d.val ∧ dfB K (d.ad K) d.dfl d.qual = true
  tab : ∀ (i : Nat) (p : Str × List (Str × Int)), hd.tabs[i]? = some p → tbK K p.1 = tbVal w.params p.2
  lam : ∀ (i : Nat) (x : Str), hd.lams[i]? = some x → lamB K (ga K x) = true ∧ h.get? (cpK K (ga K x)) = some { cls := .none, data := .fields #[] }
theorem HeadK.says_of {hd : HeadK} {w : World} {h : Heap} {K : Fr} (X : K.In h) (e : hd.look h.get? K = hd.val w.params) : hd.Says w h K := by
  have e1 := congrArg (fun z : AlK => z.1) e
  have e2 := congrArg (fun z : AlK => z.2.1) e
  have e3 := congrArg (fun z : AlK => z.2.2) e
  dsimp only [HeadK.look, HeadK.val] at e1 e2 e3
  simp only [Bool.and_eq_true] at e1
  obtain ⟨a1, a2, a3⟩ := e1
  refine ⟨X, fun i f hf => List.all_eq_true.mp a1 f (List.mem_of_getElem? hf), fun i d hf => ⟨?_, List.all_eq_true.mp a2 d (List.mem_of_getElem? hf)⟩, fun i p hf => ?_, fun i x hf => ?_⟩
  · have z : (hd.defs.map fun d => fnK K (d.ad K))[i]? = (hd.defs.map DefK.val)[i]? := by rw [e2]
    rw [List.getElem?_map, List.getElem?_map, hf] at z
    exact Option.some.inj z
  · have z : (hd.tabs.map fun p => tbK K p.1)[i]? = (hd.tabs.map fun p => tbVal w.params p.2)[i]? := by rw [e3]
    rw [List.getElem?_map, List.getElem?_map, hf] at z
    exact Option.some.inj z
  · have z := List.all_eq_true.mp a3 x (List.mem_of_getElem? hf)
    simp only [Bool.and_eq_true] at z
    refine ⟨z.1, ?_⟩
    have z2 := z.2
    split at z2
    · rename_i vs sl q
      rw [q]
      simp only [Bool.and_eq_true] at z2
      rw [Array.eq_empty_of_size_eq_zero (Nat.eq_of_beq_eq_true z2.1), Array.eq_empty_of_size_eq_zero (Nat.eq_of_beq_eq_true z2.2)]
    · cases z2
def HeadK.obs (hd : HeadK) (g : Addr → Option Obj) : AlK := (fun K => hd.look g K) (fragK g hd.names hd.n hd.lams)
def HeadK.hook (hd : HeadK) : PySem.W.Hook where
  α := AlK
  obs := fun s => hd.obs s.heap.get?
  val := fun w => hd.val w.params
  says := fun w h => ∃ K : Fr, hd.Says w h K
  of := fun w s e => ⟨fragK s.heap.get? hd.names hd.n hd.lams, HeadK.says_of frG_in e⟩
  keeps := fun _ _ _ ⟨K, c⟩ k => ⟨K, c.in_.keeps k, c.fact, c.def_, c.tab, fun i x hf => ⟨(c.lam i x hf).1, k _ _ (c.lam i x hf).2⟩⟩
def HeadK.ob (hd : HeadK) (s : PySem.W.SharedT) : AlK := hd.obs (HandSHeadRun.getT s)
theorem HeadK.ob_eq (hd : HeadK) (s : PySem.W.SharedT) : hd.ob s = hd.hook.obs s.abs := by
  have e : HandSHeadRun.getT s = s.abs.heap.get? := funext (HandSHeadRun.getT_eq s)
  unfold HeadK.ob
  rw [e]
  rfl
end DL
namespace LW
open PySem PySem.Spec PyProof.Rows L2 DL
def topS (i : Nat) : Stmt := PySem.Challenge.pw_forcedties_k28_whole_fates.main.body.getD i (.Pass ⟨0, 0, 0, 0⟩)
def tab_LEAST : List (Str × Int) := [("crowd", 2), ("star", 1), ("pairs", 1), ("row", 2), ("ring", 3), ("core", 1), ("linked", 1)]
abbrev s_is_integer : Stmt := topS 12
abbrev s_is_between : Stmt := topS 13
abbrev s_check_people : Stmt := topS 14
abbrev s_pairs_of : Stmt := topS 17
abbrev s_ring_size : Stmt := topS 29
abbrev s_fewest_people : Stmt := topS 30
abbrev s_least_of : Stmt := topS 31
abbrev s_most_pairs : Stmt := topS 21
abbrev s_most_rings : Stmt := topS 22
abbrev s_most_groups : Stmt := topS 23
abbrev s_is_all_tied : Stmt := topS 25
abbrev s_most_of : Stmt := topS 24
abbrev s_Thing___init__ : Stmt := inClass (topS 32) 0
abbrev s_Thing_fate : Stmt := inClass (topS 32) 10
abbrev s__law_purse : Stmt := topS 35
abbrev s__law_draw : Stmt := topS 36
abbrev s__law_all : Stmt := topS 37
abbrev s__law_tied : Stmt := topS 38
abbrev s__law_subsets : Stmt := topS 39
abbrev s__law_joined : Stmt := topS 40
abbrev s__law_rows_of : Stmt := topS 41
abbrev s__law_rings : Stmt := topS 42
abbrev s__law_pairs_apart : Stmt := topS 43
abbrev s__law_is_crowd : Stmt := topS 49
abbrev s__law_core : Stmt := topS 45
abbrev s__law_holds : Stmt := topS 44
abbrev s__law_things : Stmt := topS 46
abbrev s__law_two : Stmt := topS 47
abbrev s__law_most : Stmt := topS 48
abbrev s__law_fewest : Stmt := topS 50
abbrev s__law_least : Stmt := topS 51
abbrev s__law_fate : Stmt := topS 52
abbrev s__law_is_right : Stmt := topS 53
abbrev s__law_far_right : Stmt := topS 54
abbrev s__law_right : Stmt := topS 55
abbrev s_law : Stmt := topS 56
def hFacts0 : List (Fr → Bool) := [fun K => freeB K "abs",
  fun K => freeB K "all",
  fun K => freeB K "bool",
  fun K => freeB K "divmod",
  fun K => freeB K "int",
  fun K => freeB K "isinstance",
  fun K => freeB K "len",
  fun K => freeB K "list",
  fun K => freeB K "max",
  fun K => freeB K "min",
  fun K => freeB K "range",
  fun K => freeB K "set",
  fun K => freeB K "sorted",
  fun K => freeB K "str",
  fun K => freeB K "tuple",
  fun K => litB K "MOST_ASKED" (.int (10000000000000000000000000000000000000000)),
  fun K => gloB K "LEAST",
  fun K => !(He.ga K "LEAST" == sysModules),
  fun K => tupB K (He.ga K "PLAIN") [.str "odd ring", .str "even ring"],
  fun K => gloB K "PLAIN",
  fun K => gloB K "Thing",
  fun K => PySem.W.plainGet K (He.ga K "Thing") Str.empty,
  fun K => PySem.W.hasDictIn K (He.ga K "Thing"),
  fun K => PySem.W.plainOver K (He.ga K "Thing"),
  fun K => He.eqO (PySem.W.findIn K (.ref (He.ga K "Thing")) "__setattr__") (some (some (.builtin "object.__setattr__"))),
  fun K => PySem.W.makesIn K (He.ga K "Thing"),
  fun K => PySem.W.keepIn K (.ref (He.ga K "Thing")),
  fun K => He.eqO (PySem.W.findIn K (.ref (He.ga K "Thing")) "many") (some none),
  fun K => He.eqO (PySem.W.findIn K (.ref (He.ga K "Thing")) "word") (some none),
  fun K => gloB K "is_integer"]
def hFacts1 : List (Fr → Bool) := [fun K => gloB K "is_between",
  fun K => gloB K "check_people",
  fun K => gloB K "pairs_of",
  fun K => gloB K "ring_size",
  fun K => gloB K "fewest_people",
  fun K => gloB K "least_of",
  fun K => gloB K "most_pairs",
  fun K => gloB K "most_rings",
  fun K => gloB K "most_groups",
  fun K => gloB K "is_all_tied",
  fun K => gloB K "most_of",
  fun K => He.eqO (PySem.W.findIn K (.ref (He.ga K "Thing")) "__init__") (some (some (.ref (He.ma K (He.ga K "Thing") "__init__")))),
  fun K => PySem.W.isFn K (.ref (He.ma K (He.ga K "Thing") "__init__")),
  fun K => seqB K (dtK K (He.ma K (He.ga K "Thing") "__init__")) [.non],
  fun K => He.eqO (PySem.W.findIn K (.ref (He.ga K "Thing")) "fate") (some (some (.ref (He.ma K (He.ga K "Thing") "fate")))),
  fun K => PySem.W.isFn K (.ref (He.ma K (He.ga K "Thing") "fate")),
  fun K => gloB K "_law_purse",
  fun K => gloB K "_law_draw",
  fun K => gloB K "_law_all",
  fun K => gloB K "_law_tied",
  fun K => gloB K "_law_subsets",
  fun K => gloB K "_law_joined",
  fun K => gloB K "_law_rows_of",
  fun K => gloB K "_law_rings",
  fun K => gloB K "_law_pairs_apart",
  fun K => gloB K "_law_is_crowd",
  fun K => gloB K "_law_core",
  fun K => gloB K "_law_holds",
  fun K => gloB K "_law_things",
  fun K => gloB K "_law_two"]
def hFacts2 : List (Fr → Bool) := [fun K => gloB K "_law_most",
  fun K => gloB K "_law_fewest",
  fun K => gloB K "_law_least",
  fun K => gloB K "_law_fate",
  fun K => gloB K "_law_is_right",
  fun K => gloB K "_law_far_right",
  fun K => gloB K "_law_right",
  fun K => gloB K "law"]
def hFacts : List (Fr → Bool) := hFacts0 ++ hFacts1 ++ hFacts2
def hDefs0 : List DefK := [⟨fun K => He.ga K "is_integer", "is_integer", "is_integer", s_is_integer, false⟩,
  ⟨fun K => He.ga K "is_between", "is_between", "is_between", s_is_between, false⟩,
  ⟨fun K => He.ga K "check_people", "check_people", "check_people", s_check_people, false⟩,
  ⟨fun K => He.ga K "pairs_of", "pairs_of", "pairs_of", s_pairs_of, false⟩,
  ⟨fun K => He.ga K "ring_size", "ring_size", "ring_size", s_ring_size, false⟩,
  ⟨fun K => He.ga K "fewest_people", "fewest_people", "fewest_people", s_fewest_people, false⟩,
  ⟨fun K => He.ga K "least_of", "least_of", "least_of", s_least_of, false⟩,
  ⟨fun K => He.ga K "most_pairs", "most_pairs", "most_pairs", s_most_pairs, false⟩,
  ⟨fun K => He.ga K "most_rings", "most_rings", "most_rings", s_most_rings, false⟩,
  ⟨fun K => He.ga K "most_groups", "most_groups", "most_groups", s_most_groups, false⟩,
  ⟨fun K => He.ga K "is_all_tied", "is_all_tied", "is_all_tied", s_is_all_tied, false⟩,
  ⟨fun K => He.ga K "most_of", "most_of", "most_of", s_most_of, false⟩,
  ⟨fun K => He.ma K (He.ga K "Thing") "__init__", "__init__", "Thing.__init__", s_Thing___init__, true⟩,
  ⟨fun K => He.ma K (He.ga K "Thing") "fate", "fate", "Thing.fate", s_Thing_fate, false⟩,
  ⟨fun K => He.ga K "_law_purse", "_law_purse", "_law_purse", s__law_purse, false⟩,
  ⟨fun K => He.ga K "_law_draw", "_law_draw", "_law_draw", s__law_draw, false⟩,
  ⟨fun K => He.ga K "_law_all", "_law_all", "_law_all", s__law_all, false⟩,
  ⟨fun K => He.ga K "_law_tied", "_law_tied", "_law_tied", s__law_tied, false⟩,
  ⟨fun K => He.ga K "_law_subsets", "_law_subsets", "_law_subsets", s__law_subsets, false⟩,
  ⟨fun K => He.ga K "_law_joined", "_law_joined", "_law_joined", s__law_joined, false⟩,
  ⟨fun K => He.ga K "_law_rows_of", "_law_rows_of", "_law_rows_of", s__law_rows_of, false⟩,
  ⟨fun K => He.ga K "_law_rings", "_law_rings", "_law_rings", s__law_rings, false⟩,
  ⟨fun K => He.ga K "_law_pairs_apart", "_law_pairs_apart", "_law_pairs_apart", s__law_pairs_apart, false⟩,
  ⟨fun K => He.ga K "_law_is_crowd", "_law_is_crowd", "_law_is_crowd", s__law_is_crowd, false⟩,
  ⟨fun K => He.ga K "_law_core", "_law_core", "_law_core", s__law_core, false⟩,
  ⟨fun K => He.ga K "_law_holds", "_law_holds", "_law_holds", s__law_holds, false⟩,
  ⟨fun K => He.ga K "_law_things", "_law_things", "_law_things", s__law_things, false⟩,
  ⟨fun K => He.ga K "_law_two", "_law_two", "_law_two", s__law_two, false⟩,
  ⟨fun K => He.ga K "_law_most", "_law_most", "_law_most", s__law_most, false⟩,
  ⟨fun K => He.ga K "_law_fewest", "_law_fewest", "_law_fewest", s__law_fewest, false⟩]
def hDefs1 : List DefK := [⟨fun K => He.ga K "_law_least", "_law_least", "_law_least", s__law_least, false⟩,
  ⟨fun K => He.ga K "_law_fate", "_law_fate", "_law_fate", s__law_fate, false⟩,
  ⟨fun K => He.ga K "_law_is_right", "_law_is_right", "_law_is_right", s__law_is_right, false⟩,
  ⟨fun K => He.ga K "_law_far_right", "_law_far_right", "_law_far_right", s__law_far_right, false⟩,
  ⟨fun K => He.ga K "_law_right", "_law_right", "_law_right", s__law_right, false⟩,
  ⟨fun K => He.ga K "law", "law", "law", s_law, false⟩]
def hDefs : List DefK := hDefs0 ++ hDefs1
def hNames0 : List Str := ["LEAST",
  "PLAIN",
  "Thing",
  "is_integer",
  "is_between",
  "check_people",
  "pairs_of",
  "ring_size",
  "fewest_people",
  "least_of",
  "most_pairs",
  "most_rings",
  "most_groups",
  "is_all_tied",
  "most_of",
  "_law_purse",
  "_law_draw",
  "_law_all",
  "_law_tied",
  "_law_subsets",
  "_law_joined",
  "_law_rows_of",
  "_law_rings",
  "_law_pairs_apart",
  "_law_is_crowd",
  "_law_core",
  "_law_holds",
  "_law_things",
  "_law_two",
  "_law_most"]
def hNames1 : List Str := ["_law_fewest",
  "_law_least",
  "_law_fate",
  "_law_is_right",
  "_law_far_right",
  "_law_right",
  "law"]
def hNames : List Str := hNames0 ++ hNames1
def hLoose0 : List Str := ["_wall",
  "__name__",
  "WrongValue",
  "NoAnswer",
  "InvalidText",
  "InvalidNumber",
  "InvalidKind",
  "InvalidPerson",
  "TooMany",
  "MOST_ASKED",
  "DIGITS",
  "is_integer",
  "is_between",
  "check_people",
  "check_two",
  "number_of",
  "pairs_of",
  "LEAST",
  "PLAIN",
  "most_pairs",
  "most_rings",
  "most_groups",
  "most_of",
  "is_all_tied",
  "is_star_tie",
  "is_ring_tie",
  "is_rule_tie",
  "ring_size",
  "fewest_people",
  "least_of"]
def hLoose1 : List Str := ["Thing",
  "thing_with",
  "_law_purse",
  "_law_draw",
  "_law_all",
  "_law_tied",
  "_law_subsets",
  "_law_joined",
  "_law_rows_of",
  "_law_rings",
  "_law_pairs_apart",
  "_law_holds",
  "_law_core",
  "_law_things",
  "_law_two",
  "_law_most",
  "_law_is_crowd",
  "_law_fewest",
  "_law_least",
  "_law_fate",
  "_law_is_right",
  "_law_far_right",
  "_law_right"]
def hLoose : List Str := hLoose0 ++ hLoose1
def hTabs : List (Str × List (Str × Int)) := [("LEAST", tab_LEAST)]
def hd : HeadK := ⟨hNames, 4, [], hFacts, hDefs, hTabs⟩
abbrev Rw : PySem.W.OpenRow := PySem.W.OpenLaw.row PySem.Challenge.rw_forcedties_k28_whole_fates
abbrev qv : Program := PySem.W.view Rw.prog [56]
set_option maxHeartbeats 0 in
theorem run_false (w : World) : HandSHeadRun.RunEq Rw qv hd.hook hd.ob 60000 hLoose (w.withFollow "special-get-raises" false) := by
  intro os
  kernel_rfl
set_option maxHeartbeats 0 in
theorem run_true (w : World) : HandSHeadRun.RunEq Rw qv hd.hook hd.ob 60000 hLoose (w.withFollow "special-get-raises" true) := by
  intro os
  kernel_rfl
theorem run (w : World) : HandSHeadRun.RunEq Rw qv hd.hook hd.ob 60000 hLoose w := PySem.W.byRow2 "special-get-raises" (P := fun w => HandSHeadRun.RunEq Rw qv hd.hook hd.ob 60000 hLoose w) run_false run_true w
end LW
namespace DL
open PySem PySem.Spec PyProof.Rows L2
structure RoomG (k : Nat) (A : Around) : Prop where
  room : Room k A
  gd : A.guards = some []
theorem RoomG.mono {j k : Nat} {A : Around} (r : RoomG k A) (h : j ≤ k) : RoomG j A := ⟨r.room.mono h, r.gd⟩
theorem RoomG.deeper {k : Nat} {A : Around} (r : RoomG (k + 1) A) (env : Env) : RoomG k (A.deeper env) := ⟨r.room.deeper env, r.gd⟩
theorem RoomG.in1 {k : Nat} {A : Around} (r : RoomG (k + 1) A) : RoomG k A.in1 := ⟨r.room.in1, r.gd⟩
theorem make_guards {A : Around} {C : Addr} {us : List Value} {kw : List (Str × Value)} : (A.under (.builtin "type.__call__" ⟨.ref C :: us, kw⟩)).guards = A.guards := by
  cases h : A.guards <;> simp [Around.under, Code.guards, Code.isGuard, guardIds, pushGuards, h]
theorem RoomG.make {k : Nat} {A : Around} (r : RoomG (k + 1) A) (C : Addr) (us : List Value) (kw : List (Str × Value)) : RoomG k (A.under (.builtin "type.__call__" ⟨.ref C :: us, kw⟩)) := ⟨r.room.make C us kw, by rw [make_guards]; exact r.gd⟩
theorem RoomG.units {k : Nat} {A : Around} (r : RoomG k A) : A.units + 64 < cLine := r.room.units
structure FnG (P : Program) (w : World) (K : PySem.W.Frag) (mg : Str → Option Value) (base : Heap) (k : Nat) (f : Addr) (fd : FuncData) (ps : List Str) (sp : Sp) : Prop where
  len : ∀ vs H Q E, sp vs H Q E → vs.length = ps.length
  run : ∀ (A : Around) (outer : List Env) (s : Shared) (H : Hp) (args : Args) (us : List Value) (vs : List V) (Q : VK) (E : XK), RoomG k A → Env0 P w K mg base A outer s H →
    BindsTo s fd args (ps.zip us) → Vals vs us → sp vs H Q E → codeAny (model P w) A (.call (.ref f) args) (CR CX0 outer P w H s Q E) s
section
variable {P : Program} {w : World} {K : PySem.W.Frag} {mg : Str → Option Value} {base : Heap} {j k : Nat} {f : Addr} {fd : FuncData} {ps : List Str} {sp sp' : Sp}
theorem FnG.mono (F : FnG P w K mg base j f fd ps sp) (h : j ≤ k) : FnG P w K mg base k f fd ps sp := ⟨F.len, fun A o s H ar us vs Q E r => F.run A o s H ar us vs Q E (r.mono h)⟩
theorem FnG.imp (F : FnG P w K mg base k f fd ps sp) (h : ∀ vs H Q E, sp' vs H Q E → sp vs H Q E) : FnG P w K mg base k f fd ps sp' :=
  ⟨fun vs H Q E q => F.len vs H Q E (h _ _ _ _ q), fun A o s H ar us vs Q E r e0 b v q => F.run A o s H ar us vs Q E r e0 b v (h _ _ _ _ q)⟩
end
/-- what stands behind a call that ends well -/
theorem behind {X : Cx} {pins : List (Addr × Obj)} {σ : L2.St} {H : Hp} {s s' : Shared} {Q : VK} {E : XK} {r : Except Value Flow} (I : Inv X pins σ H s) (h : CR CX0 X.stack X.prog X.w H s Q E r s') : ∃ u, r = .ok (.ret u) ∧ EP X pins σ Q u s' := by
  cases r with
  | error er => exact False.elim h
  | ok fl =>
    cases fl <;> first | exact False.elim h | skip
    rename_i u
    exact ⟨u, rfl, I.after h⟩
section
variable {X : Cx} {k : Nat} {f C : Addr} {fd : FuncData} {ps : List Str} {sp : Sp} {dvs : List V} {ds : List Value} {E : XK} {x m : Str} {p pos apos : Pos} {e o : Expr} {es : List Expr} {ta : TE} {t tk : TA} {kws : List Keyword} {ks : List Str} {n : Nat} {g : List Value → List Value → List Value} {gV : List V → List V → List V}
theorem runG {pins : List (Addr × Obj)} {σ : L2.St} {H : Hp} {s : Shared} {Q : VK} {ar : Args} {us : List Value} {vs : List V} (F : FnG X.prog X.w X.K X.mg X.base k f fd ps sp) (hr : RoomG k X.A) (I : Inv X pins σ H s)
    (hb : BindsTo s fd ar (ps.zip us)) (rv : Vals vs us) (h : sp vs H Q E) : wpAny (model X.prog X.w) X.A (call (.ref f) ar.pos ar.kw) (EP X pins σ Q) X.xe s := by
  refine wpAny_call (codeAny_mono (F.run X.A X.stack s H ar us vs Q E hr I.env0 hb rv h) fun r s' q => ?_)
  obtain ⟨u, rfl, z⟩ := behind I q
  exact z
theorem runGb {pins : List (Addr × Obj)} {σ : L2.St} {H : Hp} {s : Shared} {Q : VK} {us : List Value} {vs : List V} (F : FnG X.prog X.w X.K X.mg X.base k f fd ps sp) (hr : RoomG k X.A) (hb : Binds X.K fd ps ds) (hd : Vals dvs ds)
    (I : Inv X pins σ H s) (rv : Vals vs us) (h : sp (vs ++ dvs) H Q E) : wpAny (model X.prog X.w) X.A (call (.ref f) us) (EP X pins σ Q) X.xe s :=
  runG (ar := ⟨us, []⟩) F hr I (hb s us I.kIn (by rw [← (rv.append hd).length]; exact F.len _ _ _ _ h)) (rv.append hd) h
theorem runGk {pins : List (Addr × Obj)} {σ : L2.St} {H : Hp} {s : Shared} {Q : VK} {us ws : List Value} {vs zs : List V} (F : FnG X.prog X.w X.K X.mg X.base k f fd ps sp) (hr : RoomG k X.A) (hb : KBn X.K fd ps n ks g gV)
    (I : Inv X pins σ H s) (rv : Vals vs us) (rz : Vals zs ws) (l1 : vs.length = n) (l2 : zs.length = ks.length) (h : sp (gV vs zs) H Q E) : wpAny (model X.prog X.w) X.A (call (.ref f) us (ks.zip ws)) (EP X pins σ Q) X.xe s :=
  runG (ar := ⟨us, ks.zip ws⟩) F hr I (hb.to s us ws I.kIn (rv.length.symm.trans l1) (rz.length.symm.trans l2)) (hb.rel rv rz) h
theorem pe_callG (F : FnG X.prog X.w X.K X.mg X.base k f fd ps sp) (hr : RoomG k X.A) (hg : Gl X x) (hm : X.mg x = some (.ref f)) (hk : PySem.W.keepIn X.K (.ref f) = true) (hb : Binds X.K fd ps ds) (hd : Vals dvs ds)
    (ha : PA X (e :: es) t) (hdb : (x == ("__debug__" : Str)) = false := by decide) (hst : starEach (e :: es) X.env = (false, eval e X.env) :: starEach es X.env := by rfl) (hpl : (backTo pos (starEach es X.env)).any (·.1) = false := by rfl) :
    PE X (.Call (.Name x p) (e :: es) [] pos) (tCall sp dvs E t) :=
  ⟨fun pins s σ H Q I h => wpAny_Call_Name_kw (ld_glob I hg hm (PySem.W.callWith_K (h₀ := X.base) I.ok.mod.kin hk
    (thn (ha.run pos pins s σ H _ I h) fun us s1 ⟨vs, H1, I1, rv, q⟩ => ⟨I1.kIn, runGb F hr hb hd I1 rv q⟩) hst hpl) hdb)⟩
theorem pe_methG {pl : Sem Bool} (he : PE X o ta) (c : Cls X.K C) (hm : Meth X.K C m f) (F : FnG X.prog X.w X.K X.mg X.base k f fd ps sp) (hr : RoomG k X.A) (hb : Binds X.K fd ps ds) (hd : Vals dvs ds) (ha : PA X (e :: es) t)
    (hst : starEach (e :: es) X.env = (false, eval e X.env) :: starEach es X.env := by rfl) (hpl : (backTo pos (starEach es X.env)).any (·.1) = false := by rfl)
    (ht : eval (.Call (.Attribute o m apos) (e :: es) [] pos) X.env = (eval o X.env >>= fun ov => standAt apos.atName >>= fun _ => holding [ov] (getMethod ov m pl) >>= fun q =>
      callWith pos q.1 q.2 (backTo pos (starEach (e :: es) X.env)) (backToKw pos (keywordEach [] X.env))) := by rfl) :
    PE X (.Call (.Attribute o m apos) (e :: es) [] pos) (tMeth C m sp dvs E ta t) := by
  refine ⟨fun pins s σ H Q I h => PySem.W.methodCall_KW (pl := pl) (thn (he.run pins s σ H _ I h) fun u s1 ⟨y, H1, I1, ry, a, dx, fs, ex, ea, l, q⟩ => ?_) ht⟩
  subst ex
  have ry : u = Value.ref a := ry
  subst ry
  exact getmeth_ok I1 ea c hm l (PySem.W.callWith_K (first := [.ref a]) (h₀ := X.base) I.ok.mod.kin hm.kp (thn (ha.run pos pins s1 σ H1 _ I1 q)
    fun us s2 ⟨vs, H2, I2, rv, q2⟩ => ⟨I2.kIn, runGb (us := .ref a :: us) (vs := .ref a :: vs) F hr hb hd I2 (.cons rfl rv) q2⟩) hst hpl)
def tMethK (C : Addr) (m : Str) (n : Nat) (sp : Sp) (gV : List V → List V → List V) (E : XK) (ta : TE) (tk : TA) : TE := fun σ H Q => ta σ H fun x H1 => ∃ a dx fs, x = .ref a ∧ H1 a = some (.ins C dx fs) ∧ fs.lookup m = none ∧
  tk σ H1 fun zs H2 => zs.length = n ∧ sp (gV [x] zs) H2 Q E
theorem pe_methGK {pl : Sem Bool} (he : PE X o ta) (c : Cls X.K C) (hm : Meth X.K C m f) (F : FnG X.prog X.w X.K X.mg X.base k f fd ps sp) (hr : RoomG k X.A) (hb : KBn X.K fd ps 1 ks g gV) (hkw : PK X kws tk)
    (hall : (backToKw pos (keywordEach kws X.env)).all (·.1.isSome) = true := by rfl) (hks : (backToKw pos (keywordEach kws X.env)).filterMap (·.1) = ks := by rfl)
    (hpl : ((backTo pos (starEach [] X.env)).any (·.1) || (backToKw pos (keywordEach kws X.env)).any (·.1.isNone)) = false := by rfl)
    (ht : eval (.Call (.Attribute o m apos) [] kws pos) X.env = (eval o X.env >>= fun ov => standAt apos.atName >>= fun _ => holding [ov] (getMethod ov m pl) >>= fun q =>
      callWith pos q.1 q.2 (backTo pos (starEach [] X.env)) (backToKw pos (keywordEach kws X.env))) := by rfl) : PE X (.Call (.Attribute o m apos) [] kws pos) (tMethK C m ks.length sp gV E ta tk) := by
  refine ⟨fun pins s σ H Q I h => PySem.W.methodCall_KW (pl := pl) (thn (he.run pins s σ H _ I h) fun u s1 ⟨y, H1, I1, ry, a, dx, fs, ex, ea, l, q⟩ => ?_) ht⟩
  subst ex
  have ry : u = Value.ref a := ry
  subst ry
  refine getmeth_ok I1 ea c hm l (PySem.W.callWith_KW0 (first := [.ref a]) (h₀ := X.base) I.ok.mod.kin hm.kp hall (thn (hkw.run pos pins s1 σ H1 _ I1 q) fun ws s2 ⟨zs, H2, I2, rz, lz, q2⟩ => ⟨I2.kIn, ?_⟩) hpl)
  rw [hks]
  exact runGk (us := [.ref a]) (vs := [.ref a]) F hr hb I2 (.cons rfl .nil) rz rfl lz q2
theorem runMk {pins : List (Addr × Obj)} {σ : L2.St} {H : Hp} {s : Shared} {Q : VK} {us ws zs' : List Value} {kn : List Str} (M : Mk X.K C f) (F : FnG X.prog X.w X.K X.mg X.base k f fd ps sp) (hr : RoomG (k + 1) X.A) (I : Inv X pins σ H s)
    (hb : ∀ s' : Shared, X.K.In s'.heap → BindsTo s' fd ⟨.ref (s.heap.objs.size + 1) :: us, kn.zip ws⟩ (ps.zip (.ref (s.heap.objs.size + 1) :: zs'))) {zv : List V} (rv : Vals zv zs')
    (h : ∀ y dx, H y = none → H dx = none → dx ≠ y → sp (.ref y :: zv) (upd (upd H dx (.own y)) y (.ins C dx [])) (fun v H2 => v = .non ∧ Q (.ref y) H2) E) :
    wpAny (model X.prog X.w) X.A (call (.ref C) us (kn.zip ws)) (EP X pins σ Q) X.xe s := by
  have hq := h (s.heap.objs.size + 1) s.heap.objs.size (I.hok.fresh (Nat.le_succ _)) (I.hok.fresh (Nat.le_refl _)) (Nat.ne_of_lt (Nat.lt_succ_self _))
  have J := Inv.made (C := C) I
  refine wpAny_call (make_map (f := f) I.kIn M.makes M.init (beq_iff_eq.mp M.fn) (codeAny_mono (F.run _ X.stack _ _ _ _ (V.ref (s.heap.objs.size + 1) :: zv) _ E (hr.make C us (kn.zip ws)) (J.env0.make C us (kn.zip ws)) (hb _ J.kIn) (.cons rfl rv) hq) fun r s' z => ?_))
  obtain ⟨u, rfl, v, H', I3, ru, ev, q3⟩ := behind J z
  subst ev
  exact ⟨ru, V.ref (s.heap.objs.size + 1), H', I3, rfl, q3⟩
theorem pe_makeG (M : Mk X.K C f) (F : FnG X.prog X.w X.K X.mg X.base k f fd ps sp) (hr : RoomG (k + 1) X.A) (hg : Gl X x) (hm : X.mg x = some (.ref C)) (hb : Binds X.K fd ps ds) (hd : Vals dvs ds)
    (ha : PA X (e :: es) t) (hdb : (x == ("__debug__" : Str)) = false := by decide) (hst : starEach (e :: es) X.env = (false, eval e X.env) :: starEach es X.env := by rfl) (hpl : (backTo pos (starEach es X.env)).any (·.1) = false := by rfl) :
    PE X (.Call (.Name x p) (e :: es) [] pos) (tMake C sp dvs E t) := by
  refine ⟨fun pins s σ H Q I h => wpAny_Call_Name_kw (ld_glob I hg hm (PySem.W.callWith_K (h₀ := X.base) I.ok.mod.kin M.kp (thn (ha.run pos pins s σ H _ I h) fun us s1 ⟨vs, H1, I1, rv, q⟩ => ⟨I1.kIn, ?_⟩) hst hpl) hdb)⟩
  have q0 := q (s1.heap.objs.size + 1) s1.heap.objs.size (I1.hok.fresh (Nat.le_succ _)) (I1.hok.fresh (Nat.le_refl _)) (Nat.ne_of_lt (Nat.lt_succ_self _))
  have hl := F.len _ _ _ _ q0
  refine runMk (kn := []) (ws := []) M F hr I1 (fun s' kin => hb s' (Value.ref (s1.heap.objs.size + 1) :: us) kin ?_) (rv.append hd) q
  rw [← hl, List.cons_append, List.length_cons, List.length_cons, (rv.append hd).length]
end
section
variable {P : Program} {w : World} {K : PySem.W.Frag} {mg : Str → Option Value} {base : Heap}
theorem fnG_of {k : Nat} {f : Addr} {nm qual : Str} {prm : Arguments} {body : List Stmt} {scope : Scope} {dV kV doc pm cdv ct oc : Value} {an od : Option Addr} {osl : Array (Option Value)} {N ps : List Str} {sp : Sp}
    (lk : K.lookup f = some ⟨oc, od, .func (PySem.W.fnOf nm qual prm body scope dV kV doc pm an cdv ct), osl⟩) (hcd : PySem.W.codeIn K cdv qual = true) (S : FnScope N ps scope) (len : ∀ vs H Q E, sp vs H Q E → vs.length = ps.length)
    (hbody : ∀ (A : Around) (outer : List Env) (s : Shared) (H : Hp) (vs : List V) (Q : VK) (E : XK), RoomG k (A.deeper (envOfC qual scope s.heap.objs.size f cdv)) → sp vs H Q E →
      ∃ t, PSs (cxOf CX0 P w K mg base N qual scope f cdv A outer s H E).nox body t ∧ t { nx := fun _ H' => Q .non H', rt := Q } (start N vs) H) : FnG P w K mg base (k + 1) f (PySem.W.fnOf nm qual prm body scope dV kV doc pm an cdv ct) ps sp := by
  refine ⟨len, fun A outer s H ar us vs Q E hr e0 hb rv hsp => ?_⟩
  have old := fun b o e => (e0.bs b o e).1
  have kin : K.In s.heap := e0.mod.kin.keeps old
  refine codeAny_call_function hr.room.depth (kin _ _ lk) rfl S.co S.gen rfl (PySem.W.codeRec_of kin hcd) (hb _ _ _ _ (wpAny_newFunctionEnv_cells S.kind (fun y hy => ?_) fun env he s1 nw => ?_))
  · rcases S.par y.1 (List.of_mem_zip (b := y.2) hy).1 with q | q
    · exact .inl q
    · exact .inr ⟨q, PySem.W.cellsFrom_some _ _ _ (.inl q)⟩
  · subst he
    refine ⟨(e0.mod.nolimit.keeps old).keeps nw.toInCall.keep, codeAny_func ?_⟩
    obtain ⟨t, ht, hq⟩ := hbody A outer s H vs Q E (hr.deeper _) hsp
    refine wpAny_mono (ht.nox.run [] s1 (start N vs) H _ (inv_start S hr.room.hd e0 (len _ _ _ _ hsp) rv nw) hq) (fun fl s' z => ?_) fun _ _ z => z
    cases fl with
    | ret u => obtain ⟨v, _, G, J, ru, q⟩ := z; exact ⟨v, G, J.os, J.bare, J.base, J.hok, ru, q⟩
    | next => obtain ⟨_, G, J, q⟩ := z; exact ⟨.non, G, J.os, J.bare, J.base, J.hok, rfl, q⟩
    | brk => obtain ⟨_, _, _, q⟩ := z; exact q.elim
    | cont => obtain ⟨_, _, _, q⟩ := z; exact q.elim
theorem funG {x qual : Str} {st : Stmt} {f : Addr} {fd : FuncData} {N ps : List Str} {k : Nat} {sp : Sp} (F : Fun K x qual st f fd) (S : FnScope N ps (defScope st)) (len : ∀ vs H Q E, sp vs H Q E → vs.length = ps.length)
    (hbody : ∀ (cdv : Value) (A : Around) (outer : List Env) (s : Shared) (H : Hp) (vs : List V) (Q : VK) (E : XK), RoomG k (A.deeper (envOfC qual (defScope st) s.heap.objs.size f cdv)) → sp vs H Q E →
      ∃ t, PSs (cxOf CX0 P w K mg base N qual (defScope st) f cdv A outer s H E).nox (defBody st) t ∧ t { nx := fun _ H' => Q .non H', rt := Q } (start N vs) H) : FnG P w K mg base (k + 1) f fd ps sp := by
  obtain ⟨oc, od, kV, doc, pm, an, cdv, ct, osl, rfl, lk, hcd⟩ := F.ex
  exact fnG_of lk hcd S len (hbody cdv)
theorem funDG {x qual : Str} {prm : Arguments} {body : List Stmt} {scope : Scope} {dvs : List V} {kws : List (Str × V)} {f : Addr} {fd : FuncData} {N ps : List Str} {k : Nat} {sp : Sp} (F : FunD K x qual prm body scope dvs kws f fd) (S : FnScope N ps scope)
    (len : ∀ vs H Q E, sp vs H Q E → vs.length = ps.length)
    (hbody : ∀ (cdv : Value) (A : Around) (outer : List Env) (s : Shared) (H : Hp) (vs : List V) (Q : VK) (E : XK), RoomG k (A.deeper (envOfC qual scope s.heap.objs.size f cdv)) → sp vs H Q E →
      ∃ t, PSs (cxOf CX0 P w K mg base N qual scope f cdv A outer s H E).nox body t ∧ t { nx := fun _ H' => Q .non H', rt := Q } (start N vs) H) : FnG P w K mg base (k + 1) f fd ps sp := by
  obtain ⟨oc, od, dV, kV, doc, pm, an, cdv, ct, osl, rfl, lk, hcd, _, _⟩ := F.ex
  exact fnG_of lk hcd S len (hbody cdv)
end
section
variable {P : Program} {w : World} {K : PySem.W.Frag} {mg mb : Str → Option Value} {k : Nat} {fa a : Addr} {fd : FuncData} {x : Str} {sp : Sp} {s : Shared} {vs : List Value} {ns : List Int}
/-- from a tracked heap that holds the script at most -/
theorem lawG_core {G : Hp} (kin : K.In s.heap) (nsg : s.heap.Ns mainGlobals mg) (nsb : s.heap.Ns builtinsNs mb) (boot : ∀ y : Str, y ≠ "__name__" → mb y = bootBuiltins y) (lim : s.heap.NoLimit) (gn : s.gens = #[])
    (ha : s.heap.get? a = some { cls := .type "list", data := .seq vs.toArray }) (hr : Room k callerA) (F : ∀ base : Heap, K.In base → base.Ns mainGlobals mg → FnG P w K mg base k fa fd [x] sp) (bind : ∀ (z : Shared) (u : Value), BindsTo z fd ⟨[u], []⟩ [(x, u)])
    (only : Only G) (hok : HOk P w G s.heap) (at_ : ∀ b, G b ≠ none → b = a) (nk : G a ≠ none → K.lookup a = none) (hsp : sp [.ref a] G (fun v _ => v = .bl true) fun _ _ _ => False) :
    codeAny (model P w) callerA (.call (.ref fa) ⟨[.ref a], []⟩) (fun r z => r = .ok (.ret (.bool true)) ∧ OldK s.heap z.heap ∧ z.os = s.os ∧ AllBare z.gens) s := by
  have hid : ∀ {b : Addr} {o : Obj}, s.heap.get? b = some o → (b = a → False) → (hidT s.heap G).get? b = some o := fun {b o} e ne => hidT_get e (by
    cases q : G b with
    | none => rfl
    | some _ => exact (ne (at_ b (by rw [q]; simp))).elim)
  have nsd : ∀ {b : Addr} {m : Str → Option Value}, s.heap.Ns b m → (hidT s.heap G).Ns b m := fun {b m} ⟨o, es, ep, e, d, r⟩ => ⟨o, es, ep, hid e (fun q => by
    subst q
    rw [ha] at e
    cases e
    cases d), d, r⟩
  have kb : K.In (hidT s.heap G) := fun b o e => hidT_get (kin b o e) (by
    cases q : G b with
    | none => rfl
    | some _ =>
      have q1 := at_ b (by rw [q]; simp)
      subst q1
      rw [nk (by rw [q]; simp)] at e
      cases e)
  obtain ⟨mc, l1, l2⟩ := lim
  have none0 : ∀ b : Addr, b ∈ frs [] → False := fun b h => by cases h
  refine codeAny_mono ((F _ kb (nsd nsg)).run callerA [] s G ⟨[.ref a], []⟩ [.ref a] [.ref a] _ _ ⟨hr, rfl⟩ ⟨rfl, ⟨kb, nsd nsg, ⟨mb, nsd nsb, boot⟩, ⟨mc, nsd l1, l2⟩⟩, fun b o e => of_hidT e, Nat.le_of_eq (hidT_size _ _), trivial, fun b h => (none0 b h).elim, hok, .of_eq gn⟩
    (bind s (.ref a)) (.cons rfl .nil) hsp) fun r z h => ?_
  cases r with
  | error er => exact False.elim h
  | ok fl =>
    cases fl <;> first | exact False.elim h | skip
    rename_i u
    obtain ⟨v, G', os, bare, un, hok', ru, q⟩ := h
    have q : v = .bl true := q
    subst q
    have ru : u = Value.bool true := ru
    subst ru
    refine ⟨rfl, OldK.of_keep fun b o e => ?_, os, bare⟩
    cases q : G b with
    | none => exact un.keep b o e q (none0 b) (fun h => by cases h)
    | some c =>
      rcases only b with y | ⟨ob, xs, y⟩
      · rw [q] at y
        cases y
      · have e1 := (hok b _ y).1
        rw [e] at e1
        cases e1
        exact (hok' b _ (un.frzs b _ _ y)).1
theorem lawG (kin : K.In s.heap) (nsg : s.heap.Ns mainGlobals mg) (nsb : s.heap.Ns builtinsNs mb) (boot : ∀ y : Str, y ≠ "__name__" → mb y = bootBuiltins y) (lim : s.heap.NoLimit) (gn : s.gens = #[])
    (ha : s.heap.get? a = some { cls := .type "list", data := .seq vs.toArray }) (hi : IntsAre vs ns) (hl : ns.length ≤ sizeLine) (hr : Room k callerA) (F : ∀ base : Heap, K.In base → base.Ns mainGlobals mg → FnG P w K mg base k fa fd [x] sp)
    (bind : ∀ (z : Shared) (u : Value), BindsTo z fd ⟨[u], []⟩ [(x, u)]) (hsp : ∀ G : Hp, SqL K G a (ns.map V.int) → sp [.ref a] G (fun v _ => v = .bl true) fun _ _ _ => False) :
    codeAny (model P w) callerA (.call (.ref fa) ⟨[.ref a], []⟩) (fun r z => r = .ok (.ret (.bool true)) ∧ OldK s.heap z.heap ∧ z.os = s.os ∧ AllBare z.gens) s := by
  cases hk : K.lookup a with
  | some o =>
    have e := kin a o hk
    rw [ha] at e
    cases e
    exact lawG_core (G := fun _ => none) kin nsg nsb boot lim gn ha hr F bind (fun _ => .inl rfl) (fun _ _ y => by cases y) (fun _ y => absurd rfl y) (fun y => absurd rfl y)
      (hsp _ (.inr ⟨_, vs.toArray, _, hk, rfl, rfl, rfl, by rw [List.size_toArray, hi.length]; exact hl, by simpa using vals_ints hi⟩))
  | none =>
    have at_ : ∀ b, (fun b => if b = a then some (HO.frz { cls := .type "list", data := .seq vs.toArray } (.lst (ns.map V.int))) else none) b ≠ none → b = a := fun b y => Decidable.byContradiction fun ne => y (if_neg ne)
    refine lawG_core (G := fun b => if b = a then some (.frz { cls := .type "list", data := .seq vs.toArray } (.lst (ns.map V.int))) else none) kin nsg nsb boot lim gn ha hr F bind (fun b => ?_) (fun b u y => ?_) at_ (fun _ => hk) (hsp _ (.inl (.inr ⟨_, if_pos rfl⟩)))
    · by_cases hb : b = a
      · exact .inr ⟨_, _, if_pos hb⟩
      · exact .inl (if_neg hb)
    · have hb : b = a := at_ b (by rw [y]; simp)
      subst hb
      have y2 := (if_pos rfl).symm.trans y
      cases y2
      exact ⟨ha, by rw [List.length_map]; exact hl, vs, _, vals_ints hi, ha⟩
end
end DL
namespace DN
open PySem PySem.Spec
open PyProof.Rows L2
mutual
/-- neither a text nor None is in it -/
def intKey : NestedKey → Bool
  | .num _ => true
  | .tup ks => intKeys ks
  | _ => false
def intKeys : List NestedKey → Bool
  | [] => true
  | k :: ks => intKey k && intKeys ks
end
abbrev Ent := NestedKey × Addr × Value
def entN (w : World) (x : Ent) : DictEntry := ⟨x.1.hash w, .ref x.2.1, x.2.2⟩
/-- the dict at b: its keys (each with its tuple's address), its values -/
def NDict (w : World) (b : Addr) (xs : List Ent) : Heap → Prop := fun h => xs.length ≤ sizeLine ∧ (b == sysModules) = false ∧
  ∃ o es ep, h.get? b = some o ∧ o.ExactDict ∧ o.data = .dict es ep ∧ es.toList = xs.map (entN w) ∧ (xs.map (·.1)).Nodup
abbrev NDO (w : World) (b : Addr) (xs : List Ent) : HO := .ext (NDict w b xs)
mutual
/-- the value v is the key k -/
inductive VKey (K : PySem.W.Frag) (H : Hp) : NestedKey → V → Prop
  | num (i : Int) : VKey K H (.num i) (.int i)
  | tup {a : Addr} {ks : List NestedKey} {vs : List V} (h : SqT K H a vs) (r : VKeys K H ks vs) : VKey K H (.tup ks) (.ref a)
inductive VKeys (K : PySem.W.Frag) (H : Hp) : List NestedKey → List V → Prop
  | nil : VKeys K H [] []
  | cons {k : NestedKey} {v : V} {ks : List NestedKey} {vs : List V} (h : VKey K H k v) (r : VKeys K H ks vs) : VKeys K H (k :: ks) (v :: vs)
end
theorem sqT_kept {K : PySem.W.Frag} {H H' : Hp} {a : Addr} {vs : List V} (e : ∀ b o, H b = some o → H' b = some o) (h : SqT K H a vs) : SqT K H' a vs := h.imp (·.imp (e _ _) fun ⟨o, q⟩ => ⟨o, e _ _ q⟩) id
mutual
theorem VKey.mono {K : PySem.W.Frag} {H H' : Hp} (e : ∀ b o, H b = some o → H' b = some o) : ∀ (k : NestedKey) (v : V), VKey K H k v → VKey K H' k v
  | _, _, .num i => .num i
  | _, _, .tup h r => .tup (sqT_kept e h) (VKeys.mono e _ _ r)
theorem VKeys.mono {K : PySem.W.Frag} {H H' : Hp} (e : ∀ b o, H b = some o → H' b = some o) : ∀ (ks : List NestedKey) (vs : List V), VKeys K H ks vs → VKeys K H' ks vs
  | _, _, .nil => .nil
  | _, _, .cons h r => .cons (VKey.mono e _ _ h) (VKeys.mono e _ _ r)
end
section
variable {X : Cx} {pins : List (Addr × Obj)} {σ : L2.St} {H : Hp} {s : Shared}
mutual
theorem key_is (I : Inv X pins σ H s) : ∀ (k : NestedKey) (v : V) (u : Value), VKey X.K H k v → RelV v u → NestedIs s.heap k u
  | _, _, _, .num i, r => by
    obtain ⟨t, rfl⟩ := r
    exact .int i t
  | _, _, _, .tup (ks := ks) h q, r => by
    cases r
    obtain ⟨its, rv, ⟨o, h1, h2, n, h3⟩, _⟩ := I.tuple h
    exact .tup h1 h2 h3 (by simpa using keys_are I ks _ its q rv)
theorem keys_are (I : Inv X pins σ H s) : ∀ (ks : List NestedKey) (vs : List V) (us : List Value), VKeys X.K H ks vs → Vals vs us → NestedAll s.heap ks us
  | _, _, _, .nil, r => by
    cases r
    exact .nil
  | _, _, _, .cons h q, r => by
    cases r with
    | cons r1 r2 => exact .cons (key_is I _ _ _ h r1) (keys_are I _ _ _ q r2)
end
/-- an entry's key, as the walk knows it -/
def KeyOk (K : PySem.W.Frag) (H : Hp) (k : NestedKey) (a : Addr) : Prop := intKey k = true ∧ k.depth ≤ 8 ∧ VKey K H k (.ref a)
theorem KeyOk.is (I : Inv X pins σ H s) {k : NestedKey} {a : Addr} (h : KeyOk X.K H k a) : (nestedKind X.prog X.w).is s.heap k a := ⟨key_is I _ _ _ h.2.2 rfl, h.2.1⟩
mutual
theorem data_depth : ∀ k : NestedKey, k.data.depth = k.depth
  | .none => rfl
  | .num _ => rfl
  | .text _ => rfl
  | .tup ks => by
    show PyData.depthAll (NestedKey.datas ks) + 1 = NestedKey.depthAll ks + 1
    rw [datas_depth ks]
theorem datas_depth : ∀ ks : List NestedKey, PyData.depthAll (NestedKey.datas ks) = NestedKey.depthAll ks
  | [] => rfl
  | k :: ks => by
    show max (PyData.depth k.data) (PyData.depthAll (NestedKey.datas ks)) = max k.depth (NestedKey.depthAll ks)
    rw [data_depth k, datas_depth ks]
end
mutual
theorem key_reads (I : Inv X pins σ H s) : ∀ (k : NestedKey) (v : V) (u : Value), VKey X.K H k v → RelV v u → ∃ as, Reads s.heap u k.data as
  | _, _, _, .num i, r => by
    obtain ⟨t, rfl⟩ := r
    exact ⟨_, .int i t⟩
  | _, _, _, .tup (ks := ks) h q, r => by
    cases r
    obtain ⟨its, rv, ⟨o, h1, h2, n, h3⟩, _⟩ := I.tuple h
    obtain ⟨as, ra⟩ := keys_reads I ks _ its q rv
    exact ⟨_, .tuple h1 h2 h3 (by simpa using ra)⟩
theorem keys_reads (I : Inv X pins σ H s) : ∀ (ks : List NestedKey) (vs : List V) (us : List Value), VKeys X.K H ks vs → Vals vs us → ∃ as, ReadsAll s.heap us (NestedKey.datas ks) as
  | _, _, _, .nil, r => by
    cases r
    exact ⟨_, .nil⟩
  | _, _, _, .cons h q, r => by
    cases r with
    | cons r1 r2 =>
      obtain ⟨as, h1⟩ := key_reads I _ _ _ h r1
      obtain ⟨bs, h2⟩ := keys_reads I _ _ _ q r2
      exact ⟨_, .cons h1 h2⟩
end
end
end DN
namespace PySem.W
open PySem PySem.Calls
open PyProof.Rows
end PySem.W
namespace DL
open PySem L2
inductive D where
  | non
  | bl (b : Bool)
  | int (i : Int)
  | str (x : Str)
  | tup (ds : List D)
  | lst (ds : List D)
  | dct (ks : List Key) (ds : List D)
  | scr (ns : List Int)
  | ref (i : Nat)
  | obj (c : Str) (fs : List Str) (ds : List D)
  | exc (c : Str) (fs : List Str) (ds : List D)
  | typ (c : Str)
inductive Cell where
  | lst (ds : List D)
  | dct (kvs : List (Key × D))
  | ins (c : Str) (fs : List Str) (ds : List D)
  | tab (q : Str)
  | nd (kvs : List (NestedKey × D))
abbrev Sto := List Cell
abbrev DEnv := List (Option D)
abbrev FE := DEnv → Sto → Option (D × Sto)
abbrev FA := DEnv → Sto → Option (List D × Sto)
abbrev FT := DEnv → Sto → Option (Bool × Sto)
abbrev FD := List D → Sto → Option (D × Sto)
inductive Fl where
  | nx (env : DEnv)
  | rt (d : D)
  | bk (env : DEnv)
  | ct (env : DEnv)
abbrev FS := DEnv → Sto → Option (Fl × Sto)
abbrev CT := Str → Option Addr
/-- at a: an error of the class at C that stands as it is, its dict at dx, if it has one -/
def exk (a C : Addr) (dx : Option Addr) : HO := .ext fun h => ∃ o vs, h.get? a = some o ∧ o.cls = .ref C ∧ o.dict = dx ∧ o.data = .fields vs
section
variable (K : PySem.W.Frag) (ct : CT)
mutual
def Rep (m : List Addr) (F : Hp) : D → V → Prop
  | .non, v => v = .non
  | .bl b, v => v = .bl b
  | .int i, v => v = .int i
  | .str x, v => v = .str x
  | .tup ds, v => ∃ a vs, v = .ref a ∧ SqT K F a vs ∧ Reps m F ds vs
  | .lst ds, v => ∃ a vs, v = .ref a ∧ F a = some (.lst vs) ∧ Reps m F ds vs
  | .dct ks ds, v => ∃ a vs, v = .ref a ∧ F a = some (.dK (ks.zip vs)) ∧ ks.length = vs.length ∧ Reps m F ds vs
  | .scr ns, v => ∃ a, v = .ref a ∧ SqL K F a (ns.map V.int)
  | .ref i, v => ∃ a, m[i]? = some a ∧ v = .ref a
  | .obj c fs ds, v => ∃ a C dx vs, v = .ref a ∧ ct c = some C ∧ F a = some (.ins C dx (fs.zip vs)) ∧ fs.length = vs.length ∧ Reps m F ds vs
  | .exc c fs ds, v => ∃ a C dx vs, v = .ref a ∧ ct c = some C ∧ Rd F a (exk a C dx) ∧ ((dx = none ∧ fs = []) ∨ ∃ d, dx = some d ∧ F d = some (.xd (fs.zip vs))) ∧ fs.length = vs.length ∧ Reps m F ds vs
  | .typ c, v => ∃ C, ct c = some C ∧ v = .ref C
def Reps (m : List Addr) (F : Hp) : List D → List V → Prop
  | [], vs => vs = []
  | d :: ds, vs => ∃ v r, vs = v :: r ∧ Rep m F d v ∧ Reps m F ds r
end
def CellR (m : List Addr) (F : Hp) (o : Option HO) : Cell → Prop
  | .lst ds => ∃ vs, o = some (.lst vs) ∧ Reps K ct m F ds vs
  | .dct kvs => ∃ us, o = some (.dK us) ∧ Paired (fun (p : Key × D) (q : Key × V) => p.1 = q.1 ∧ Rep K ct m F p.2 q.2) kvs us
  | .ins c fs ds => ∃ C dx vs, o = some (.ins C dx (fs.zip vs)) ∧ ct c = some C ∧ fs.length = vs.length ∧ Reps K ct m F ds vs
  | .tab q => ∃ ps : Array Value, o = some (.tbl ps) ∧ TriplesOk ps.toList ∧ ∀ (pos : Pos) (cv : Value), codeAmong pos ps.toList = some cv → ∃ c, cv = .ref c ∧ F c = some (LamX.CodeO c q)
  | .nd kvs => ∃ (w : World) (b : Addr) (xs : List DN.Ent), o = some (DN.NDO w b xs) ∧ Paired (fun (p : NestedKey × D) (q : DN.Ent) => p.1 = q.1 ∧ DN.KeyOk K F p.1 q.2.1 ∧ ∃ v, RelV v q.2.2 ∧ Rep K ct m F p.2 v) kvs xs
def isTab : Cell → Option Str
  | .tab q => some q
  | _ => none
structure Sim (m : List Addr) (F : Hp) (S : Sto) (H : Hp) : Prop where
  same : Same F H
  len : m.length = S.length
  nd : m.Nodup
  off : ∀ a ∈ m, F a = none
  cell : ∀ (i : Nat) (a : Addr) (c : Cell), m[i]? = some a → S[i]? = some c → CellR K ct m F (H a) c
  tab : ∀ (i : Nat) (a : Addr) (c : Cell) (q : Str), m[i]? = some a → S[i]? = some c → isTab c = some q → ct q = some a
def EnvR (m : List Addr) (F : Hp) (env : DEnv) (σ : St) : Prop :=
  env.length = σ.length ∧ ∀ (i : Nat) (d : D), env[i]? = some (some d) → ∃ v, σ[i]? = some (some v) ∧ Rep K ct m F d v
end
/-- what an evaluation may do to the heap -/
structure Ext (m : List Addr) (F H : Hp) (m' : List Addr) (F' H' : Hp) : Prop where
  pre : ∀ (i : Nat) (a : Addr), m[i]? = some a → m'[i]? = some a
  same : Same F F'
  keep : ∀ b o, H b = some o → b ∉ m → H' b = some o
  new : ∀ a ∈ m', a ∈ m ∨ H a = none
  fnew : ∀ b o, F' b = some o → F b = some o ∨ H b = none
  grow : ∀ b o, H b = some o → ∃ o', H' b = some o'
theorem nodup_inj {α : Type} {a : α} : ∀ {l : List α} {i j : Nat}, l.Nodup → l[i]? = some a → l[j]? = some a → i = j
  | [], _, _, _, h, _ => by simp at h
  | x :: l, 0, 0, _, _, _ => rfl
  | x :: l, 0, j + 1, n, h, q => by
    simp at h q
    exact absurd (List.mem_iff_getElem?.mpr ⟨j, q⟩) (h ▸ (List.nodup_cons.mp n).1)
  | x :: l, i + 1, 0, n, h, q => by
    simp at h q
    exact absurd (List.mem_iff_getElem?.mpr ⟨i, h⟩) (q ▸ (List.nodup_cons.mp n).1)
  | x :: l, i + 1, j + 1, n, h, q => by
    have := nodup_inj (i := i) (j := j) (List.nodup_cons.mp n).2 (by simpa using h) (by simpa using q)
    omega
theorem Ext.refl (m : List Addr) (F H : Hp) : Ext m F H m F H := ⟨fun _ _ h => h, Same.refl _, fun _ _ h _ => h, fun _ h => .inl h, fun _ _ h => .inl h, fun _ o h => ⟨o, h⟩⟩
theorem Ext.trans {m m1 m2 : List Addr} {F F1 F2 H H1 H2 : Hp} (a : Ext m F H m1 F1 H1) (b : Ext m1 F1 H1 m2 F2 H2) : Ext m F H m2 F2 H2 where
  pre := fun i x h => b.pre i x (a.pre i x h)
  same := a.same.trans b.same
  keep := fun c o h n => b.keep c o (a.keep c o h n) fun hm => by
    rcases a.new c hm with q | q
    · exact n q
    · rw [h] at q; cases q
  new := fun x hx => by
    rcases b.new x hx with q | q
    · exact a.new x q
    · cases e : H x with
      | none => exact .inr rfl
      | some o =>
        obtain ⟨o', h⟩ := a.grow x o e
        rw [h] at q; cases q
  fnew := fun x o hx => by
    rcases b.fnew x o hx with q | q
    · exact a.fnew x o q
    · cases e : H x with
      | none => exact .inr rfl
      | some o =>
        obtain ⟨o', h⟩ := a.grow x o e
        rw [h] at q; cases q
  grow := fun x o h => by
    obtain ⟨o1, h1⟩ := a.grow x o h
    exact b.grow x o1 h1
section
variable {K : PySem.W.Frag} {ct : CT}
theorem sqT_mono {F F' : Hp} {a : Addr} {vs : List V} (e : Same F F') (h : SqT K F a vs) : SqT K F' a vs := by
  rcases h with (h | ⟨o, h⟩) | h
  · exact .inl (.inl (e _ _ h))
  · exact .inl (.inr ⟨o, e _ _ h⟩)
  · exact .inr h
theorem rd_mono {F F' : Hp} {a : Addr} {u : HO} (e : Same F F') (h : Rd F a u) : Rd F' a u := h.imp (e _ _) fun ⟨o, h⟩ => ⟨o, e _ _ h⟩
mutual
theorem Rep.mono' {m m' : List Addr} {F F' : Hp} (hp : ∀ (i : Nat) (a : Addr), m[i]? = some a → m'[i]? = some a) (e : Same F F') : ∀ (d : D) (v : V), Rep K ct m F d v → Rep K ct m' F' d v
  | .non, _, h => h
  | .bl _, _, h => h
  | .int _, _, h => h
  | .str _, _, h => h
  | .tup ds, _, h => by
    obtain ⟨a, vs, e1, e2, e3⟩ := h
    exact ⟨a, vs, e1, sqT_mono e e2, Reps.mono' hp e ds vs e3⟩
  | .lst ds, _, h => by
    obtain ⟨a, vs, e1, e2, e3⟩ := h
    exact ⟨a, vs, e1, e _ _ e2, Reps.mono' hp e ds vs e3⟩
  | .dct ks ds, _, h => by
    obtain ⟨a, vs, e1, e2, e4, e3⟩ := h
    exact ⟨a, vs, e1, e _ _ e2, e4, Reps.mono' hp e ds vs e3⟩
  | .scr _, _, h => by
    obtain ⟨a, e1, e2⟩ := h
    exact ⟨a, e1, e.seq e2⟩
  | .ref i, _, h => by
    obtain ⟨a, e1, e2⟩ := h
    exact ⟨a, hp i a e1, e2⟩
  | .obj c fs ds, _, h => by
    obtain ⟨a, C, dx, vs, e1, e2, e4, e5, e3⟩ := h
    exact ⟨a, C, dx, vs, e1, e2, e _ _ e4, e5, Reps.mono' hp e ds vs e3⟩
  | .exc c fs ds, _, h => by
    obtain ⟨a, C, dx, vs, e1, e2, e4, e6, e5, e3⟩ := h
    exact ⟨a, C, dx, vs, e1, e2, rd_mono e e4, e6.imp id fun ⟨d, q1, q2⟩ => ⟨d, q1, e _ _ q2⟩, e5, Reps.mono' hp e ds vs e3⟩
  | .typ c, _, h => h
theorem Reps.mono' {m m' : List Addr} {F F' : Hp} (hp : ∀ (i : Nat) (a : Addr), m[i]? = some a → m'[i]? = some a) (e : Same F F') : ∀ (ds : List D) (vs : List V), Reps K ct m F ds vs → Reps K ct m' F' ds vs
  | [], _, h => h
  | d :: ds, _, h => by
    obtain ⟨v, r, e1, e2, e3⟩ := h
    exact ⟨v, r, e1, Rep.mono' hp e d v e2, Reps.mono' hp e ds r e3⟩
end
variable {m m' : List Addr} {F F' H H' : Hp} {S S' : Sto} {env : DEnv} {σ : St} {d : D} {v : V} {ds : List D} {vs : List V}
theorem Rep.mono (h : Rep K ct m F d v) (e : Ext m F H m' F' H') : Rep K ct m' F' d v := Rep.mono' e.pre e.same d v h
theorem Reps.mono (h : Reps K ct m F ds vs) (e : Ext m F H m' F' H') : Reps K ct m' F' ds vs := Reps.mono' e.pre e.same ds vs h
theorem EnvR.mono (h : EnvR K ct m F env σ) (e : Ext m F H m' F' H') : EnvR K ct m' F' env σ :=
  ⟨h.1, fun i d q => let ⟨v, h1, h2⟩ := h.2 i d q; ⟨v, h1, h2.mono e⟩⟩
theorem CellR.mono {o : Option HO} {c : Cell} (h : CellR K ct m F o c) (e : Ext m F H m' F' H') : CellR K ct m' F' o c := by
  cases c with
  | lst ds => obtain ⟨vs, e1, e2⟩ := h; exact ⟨vs, e1, e2.mono e⟩
  | dct kvs => obtain ⟨vs, e1, e2⟩ := h; exact ⟨vs, e1, Paired.mapP e2 fun p q z => ⟨z.1, z.2.mono e⟩⟩
  | ins c fs ds => obtain ⟨C, dx, vs, e1, e4, e3, e2⟩ := h; exact ⟨C, dx, vs, e1, e4, e3, e2.mono e⟩
  | tab q => obtain ⟨ps, e1, e2, e3⟩ := h; exact ⟨ps, e1, e2, fun pos cv hc => let ⟨c, z1, z2⟩ := e3 pos cv hc; ⟨c, z1, e.same _ _ z2⟩⟩
  | nd kvs => obtain ⟨w, b, xs, e1, e2⟩ := h; exact ⟨w, b, xs, e1, Paired.mapP e2 fun p q ⟨z1, ⟨z2, z3, z4⟩, v, z5, z6⟩ => ⟨z1, ⟨z2, z3, DN.VKey.mono e.same _ _ z4⟩, v, z5, z6.mono e⟩⟩
theorem CellR.isSome {o : Option HO} {c : Cell} (h : CellR K ct m F o c) : ∃ u, o = some u := by
  cases c with
  | lst ds => obtain ⟨vs, e1, _⟩ := h; exact ⟨_, e1⟩
  | dct kvs => obtain ⟨vs, e1, _⟩ := h; exact ⟨_, e1⟩
  | ins c fs ds => obtain ⟨C, dx, vs, e1, _⟩ := h; exact ⟨_, e1⟩
  | tab q => obtain ⟨ps, e1, _⟩ := h; exact ⟨_, e1⟩
  | nd kvs => obtain ⟨w, b, xs, e1, _⟩ := h; exact ⟨_, e1⟩
theorem Sim.at (s : Sim K ct m F S H) {i : Nat} {a : Addr} (h : m[i]? = some a) : ∃ c, S[i]? = some c ∧ CellR K ct m F (H a) c := by
  have hi : i < S.length := by
    rw [← s.len]
    exact (List.getElem?_eq_some_iff.mp h).1
  exact ⟨S[i], List.getElem?_eq_getElem hi, s.cell i a S[i] h (List.getElem?_eq_getElem hi)⟩
theorem Sim.there (s : Sim K ct m F S H) {a : Addr} (h : a ∈ m) : ∃ o, H a = some o := by
  obtain ⟨i, hi⟩ := List.mem_iff_getElem?.mp h
  obtain ⟨c, _, hc⟩ := s.at hi
  exact hc.isSome
/-- a new frozen object -/
theorem Sim.frozen (s : Sim K ct m F S H) {p : Addr} (hp : H p = none) (o : HO) : Sim K ct m (upd F p o) S (upd H p o) ∧ Ext m F H m (upd F p o) (upd H p o) := by
  have nm : p ∉ m := fun h => by
    obtain ⟨o, q⟩ := s.there h
    rw [hp] at q; cases q
  have x : Ext m F H m (upd F p o) (upd H p o) := by
    refine ⟨fun _ _ h => h, fun b u h => ?_, fun b u h _ => ?_, fun a h => .inl h, fun b u h => ?_, fun b u h => ?_⟩
    · rw [upd_ne (ne_of_none (s.same _ _ h) hp)]; exact h
    · rw [upd_ne (ne_of_none h hp)]; exact h
    · by_cases hb : b = p
      · rw [hb]; exact .inr hp
      · rw [upd_ne hb] at h; exact .inl h
    · exact ⟨u, by rw [upd_ne (ne_of_none h hp)]; exact h⟩
  refine ⟨⟨fun b u h => ?_, s.len, s.nd, fun a h => ?_, fun i a c h1 h2 => ?_, s.tab⟩, x⟩
  · by_cases hb : b = p
    · rw [hb, upd_same] at h; rw [hb, upd_same]; exact h
    · rw [upd_ne hb] at h; rw [upd_ne hb]; exact s.same _ _ h
  · have na : a ≠ p := fun e => nm (e ▸ h)
    rw [upd_ne na]; exact s.off a h
  · have hm : a ∈ m := List.mem_iff_getElem?.mpr ⟨i, h1⟩
    have na : a ≠ p := fun e => nm (e ▸ hm)
    rw [upd_ne na]
    exact (s.cell i a c h1 h2).mono x
/-- a new cell -/
theorem Sim.fresh (s : Sim K ct m F S H) {p : Addr} (hp : H p = none) {o : HO} {c : Cell} (hc : CellR K ct m F (some o) c) (nt : isTab c = none := by rfl) : Sim K ct (m ++ [p]) F (S ++ [c]) (upd H p o) ∧ Ext m F H (m ++ [p]) F (upd H p o) := by
  have nm : p ∉ m := fun h => by
    obtain ⟨o, q⟩ := s.there h
    rw [hp] at q; cases q
  have x : Ext m F H (m ++ [p]) F (upd H p o) := by
    refine ⟨fun i a h => ?_, Same.refl _, fun b u h _ => ?_, fun a h => ?_, fun b u h => .inl h, fun b u h => ?_⟩
    · rw [List.getElem?_append_left (List.getElem?_eq_some_iff.mp h).1]; exact h
    · rw [upd_ne (ne_of_none h hp)]; exact h
    · rcases List.mem_append.mp h with q | q
      · exact .inl q
      · rw [List.mem_singleton.mp q]; exact .inr hp
    · exact ⟨u, by rw [upd_ne (ne_of_none h hp)]; exact h⟩
  refine ⟨⟨fun b u h => ?_, by simp [s.len], ?_, fun a h => ?_, fun i a c' h1 h2 => ?_, fun i a c' q h1 h2 h3 => ?_⟩, x⟩
  · rw [upd_ne (ne_of_none (s.same _ _ h) hp)]; exact s.same _ _ h
  · rw [List.nodup_append]
    exact ⟨s.nd, by simp, fun a ha b hb e => nm (by rw [List.mem_singleton.mp hb] at e; exact e ▸ ha)⟩
  · rcases List.mem_append.mp h with q | q
    · exact s.off a q
    · rw [List.mem_singleton.mp q]
      cases e : F p with
      | none => rfl
      | some o => rw [s.same _ _ e] at hp; cases hp
  · by_cases hi : i < m.length
    · rw [List.getElem?_append_left hi] at h1
      rw [List.getElem?_append_left (s.len ▸ hi)] at h2
      have hm : a ∈ m := List.mem_iff_getElem?.mpr ⟨i, h1⟩
      have na : a ≠ p := fun e => nm (e ▸ hm)
      rw [upd_ne na]
      exact (s.cell i a c' h1 h2).mono x
    · rw [List.getElem?_append_right (by omega)] at h1
      rw [List.getElem?_append_right (by have := s.len; omega)] at h2
      have e0 : i - m.length = 0 := by
        have := (List.getElem?_eq_some_iff.mp h1).1
        simp at this; omega
      rw [e0] at h1
      rw [← s.len, e0] at h2
      simp at h1 h2
      subst h1 h2
      rw [upd_same]
      exact hc.mono x
  · by_cases hi : i < m.length
    · rw [List.getElem?_append_left hi] at h1
      rw [List.getElem?_append_left (s.len ▸ hi)] at h2
      exact s.tab i a c' q h1 h2 h3
    · rw [List.getElem?_append_right (by have := s.len; omega)] at h2
      have := List.mem_of_getElem? h2
      rw [List.mem_singleton.mp this, nt] at h3
      cases h3
/-- a cell is changed -/
theorem Sim.change (s : Sim K ct m F S H) {i : Nat} {p : Addr} (hi : m[i]? = some p) {o : HO} {c : Cell} (hc : CellR K ct m F (some o) c) (nt : ∀ q, isTab c = some q → ct q = some p := by (intro q h; cases h)) : Sim K ct m F (S.set i c) (upd H p o) ∧ Ext m F H m F (upd H p o) := by
  have hm : p ∈ m := List.mem_iff_getElem?.mpr ⟨i, hi⟩
  have x : Ext m F H m F (upd H p o) := by
    refine ⟨fun _ _ h => h, Same.refl _, fun b u h n => ?_, fun a h => .inl h, fun _ _ h => .inl h, fun b u h => ?_⟩
    · have nb : b ≠ p := fun e => n (e ▸ hm)
      rw [upd_ne nb]; exact h
    · by_cases hb : b = p
      · rw [hb, upd_same]; exact ⟨o, rfl⟩
      · rw [upd_ne hb]; exact ⟨u, h⟩
  refine ⟨⟨fun b u h => ?_, by simp [s.len], s.nd, s.off, fun j a c' h1 h2 => ?_, fun j a c' q h1 h2 h3 => ?_⟩, x⟩
  · have nb : b ≠ p := fun e => by
      subst e
      rw [s.off b hm] at h; cases h
    rw [upd_ne nb]; exact s.same _ _ h
  · have hil : i < m.length := (List.getElem?_eq_some_iff.mp hi).1
    by_cases hj : j = i
    · subst hj
      rw [hi] at h1
      cases h1
      rw [List.getElem?_set_self (s.len ▸ hil)] at h2
      cases h2
      rw [upd_same]
      exact hc
    · rw [List.getElem?_set_ne (fun e => hj e.symm)] at h2
      have na : a ≠ p := fun e => by
        subst e
        have hjl : j < m.length := (List.getElem?_eq_some_iff.mp h1).1
        exact hj (nodup_inj s.nd h1 hi)
      rw [upd_ne na]
      exact s.cell j a c' h1 h2
  · have hil : i < m.length := (List.getElem?_eq_some_iff.mp hi).1
    by_cases hj : j = i
    · subst hj
      rw [hi] at h1
      cases h1
      rw [List.getElem?_set_self (s.len ▸ hil)] at h2
      cases h2
      exact nt q h3
    · rw [List.getElem?_set_ne (fun e => hj e.symm)] at h2
      exact s.tab j a c' q h1 h2 h3
theorem Reps.length : ∀ {ds : List D} {vs : List V}, Reps K ct m F ds vs → ds.length = vs.length
  | [], _, h => by have h : _ = _ := h; subst h; rfl
  | d :: ds, _, h => by
    obtain ⟨v, r, e1, _, e3⟩ := h
    subst e1
    simp [Reps.length e3]
theorem Reps.get : ∀ {ds : List D} {vs : List V} {i : Nat} {d : D}, Reps K ct m F ds vs → ds[i]? = some d → ∃ v, vs[i]? = some v ∧ Rep K ct m F d v
  | [], _, _, _, _, h => by simp at h
  | d :: ds, _, 0, _, hr, h => by
    obtain ⟨v, r, e1, e2, _⟩ := hr
    subst e1
    simp at h
    subst h
    exact ⟨v, rfl, e2⟩
  | d :: ds, _, i + 1, _, hr, h => by
    obtain ⟨v, r, e1, _, e3⟩ := hr
    subst e1
    exact Reps.get (i := i) e3 (by simpa using h)
theorem Reps.snoc : ∀ {ds : List D} {vs : List V} {d : D} {v : V}, Reps K ct m F ds vs → Rep K ct m F d v → Reps K ct m F (ds ++ [d]) (vs ++ [v])
  | [], _, d, v, h, q => by
    have h : _ = _ := h
    subst h
    exact ⟨v, [], rfl, q, rfl⟩
  | e :: ds, _, d, v, h, q => by
    obtain ⟨x, r, e1, e2, e3⟩ := h
    subst e1
    exact ⟨x, r ++ [v], rfl, e2, e3.snoc q⟩
theorem Reps.append : ∀ {ds es : List D} {vs us : List V}, Reps K ct m F ds vs → Reps K ct m F es us → Reps K ct m F (ds ++ es) (vs ++ us)
  | [], _, _, _, h, q => by
    have h : _ = _ := h
    subst h
    exact q
  | e :: ds, _, _, _, h, q => by
    obtain ⟨x, r, e1, e2, e3⟩ := h
    subst e1
    exact ⟨x, _, rfl, e2, e3.append q⟩
theorem Reps.set : ∀ {ds : List D} {vs : List V} {d : D} {v : V} (i : Nat), Reps K ct m F ds vs → Rep K ct m F d v → Reps K ct m F (ds.set i d) (vs.set i v)
  | [], _, d, v, i, h, q => by
    have h : _ = _ := h
    subst h
    cases i <;> exact rfl
  | e :: ds, _, d, v, 0, h, q => by
    obtain ⟨x, r, e1, e2, e3⟩ := h
    subst e1
    exact ⟨v, r, rfl, q, e3⟩
  | e :: ds, _, d, v, i + 1, h, q => by
    obtain ⟨x, r, e1, e2, e3⟩ := h
    subst e1
    exact ⟨x, _, rfl, e2, e3.set i q⟩
theorem Reps.take : ∀ {ds : List D} {vs : List V} (n : Nat), Reps K ct m F ds vs → Reps K ct m F (ds.take n) (vs.take n)
  | _, _, 0, _ => by simp [Reps]
  | [], _, n + 1, h => by
    have h : _ = _ := h
    subst h
    exact rfl
  | d :: ds, _, n + 1, h => by
    obtain ⟨x, r, e1, e2, e3⟩ := h
    subst e1
    exact ⟨x, _, rfl, e2, e3.take n⟩
theorem Reps.drop : ∀ {ds : List D} {vs : List V} (n : Nat), Reps K ct m F ds vs → Reps K ct m F (ds.drop n) (vs.drop n)
  | _, _, 0, h => h
  | [], _, n + 1, h => by
    have h : _ = _ := h
    subst h
    exact rfl
  | d :: ds, _, n + 1, h => by
    obtain ⟨x, r, e1, e2, e3⟩ := h
    subst e1
    exact e3.drop n
theorem Reps.mk1 (h : Rep K ct m F d v) : Reps K ct m F [d] [v] := ⟨v, [], rfl, h, rfl⟩
theorem Reps.ints (ns : List Int) : Reps K ct m F (ns.map D.int) (ns.map V.int) := by
  induction ns with
  | nil => exact rfl
  | cons n ns ih => exact ⟨_, _, rfl, rfl, ih⟩
theorem EnvR.set (h : EnvR K ct m F env σ) (i : Nat) (q : Rep K ct m F d v) : EnvR K ct m F (env.set i (some d)) (σ.set i (some v)) := by
  refine ⟨by simp [h.1], fun j e hj => ?_⟩
  by_cases e1 : i = j
  · subst e1
    have hl : i < env.length := by
      have := (List.getElem?_eq_some_iff.mp hj).1
      simpa using this
    rw [List.getElem?_set_self hl] at hj
    cases hj
    rw [List.getElem?_set_self (h.1 ▸ hl)]
    exact ⟨v, rfl, q⟩
  · rw [List.getElem?_set_ne e1] at hj
    rw [List.getElem?_set_ne e1]
    exact h.2 j e hj
end
section
variable (ct : CT)
def PostE (K : PySem.W.Frag) (m : List Addr) (F H : Hp) (S' : Sto) (d : D) (Q : VK) : Prop :=
  ∀ m' F' v H', Ext m F H m' F' H' → Sim K ct m' F' S' H' → Rep K ct m' F' d v → Q v H'
def PostA (K : PySem.W.Frag) (m : List Addr) (F H : Hp) (S' : Sto) (ds : List D) (Q : List V → Hp → Prop) : Prop :=
  ∀ m' F' vs H', Ext m F H m' F' H' → Sim K ct m' F' S' H' → Reps K ct m' F' ds vs → Q vs H'
def PostT (K : PySem.W.Frag) (m : List Addr) (F H : Hp) (S' : Sto) (b : Bool) (Q : Bool → Hp → Prop) : Prop :=
  ∀ m' F' H', Ext m F H m' F' H' → Sim K ct m' F' S' H' → Q b H'
def PostS (K : PySem.W.Frag) (m : List Addr) (F H : Hp) (S' : Sto) (fl : Fl) (E : Ends) : Prop :=
  match fl with
  | .nx env' => ∀ m' F' σ' H', Ext m F H m' F' H' → Sim K ct m' F' S' H' → EnvR K ct m' F' env' σ' → E.nx σ' H'
  | .rt d => ∀ m' F' v H', Ext m F H m' F' H' → Sim K ct m' F' S' H' → Rep K ct m' F' d v → E.rt v H'
  | .bk env' => ∀ m' F' σ' H', Ext m F H m' F' H' → Sim K ct m' F' S' H' → EnvR K ct m' F' env' σ' → E.bk σ' H'
  | .ct env' => ∀ m' F' σ' H', Ext m F H m' F' H' → Sim K ct m' F' S' H' → EnvR K ct m' F' env' σ' → E.ct σ' H'
def SE (X : Cx) (e : Expr) (f : FE) : Prop := ∃ t, PE X e t ∧ ∀ m F S σ H env d S' Q, Sim X.K ct m F S H → EnvR X.K ct m F env σ → f env S = some (d, S') → PostE ct X.K m F H S' d Q → t σ H Q
def SA (X : Cx) (es : List Expr) (f : FA) : Prop := ∃ t, PA X es t ∧ ∀ m F S σ H env ds S' Q, Sim X.K ct m F S H → EnvR X.K ct m F env σ → f env S = some (ds, S') → PostA ct X.K m F H S' ds Q → t σ H Q
def ST (X : Cx) (e : Expr) (f : FT) : Prop := ∃ t, PT X e t ∧ ∀ m F S σ H env b S' Q, Sim X.K ct m F S H → EnvR X.K ct m F env σ → f env S = some (b, S') → PostT ct X.K m F H S' b Q → t σ H Q
def SW (X : Cx) (e : Expr) (f : FT) : Prop := ∃ t, PW X e t ∧ ∀ m F S σ H env b S' Q, Sim X.K ct m F S H → EnvR X.K ct m F env σ → f env S = some (b, S') → PostT ct X.K m F H S' b Q → t σ H Q
def SS (X : Cx) (st : Stmt) (f : FS) : Prop := ∃ t, PS X st t ∧ ∀ m F S σ H env fl S' E, Sim X.K ct m F S H → EnvR X.K ct m F env σ → f env S = some (fl, S') → PostS ct X.K m F H S' fl E → t E σ H
def SSs (X : Cx) (sts : List Stmt) (f : FS) : Prop := ∃ t, PSs X sts t ∧ ∀ m F S σ H env fl S' E, Sim X.K ct m F S H → EnvR X.K ct m F env σ → f env S = some (fl, S') → PostS ct X.K m F H S' fl E → t E σ H
/-- a rule of two values, at data -/
def OpD (K : PySem.W.Frag) (r : R2) (g : D → D → Sto → Option (D × Sto)) : Prop := ∀ m F S H x y dx dy d S' Q, Sim K ct m F S H → Rep K ct m F dx x → Rep K ct m F dy y → g dx dy S = some (d, S') → PostE ct K m F H S' d Q → r x y H Q
def CallD (K : PySem.W.Frag) (r : List V → Hp → VK → Prop) (g : FD) : Prop := ∀ m F S H xs ds d S' Q, Sim K ct m F S H → Reps K ct m F ds xs → g ds S = some (d, S') → PostE ct K m F H S' d Q → r xs H Q
end
section
variable {ct : CT} {K : PySem.W.Frag} {m m1 : List Addr} {F F1 H H1 : Hp} {S S' : Sto}
theorem PostE.ext {d : D} {Q : VK} (p : PostE ct K m F H S' d Q) (e : Ext m F H m1 F1 H1) : PostE ct K m1 F1 H1 S' d Q := fun m' F' v H' x s r => p m' F' v H' (e.trans x) s r
theorem PostA.ext {d : List D} {Q : List V → Hp → Prop} (p : PostA ct K m F H S' d Q) (e : Ext m F H m1 F1 H1) : PostA ct K m1 F1 H1 S' d Q := fun m' F' v H' x s r => p m' F' v H' (e.trans x) s r
theorem PostT.ext {d : Bool} {Q : Bool → Hp → Prop} (p : PostT ct K m F H S' d Q) (e : Ext m F H m1 F1 H1) : PostT ct K m1 F1 H1 S' d Q := fun m' F' H' x s => p m' F' H' (e.trans x) s
theorem PostS.ext {fl : Fl} {E : Ends} (p : PostS ct K m F H S' fl E) (e : Ext m F H m1 F1 H1) : PostS ct K m1 F1 H1 S' fl E := by
  cases fl with
  | nx env' => exact fun m' F' σ' H' x s r => p m' F' σ' H' (e.trans x) s r
  | rt d => exact fun m' F' σ' H' x s r => p m' F' σ' H' (e.trans x) s r
  | bk env' => exact fun m' F' σ' H' x s r => p m' F' σ' H' (e.trans x) s r
  | ct env' => exact fun m' F' σ' H' x s r => p m' F' σ' H' (e.trans x) s r
theorem PostE.now {d : D} {v : V} {Q : VK} (p : PostE ct K m F H S d Q) (s : Sim K ct m F S H) (r : Rep K ct m F d v) : Q v H := p m F v H (Ext.refl _ _ _) s r
end
end DL
namespace DL
open PySem L2
section
variable {ct : CT} {X : Cx} {a b c e : Expr} {es : List Expr} {fa fb fc f : FE} {fas : FA} {pos : Pos}
def fVar (i : Nat) : FE := fun env S => match env[i]? with
  | some (some d) => some (d, S)
  | _ => none
def fC (d : D) : FE := fun _ S => some (d, S)
theorem se_var (i : Nat) {x : Str} (hN : X.N[i]? = some x := by rfl) (hv : Vis X.env.scope x := by first | exact Or.inl rfl | exact Or.inr (Or.inl rfl) | exact Or.inr (Or.inr rfl)) (hd : (x == ("__debug__" : Str)) = false := by decide)
    (hcd : (x == ("__classdict__" : Str)) = false := by decide) : SE ct X (.Name x pos) (fVar i) := by
  refine ⟨_, pe_var hN hv hd hcd, fun m F S σ H env d S' Q s r h p => ?_⟩
  unfold fVar at h
  split at h
  · rename_i d' e
    cases h
    obtain ⟨v, h1, h2⟩ := r.2 i _ e
    exact ⟨v, h1, p.now s h2⟩
  · cases h
theorem se_of {t : TE} {d : D} {v : V} (h : PE X e t) (ht : ∀ σ H (Q : VK), Q v H → t σ H Q) (hr : ∀ m F, Rep X.K ct m F d v) : SE ct X e (fC d) :=
  ⟨t, h, fun m F S σ H env d' S' Q s _ q p => by
    cases q
    exact ht σ H Q (p.now s (hr m F))⟩
theorem se_int {i : Int} {j : Nat} : SE ct X (.Constant (.int i) j pos) (fC (.int i)) := se_of pe_int (fun _ _ _ q => q) fun _ _ => rfl
theorem se_bl {i : Bool} {j : Nat} : SE ct X (.Constant (.bool i) j pos) (fC (.bl i)) := se_of pe_bl (fun _ _ _ q => q) fun _ _ => rfl
theorem se_non {j : Nat} : SE ct X (.Constant .none j pos) (fC .non) := se_of pe_non (fun _ _ _ q => q) fun _ _ => rfl
theorem se_str {i : Str} {j : Nat} : SE ct X (.Constant (.str i) j pos) (fC (.str i)) := se_of pe_str (fun _ _ _ q => q) fun _ _ => rfl
theorem se_glob {x : Str} {v : V} {u : Value} {d : D} (hg : Gl X x) (hm : X.mg x = some u) (r : RelV v u) (hr : ∀ m F, Rep X.K ct m F d v) (hd : (x == ("__debug__" : Str)) = false := by decide) : SE ct X (.Name x pos) (fC d) :=
  se_of (pe_glob hg hm r hd) (fun _ _ _ q => q) hr
def fBin (g : D → D → Sto → Option (D × Sto)) (fa fb : FE) : FE := fun env S => (fa env S).bind fun p => (fb env p.2).bind fun q => g p.1 q.1 q.2
theorem bind_some {α β : Type} {o : Option α} {k : α → Option β} {r : β} (h : o.bind k = some r) : ∃ x, o = some x ∧ k x = some r := by
  cases o with
  | none => cases h
  | some x => exact ⟨x, rfl, h⟩
theorem two {m : List Addr} {F H : Hp} {S S' : Sto} {env : DEnv} {d : D} {σ : St} {Q : VK} {g : D → D → Sto → Option (D × Sto)} {r : R2} {ta tb : TE}
    (ra : ∀ m F S σ H env d S' Q, Sim X.K ct m F S H → EnvR X.K ct m F env σ → fa env S = some (d, S') → PostE ct X.K m F H S' d Q → ta σ H Q)
    (rb : ∀ m F S σ H env d S' Q, Sim X.K ct m F S H → EnvR X.K ct m F env σ → fb env S = some (d, S') → PostE ct X.K m F H S' d Q → tb σ H Q)
    (o : OpD ct X.K r g) (s : Sim X.K ct m F S H) (en : EnvR X.K ct m F env σ) (h : fBin g fa fb env S = some (d, S')) (p : PostE ct X.K m F H S' d Q) : tOp r ta tb σ H Q := by
  obtain ⟨⟨x, S1⟩, h1, h⟩ := bind_some h
  obtain ⟨⟨y, S2⟩, h2, h⟩ := bind_some h
  refine ra m F S σ H env x S1 _ s en h1 fun m1 F1 v1 H1 x1 s1 r1 => ?_
  refine rb m1 F1 S1 σ H1 env y S2 _ s1 (en.mono x1) h2 fun m2 F2 v2 H2 x2 s2 r2 => ?_
  exact o m2 F2 S2 H2 v1 v2 x y d S' Q s2 (r1.mono x2) r2 h ((p.ext x1).ext x2)
theorem se_op {op : Operator} {r : R2} {g : D → D → Sto → Option (D × Sto)} (ho : OpR X (binaryOp op) r) (od : OpD ct X.K r g) (ha : SE ct X a fa) (hb : SE ct X b fb) : SE ct X (.BinOp a op b pos) (fBin g fa fb) := by
  obtain ⟨ta, pa, ra⟩ := ha
  obtain ⟨tb, pb, rb⟩ := hb
  exact ⟨_, pe_op ho pa pb, fun m F S σ H env d S' Q s en h p => two ra rb od s en h p⟩
theorem se_cmp {op : CmpOp} {r : R2} {g : D → D → Sto → Option (D × Sto)} (ho : OpR X (compareOp op) r) (od : OpD ct X.K r g) (ha : SE ct X a fa) (hb : SE ct X b fb) (hm : behindInMarks op b = false) : SE ct X (.Compare a [op] [b] pos) (fBin g fa fb) := by
  obtain ⟨ta, pa, ra⟩ := ha
  obtain ⟨tb, pb, rb⟩ := hb
  exact ⟨_, pe_cmpR ho pa pb hm, fun m F S σ H env d S' Q s en h p => two ra rb od s en h p⟩
theorem se_ix {r : R2} {g : D → D → Sto → Option (D × Sto)} (ho : IxR X r) (od : OpD ct X.K r g) (ha : SE ct X a fa) (hb : SE ct X b fb) (hs : PlainIx b) : SE ct X (.Subscript a b pos) (fBin g fa fb) := by
  obtain ⟨ta, pa, ra⟩ := ha
  obtain ⟨tb, pb, rb⟩ := hb
  exact ⟨_, pe_ix ho pa pb hs, fun m F S σ H env d S' Q s en h p => two ra rb od s en h p⟩
def fUn (g : D → Option D) (fa : FE) : FE := fun env S => (fa env S).bind fun p => (g p.1).map fun d => (d, p.2)
def gNeg : D → Option D
  | .int i => some (.int (-i))
  | _ => none
def fNil : FA := fun _ S => some ([], S)
def fCons (f : FE) (fs : FA) : FA := fun env S => (f env S).bind fun p => (fs env p.2).bind fun q => some (p.1 :: q.1, q.2)
theorem sa_nil : SA ct X [] fNil := ⟨_, pa_nil, fun m F S σ H env d S' Q s en h p => by
  cases h
  exact p m F [] H (Ext.refl _ _ _) s rfl⟩
theorem sa_cons (ha : SE ct X e f) (hr : SA ct X es fas) (hs : starEach (e :: es) X.env = (false, eval e X.env) :: starEach es X.env := by rfl) : SA ct X (e :: es) (fCons f fas) := by
  obtain ⟨ta, pa, ra⟩ := ha
  obtain ⟨tb, pb, rb⟩ := hr
  refine ⟨_, pa_cons pa pb hs, fun m F S σ H env d S' Q s en h p => ?_⟩
  obtain ⟨⟨x, S1⟩, h1, h⟩ := bind_some h
  obtain ⟨⟨ys, S2⟩, h2, h⟩ := bind_some h
  cases h
  refine ra m F S σ H env x S1 _ s en h1 fun m1 F1 v1 H1 x1 s1 r1 => ?_
  refine rb m1 F1 S1 σ H1 env ys S2 _ s1 (en.mono x1) h2 fun m2 F2 v2 H2 x2 s2 r2 => ?_
  exact p m2 F2 (v1 :: v2) H2 (x1.trans x2) s2 ⟨v1, v2, rfl, r1.mono x2, r2⟩
def fTup (fs : FA) : FE := fun env S => (fs env S).bind fun p => if p.1.length ≤ 1000 then some (.tup p.1, p.2) else none
def fLst (fs : FA) : FE := fun env S => (fs env S).bind fun p => if p.1.length ≤ 1000 then some (.lst p.1, p.2) else none
/-- a list that will be changed -/
def fLstM (fs : FA) : FE := fun env S => (fs env S).bind fun p => if p.1.length ≤ 1000 then some (.ref p.2.length, p.2 ++ [.lst p.1]) else none
theorem line_of {n : Nat} (h : n ≤ 1000) : n ≤ sizeLine := Nat.le_trans h (by decide)
theorem se_tup {k : Nat} (ha : SA ct X es fas) : SE ct X (.Tuple es k pos) (fTup fas) := by
  obtain ⟨ta, pa, ra⟩ := ha
  refine ⟨_, pe_tup pa, fun m F S σ H env d S' Q s en h p => ?_⟩
  obtain ⟨⟨xs, S1⟩, h1, h⟩ := bind_some h
  by_cases hl : xs.length ≤ 1000
  · rw [if_pos hl] at h
    cases h
    refine ra m F S σ H env xs S1 _ s en h1 fun m1 F1 vs H1 x1 s1 r1 => ⟨line_of (r1.length ▸ hl), fun q hq => ?_⟩
    obtain ⟨s2, x2⟩ := s1.frozen hq (.tup vs)
    exact p m1 _ (.ref q) _ (x1.trans x2) s2 ⟨q, vs, rfl, SqT.of upd_same, r1.mono x2⟩
  · rw [if_neg hl] at h
    cases h
theorem se_lst (ha : SA ct X es fas) : SE ct X (.List es pos) (fLst fas) := by
  obtain ⟨ta, pa, ra⟩ := ha
  refine ⟨_, pe_lst pa, fun m F S σ H env d S' Q s en h p => ?_⟩
  obtain ⟨⟨xs, S1⟩, h1, h⟩ := bind_some h
  by_cases hl : xs.length ≤ 1000
  · rw [if_pos hl] at h
    cases h
    refine ra m F S σ H env xs S1 _ s en h1 fun m1 F1 vs H1 x1 s1 r1 => ⟨line_of (r1.length ▸ hl), fun q hq => ?_⟩
    obtain ⟨s2, x2⟩ := s1.frozen hq (.lst vs)
    exact p m1 _ (.ref q) _ (x1.trans x2) s2 ⟨q, vs, rfl, upd_same, r1.mono x2⟩
  · rw [if_neg hl] at h
    cases h
theorem se_lstM (ha : SA ct X es fas) : SE ct X (.List es pos) (fLstM fas) := by
  obtain ⟨ta, pa, ra⟩ := ha
  refine ⟨_, pe_lst pa, fun m F S σ H env d S' Q s en h p => ?_⟩
  obtain ⟨⟨xs, S1⟩, h1, h⟩ := bind_some h
  by_cases hl : xs.length ≤ 1000
  · rw [if_pos hl] at h
    cases h
    refine ra m F S σ H env xs S1 _ s en h1 fun m1 F1 vs H1 x1 s1 r1 => ⟨line_of (r1.length ▸ hl), fun q hq => ?_⟩
    obtain ⟨s2, x2⟩ := s1.fresh hq (o := .lst vs) (c := .lst xs) ⟨vs, rfl, r1⟩
    exact p _ _ (.ref q) _ (x1.trans x2) s2 ⟨q, by rw [← s1.len]; simp, rfl⟩
  · rw [if_neg hl] at h
    cases h
def fCall (g : FD) (fas : FA) : FE := fun env S => (fas env S).bind fun p => g p.1 p.2
theorem se_callB {id : String} {x : Str} {p : Pos} {r : List V → Hp → VK → Prop} {g : FD} (hc : CallR X (.builtin id) r) (cd : CallD ct X.K r g) (hg : Gl X x) (hm : X.mg x = none) (hv : bootBuiltins x = some (.builtin id)) (ha : SA ct X (e :: es) fas)
    (hn : x ≠ "__name__" := by decide) (hdb : (x == ("__debug__" : Str)) = false := by decide) (he : starEach (e :: es) X.env = (false, eval e X.env) :: starEach es X.env := by rfl) (hpl : (backTo pos (starEach es X.env)).any (·.1) = false := by rfl) :
    SE ct X (.Call (.Name x p) (e :: es) [] pos) (fCall g fas) := by
  obtain ⟨ta, pa, ra⟩ := ha
  refine ⟨_, pe_callB hc hg hm hv pa hn hdb he hpl, fun m F S σ H env d S' Q s en h p => ?_⟩
  obtain ⟨⟨xs, S1⟩, h1, h⟩ := bind_some h
  exact ra m F S σ H env xs S1 _ s en h1 fun m1 F1 vs H1 x1 s1 r1 => cd m1 F1 S1 H1 vs xs d S' Q s1 r1 h (p.ext x1)
theorem se_callTy {T : String} {x : Str} {p : Pos} {r : List V → Hp → VK → Prop} {g : FD} (hc : CallR X (.type T) r) (cd : CallD ct X.K r g) (hg : Gl X x) (hm : X.mg x = none) (hv : bootBuiltins x = some (.type T)) (ha : SA ct X (e :: es) fas)
    (hn : x ≠ "__name__" := by decide) (hdb : (x == ("__debug__" : Str)) = false := by decide) (he : starEach (e :: es) X.env = (false, eval e X.env) :: starEach es X.env := by rfl) (hpl : (backTo pos (starEach es X.env)).any (·.1) = false := by rfl) :
    SE ct X (.Call (.Name x p) (e :: es) [] pos) (fCall g fas) := by
  obtain ⟨ta, pa, ra⟩ := ha
  refine ⟨_, pe_callTy hc hg hm hv pa hn hdb he hpl, fun m F S σ H env d S' Q s en h p => ?_⟩
  obtain ⟨⟨xs, S1⟩, h1, h⟩ := bind_some h
  exact ra m F S σ H env xs S1 _ s en h1 fun m1 F1 vs H1 x1 s1 r1 => cd m1 F1 S1 H1 vs xs d S' Q s1 r1 h (p.ext x1)
def fAnd (fa fb : FE) : FE := fun env S => (fa env S).bind fun p => match p.1 with
  | .bl true => fb env p.2
  | .bl false => some (.bl false, p.2)
  | _ => none
def fOr (fa fb : FE) : FE := fun env S => (fa env S).bind fun p => match p.1 with
  | .bl true => some (.bl true, p.2)
  | .bl false => fb env p.2
  | _ => none
def fNot (fa : FE) : FE := fun env S => (fa env S).bind fun p => match p.1 with
  | .bl b => some (.bl (!b), p.2)
  | _ => none
theorem se_one {op : BoolOp} (h : SE ct X a f) : SE ct X (.BoolOp op [a] pos) f := by
  obtain ⟨ta, pa, ra⟩ := h
  exact ⟨ta, pe_one pa, ra⟩
theorem se_and {rest : List Expr} (ha : SE ct X a fa) (hb : SE ct X (.BoolOp .And (b :: rest) pos) fb) : SE ct X (.BoolOp .And (a :: b :: rest) pos) (fAnd fa fb) := by
  obtain ⟨ta, pa, ra⟩ := ha
  obtain ⟨tb, pb, rb⟩ := hb
  refine ⟨_, pe_and pa pb, fun m F S σ H env d S' Q s en h p => ?_⟩
  obtain ⟨⟨x, S1⟩, h1, h⟩ := bind_some h
  refine ra m F S σ H env x S1 _ s en h1 fun m1 F1 v1 H1 x1 s1 r1 => ?_
  cases x with
  | bl k =>
    have r1 : v1 = .bl k := r1
    refine ⟨k, r1, ?_⟩
    cases k with
    | true => exact iteT (rb m1 F1 S1 σ H1 env d S' _ s1 (en.mono x1) h (p.ext x1))
    | false => cases h; exact iteF ((p.ext x1).now s1 rfl)
  | _ => cases h
theorem se_not (ha : SE ct X a fa) : SE ct X (.UnaryOp .Not a pos) (fNot fa) := by
  obtain ⟨ta, pa, ra⟩ := ha
  refine ⟨_, pe_not pa, fun m F S σ H env d S' Q s en h p => ?_⟩
  obtain ⟨⟨x, S1⟩, h1, h⟩ := bind_some h
  refine ra m F S σ H env x S1 _ s en h1 fun m1 F1 v1 H1 x1 s1 r1 => ?_
  cases x with
  | bl k =>
    have r1 : v1 = .bl k := r1
    cases h
    exact ⟨k, r1, (p.ext x1).now s1 rfl⟩
  | _ => cases h
def fTest (f : FE) : FT := fun env S => (f env S).bind fun p => match p.1 with
  | .bl b => some (b, p.2)
  | _ => none
def tAndD (ta tb : FT) : FT := fun env S => (ta env S).bind fun p => if p.1 = true then tb env p.2 else some (false, p.2)
def tOrD (ta tb : FT) : FT := fun env S => (ta env S).bind fun p => if p.1 = true then some (true, p.2) else tb env p.2
def tNotD (ta : FT) : FT := fun env S => (ta env S).bind fun p => some (!p.1, p.2)
def fIf (t : FT) (fa fb : FE) : FE := fun env S => (t env S).bind fun p => if p.1 = true then fa env p.2 else fb env p.2
variable {ga gb : FT}
theorem st_val (h : SE ct X e f) (he : ∀ whole, isTrue e X.env whole = (do let v ← whole; standAt e.pos; holding [v] (truthy v)) := by intro _; rfl) : ST ct X e (fTest f) := by
  obtain ⟨ta, pa, ra⟩ := h
  refine ⟨_, pt_val pa he, fun m F S σ H env d S' Q s en h p => ?_⟩
  obtain ⟨⟨x, S1⟩, h1, h⟩ := bind_some h
  refine ra m F S σ H env x S1 _ s en h1 fun m1 F1 v1 H1 x1 s1 r1 => ?_
  cases x with
  | bl k =>
    have r1 : v1 = .bl k := r1
    cases h
    exact ⟨_, r1, p m1 F1 H1 x1 s1⟩
  | _ => cases h
theorem st_cmp {op : CmpOp} {r : R2} {g : D → D → Sto → Option (D × Sto)} (ho : OpR X (compareOp op) r) (od : OpD ct X.K r g) (ha : SE ct X a fa) (hb : SE ct X b fb) (hm : behindInMarks op b = false) : ST ct X (.Compare a [op] [b] pos) (fTest (fBin g fa fb)) := by
  obtain ⟨ta, pa, ra⟩ := ha
  obtain ⟨tb, pb, rb⟩ := hb
  refine ⟨_, pt_cmpR ho pa pb hm, fun m F S σ H env d S' Q s en h p => ?_⟩
  obtain ⟨⟨x, S1⟩, h1, h⟩ := bind_some h
  refine two ra rb od s en h1 fun m1 F1 v1 H1 x1 s1 r1 => ?_
  cases x with
  | bl k =>
    have r1 : v1 = .bl k := r1
    cases h
    exact ⟨_, r1, p m1 F1 H1 x1 s1⟩
  | _ => cases h
theorem st_not (h : ST ct X a ga) : ST ct X (.UnaryOp .Not a pos) (tNotD ga) := by
  obtain ⟨ta, pa, ra⟩ := h
  refine ⟨_, pt_not pa, fun m F S σ H env d S' Q s en h p => ?_⟩
  obtain ⟨⟨x, S1⟩, h1, h⟩ := bind_some h
  cases h
  exact ra m F S σ H env x S1 _ s en h1 fun m1 F1 H1 x1 s1 => p m1 F1 H1 x1 s1
theorem SW.st (h : SW ct X e ga) : ST ct X e ga := by
  obtain ⟨t, p, r⟩ := h
  exact ⟨t, p.pt, r⟩
theorem sw_and1 (h : ST ct X a ga) : SW ct X (.BoolOp .And [a] pos) ga := by
  obtain ⟨t, p, r⟩ := h
  exact ⟨t, pw_and1 p, r⟩
theorem sw_or1 (h : ST ct X a ga) : SW ct X (.BoolOp .Or [a] pos) ga := by
  obtain ⟨t, p, r⟩ := h
  exact ⟨t, pw_or1 p, r⟩
theorem sw_and {rest : List Expr} (ha : ST ct X a ga) (hb : SW ct X (.BoolOp .And (b :: rest) pos) gb) : SW ct X (.BoolOp .And (a :: b :: rest) pos) (tAndD ga gb) := by
  obtain ⟨ta, pa, ra⟩ := ha
  obtain ⟨tb, pb, rb⟩ := hb
  refine ⟨_, pw_and pa pb, fun m F S σ H env d S' Q s en h p => ?_⟩
  obtain ⟨⟨x, S1⟩, h1, h⟩ := bind_some h
  refine ra m F S σ H env x S1 _ s en h1 fun m1 F1 H1 x1 s1 => ?_
  cases x with
  | true => exact iteT (rb m1 F1 S1 σ H1 env d S' _ s1 (en.mono x1) h (p.ext x1))
  | false => cases h; exact iteF (p m1 F1 H1 x1 s1)
theorem sw_or {rest : List Expr} (ha : ST ct X a ga) (hb : SW ct X (.BoolOp .Or (b :: rest) pos) gb) : SW ct X (.BoolOp .Or (a :: b :: rest) pos) (tOrD ga gb) := by
  obtain ⟨ta, pa, ra⟩ := ha
  obtain ⟨tb, pb, rb⟩ := hb
  refine ⟨_, pw_or pa pb, fun m F S σ H env d S' Q s en h p => ?_⟩
  obtain ⟨⟨x, S1⟩, h1, h⟩ := bind_some h
  refine ra m F S σ H env x S1 _ s en h1 fun m1 F1 H1 x1 s1 => ?_
  cases x with
  | false => exact iteF (rb m1 F1 S1 σ H1 env d S' _ s1 (en.mono x1) h (p.ext x1))
  | true => cases h; exact iteT (p m1 F1 H1 x1 s1)
theorem se_if (hc : ST ct X c ga) (ha : SE ct X a fa) (hb : SE ct X b fb) : SE ct X (.IfExp c a b pos) (fIf ga fa fb) := by
  obtain ⟨tc, pc, rc⟩ := hc
  obtain ⟨ta, pa, ra⟩ := ha
  obtain ⟨tb, pb, rb⟩ := hb
  refine ⟨_, pe_ifExp pc pa pb, fun m F S σ H env d S' Q s en h p => ?_⟩
  obtain ⟨⟨x, S1⟩, h1, h⟩ := bind_some h
  refine rc m F S σ H env x S1 _ s en h1 fun m1 F1 H1 x1 s1 => ?_
  cases x with
  | true => exact iteT (ra m1 F1 S1 σ H1 env d S' _ s1 (en.mono x1) h (p.ext x1))
  | false => exact iteF (rb m1 F1 S1 σ H1 env d S' _ s1 (en.mono x1) h (p.ext x1))
def fChain (g g' : D → D → Sto → Option (D × Sto)) (fa fb fc : FE) : FE := fun env S => (fa env S).bind fun p => (fb env p.2).bind fun q => (g p.1 q.1 q.2).bind fun z => match z.1 with
  | .bl true => (fc env z.2).bind fun w => g' q.1 w.1 w.2
  | .bl false => some (.bl false, z.2)
  | _ => none
theorem chain {m : List Addr} {F H : Hp} {S S' : Sto} {env : DEnv} {d : D} {σ : St} {Q : VK} {g g' : D → D → Sto → Option (D × Sto)} {r r' : R2} {ta tb tc : TE}
    (ra : ∀ m F S σ H env d S' Q, Sim X.K ct m F S H → EnvR X.K ct m F env σ → fa env S = some (d, S') → PostE ct X.K m F H S' d Q → ta σ H Q)
    (rb : ∀ m F S σ H env d S' Q, Sim X.K ct m F S H → EnvR X.K ct m F env σ → fb env S = some (d, S') → PostE ct X.K m F H S' d Q → tb σ H Q)
    (rc : ∀ m F S σ H env d S' Q, Sim X.K ct m F S H → EnvR X.K ct m F env σ → fc env S = some (d, S') → PostE ct X.K m F H S' d Q → tc σ H Q)
    (o : OpD ct X.K r g) (o' : OpD ct X.K r' g') (s : Sim X.K ct m F S H) (en : EnvR X.K ct m F env σ) (h : fChain g g' fa fb fc env S = some (d, S')) (p : PostE ct X.K m F H S' d Q) : tChain r r' ta tb tc σ H Q := by
  obtain ⟨⟨x, S1⟩, h1, h⟩ := bind_some h
  obtain ⟨⟨y, S2⟩, h2, h⟩ := bind_some h
  obtain ⟨⟨z, S3⟩, h3, h⟩ := bind_some h
  refine ra m F S σ H env x S1 _ s en h1 fun m1 F1 v1 H1 x1 s1 r1 => ?_
  refine rb m1 F1 S1 σ H1 env y S2 _ s1 (en.mono x1) h2 fun m2 F2 v2 H2 x2 s2 r2 => ?_
  refine o m2 F2 S2 H2 v1 v2 x y z S3 _ s2 (r1.mono x2) r2 h3 fun m3 F3 v3 H3 x3 s3 r3 => ?_
  cases z with
  | bl k =>
    have r3 : v3 = .bl k := r3
    refine ⟨k, r3, ?_⟩
    cases k with
    | true =>
      obtain ⟨⟨w, S4⟩, h4, h⟩ := bind_some h
      refine iteT (rc m3 F3 S3 σ H3 env w S4 _ s3 (((en.mono x1).mono x2).mono x3) h4 fun m4 F4 v4 H4 x4 s4 r4 => ?_)
      exact o' m4 F4 S4 H4 v2 v4 y w d S' Q s4 ((r2.mono x3).mono x4) r4 h ((((p.ext x1).ext x2).ext x3).ext x4)
    | false => cases h; exact iteF ((((p.ext x1).ext x2).ext x3).now s3 rfl)
  | _ => cases h
theorem se_chain {op op' : CmpOp} {r r' : R2} {g g' : D → D → Sto → Option (D × Sto)} (ho : OpR X (compareOp op) r) (od : OpD ct X.K r g) (ho' : OpR X (compareOp op') r') (od' : OpD ct X.K r' g') (ha : SE ct X a fa) (hb : SE ct X b fb) (hc : SE ct X c fc)
    (hm : lastMarks [op, op'] [b, c] = false := by with_unfolding_all rfl) : SE ct X (.Compare a [op, op'] [b, c] pos) (fChain g g' fa fb fc) := by
  obtain ⟨ta, pa, ra⟩ := ha
  obtain ⟨tb, pb, rb⟩ := hb
  obtain ⟨tc, pc, rc⟩ := hc
  exact ⟨_, pe_chain ho ho' pa pb pc hm, fun m F S σ H env d S' Q s en h p => chain ra rb rc od od' s en h p⟩
end
end DL
namespace DL
open PySem PySem.Spec PyProof.Rows L2
section
variable {ct : CT} {X : Cx} {a b c e : Expr} {es : List Expr} {fa fb fc f : FE} {fas : FA} {ga gb : FT} {pos : Pos} {st : Stmt} {rest : List Stmt} {f1 f2 : FS}
def sSkip : FS := fun env S => some (.nx env, S)
def sSeq (f1 f2 : FS) : FS := fun env S => (f1 env S).bind fun p => match p.1 with
  | .nx env' => f2 env' p.2
  | fl => some (fl, p.2)
theorem sss_nil : SSs ct X [] sSkip := ⟨_, pss_nil, fun m F S σ H env fl S' E s en h p => by
  cases h
  exact p m F σ H (Ext.refl _ _ _) s en⟩
theorem sss_cons (h1 : SS ct X st f1) (h2 : SSs ct X rest f2) : SSs ct X (st :: rest) (sSeq f1 f2) := by
  obtain ⟨ta, pa, ra⟩ := h1
  obtain ⟨tb, pb, rb⟩ := h2
  refine ⟨_, pss_cons pa pb, fun m F S σ H env fl S' E s en h p => ?_⟩
  obtain ⟨⟨x, S1⟩, h1, h⟩ := bind_some h
  refine ra m F S σ H env x S1 _ s en h1 ?_
  cases x with
  | nx env1 => exact fun m1 F1 σ1 H1 x1 s1 r1 => rb m1 F1 S1 σ1 H1 env1 fl S' E s1 r1 h (p.ext x1)
  | rt d => cases h; exact p
  | bk env1 => cases h; exact p
  | ct env1 => cases h; exact p
theorem sss_one (h1 : SS ct X st f1) : SSs ct X [st] f1 := by
  obtain ⟨ta, pa, ra⟩ := h1
  exact ⟨_, pss_one pa, ra⟩
def sBreak : FS := fun env S => some (.bk env, S)
def sCont : FS := fun env S => some (.ct env, S)
/-- what is never reached -/
def sNever : FS := fun _ _ => none
theorem ss_never : SS ct X st sNever := ⟨_, ps_never, fun m F S σ H env fl S' E s en h p => by cases h⟩
def sExpr (f : FE) : FS := fun env S => (f env S).bind fun p => some (.nx env, p.2)
def sRet (f : FE) : FS := fun env S => (f env S).bind fun p => some (.rt p.1, p.2)
def sIf (t : FT) (f1 f2 : FS) : FS := fun env S => (t env S).bind fun p => if p.1 = true then f1 env p.2 else f2 env p.2
theorem ss_expr (he : SE ct X e f) (hs : swapsWith e none pos.line X.env = pure false := by rfl) : SS ct X (.Expr e pos) (sExpr f) := by
  obtain ⟨ta, pa, ra⟩ := he
  refine ⟨_, ps_expr pa hs, fun m F S σ H env fl S' E s en h p => ?_⟩
  obtain ⟨⟨x, S1⟩, h1, h⟩ := bind_some h
  cases h
  exact ra m F S σ H env x S1 _ s en h1 fun m1 F1 v1 H1 x1 s1 r1 => p m1 F1 σ H1 x1 s1 (en.mono x1)
theorem ss_ret (he : SE ct X e f) : SS ct X (.Return (some e) pos) (sRet f) := by
  obtain ⟨ta, pa, ra⟩ := he
  refine ⟨_, ps_ret pa, fun m F S σ H env fl S' E s en h p => ?_⟩
  obtain ⟨⟨x, S1⟩, h1, h⟩ := bind_some h
  cases h
  exact ra m F S σ H env x S1 _ s en h1 fun m1 F1 v1 H1 x1 s1 r1 => p m1 F1 v1 H1 x1 s1 r1
theorem ss_if {as bs : List Stmt} (hc : ST ct X c ga) (ha : SSs ct X as f1) (hb : SSs ct X bs f2) : SS ct X (.If c as bs pos) (sIf ga f1 f2) := by
  obtain ⟨tc, pc, rc⟩ := hc
  obtain ⟨ta, pa, ra⟩ := ha
  obtain ⟨tb, pb, rb⟩ := hb
  refine ⟨_, ps_if pc pa pb, fun m F S σ H env fl S' E s en h p => ?_⟩
  obtain ⟨⟨x, S1⟩, h1, h⟩ := bind_some h
  refine rc m F S σ H env x S1 _ s en h1 fun m1 F1 H1 x1 s1 => ?_
  cases x with
  | true => exact iteT (ra m1 F1 S1 σ H1 env fl S' _ s1 (en.mono x1) h (p.ext x1))
  | false => exact iteF (rb m1 F1 S1 σ H1 env fl S' _ s1 (en.mono x1) h (p.ext x1))
abbrev FG := D → DEnv → Sto → Option (DEnv × Sto)
def SG (ct : CT) (X : Cx) (tg : Expr) (g : FG) : Prop := ∃ t, PG X tg t ∧ ∀ m F S σ H env d v env' S' Q, Sim X.K ct m F S H → EnvR X.K ct m F env σ → Rep X.K ct m F d v → g d env S = some (env', S') →
  (∀ m' F' σ' H', Ext m F H m' F' H' → Sim X.K ct m' F' S' H' → EnvR X.K ct m' F' env' σ' → Q σ' H') → t v σ H Q
abbrev FGs := List D → DEnv → Sto → Option (DEnv × Sto)
def SGs (ct : CT) (X : Cx) (tgs : List Expr) (g : FGs) : Prop := ∃ t, PGs X tgs t ∧ ∀ m F S σ H env ds vs env' S' Q, Sim X.K ct m F S H → EnvR X.K ct m F env σ → Reps X.K ct m F ds vs → g ds env S = some (env', S') →
  (∀ m' F' σ' H', Ext m F H m' F' H' → Sim X.K ct m' F' S' H' → EnvR X.K ct m' F' env' σ' → Q σ' H') → t vs σ H Q
def gN (i : Nat) : FG := fun d env S => some (env.set i (some d), S)
theorem sg_name {i : Nat} {x : Str} (hN : X.N.Nodup) (hi : X.N[i]? = some x) (hx : Loc X.env.scope x) (hf : X.fn x = true ∨ X.env.scope.names.lookup x = some .local := by first | exact .inl rfl | exact .inr rfl | assumption) : SG ct X (.Name x pos) (gN i) :=
  ⟨_, pg_name hN hi hx hf, fun m F S σ H env d v env' S' Q s en r h q => by
    cases h
    exact q m F _ H (Ext.refl _ _ _) s (en.set i r)⟩
def gNil : FGs := fun ds env S => match ds with
  | [] => some (env, S)
  | _ => none
def gCons (g : FG) (gs : FGs) : FGs := fun ds env S => match ds with
  | d :: r => (g d env S).bind fun p => gs r p.1 p.2
  | _ => none
theorem sgs_nil : SGs ct X [] gNil := ⟨_, pgs_nil, fun m F S σ H env ds vs env' S' Q s en r h q => by
  cases ds with
  | nil =>
    cases h
    exact ⟨r, q m F _ H (Ext.refl _ _ _) s en⟩
  | cons _ _ => cases h⟩
theorem sgs_cons {t : Expr} {ts : List Expr} {g : FG} {gs : FGs} (h1 : SG ct X t g) (h2 : SGs ct X ts gs) (hs : (assignEach (t :: ts) X.env).map (·.2) = assign t X.env :: (assignEach ts X.env).map (·.2) := by rfl) : SGs ct X (t :: ts) (gCons g gs) := by
  obtain ⟨ta, pa, ra⟩ := h1
  obtain ⟨tb, pb, rb⟩ := h2
  refine ⟨_, pgs_cons pa pb hs, fun m F S σ H env ds vs env' S' Q s en r h q => ?_⟩
  cases ds with
  | nil => cases h
  | cons d dr =>
    obtain ⟨⟨env1, S1⟩, h1, h⟩ := bind_some h
    obtain ⟨v, vr, e1, r1, r2⟩ := r
    refine ⟨v, vr, e1, ra m F S σ H env d v env1 S1 _ s en r1 h1 fun m1 F1 σ1 H1 x1 s1 en1 => ?_⟩
    exact rb m1 F1 S1 σ1 H1 env1 dr vr env' S' Q s1 en1 (r2.mono x1) h fun m2 F2 σ2 H2 x2 s2 en2 => q m2 F2 σ2 H2 (x1.trans x2) s2 en2
/-- (a, b, ..) = a tuple -/
def gTup (n : Nat) (gs : FGs) : FG := fun d env S => match d with
  | .tup ds => if ds.length = n then gs ds env S else none
  | _ => none
theorem sg_tup {ts : List Expr} {k n : Nat} {gs : FGs} (hc : X.calm = true) (h : SGs ct X ts gs) (hn : (assignEach ts X.env).length = n := by rfl) (hst : (assignEach ts X.env).findIdx? (·.1) = none := by rfl) : SG ct X (.Tuple ts k pos) (gTup n gs) := by
  obtain ⟨ta, pa, ra⟩ := h
  refine ⟨_, pg_tup hc pa hn hst, fun m F S σ H env d v env' S' Q s en r h q => ?_⟩
  cases d with
  | tup ds =>
    obtain ⟨a, vs, e1, e2, e3⟩ := r
    by_cases hl : ds.length = n
    · have h : (if ds.length = n then gs ds env S else none) = some (env', S') := h
      rw [if_pos hl] at h
      exact ⟨a, vs, e1, sqT_mono s.same e2, by rw [← e3.length]; exact hl, ra m F S σ H env ds vs env' S' Q s en e3 h q⟩
    · have h : (if ds.length = n then gs ds env S else none) = some (env', S') := h
      rw [if_neg hl] at h
      cases h
  | _ => cases h
/-- o[i] = .. by a rule -/
def SetD (ct : CT) (K : PySem.W.Frag) (t : TSet) (g : D → D → D → Sto → Option Sto) : Prop := ∀ m F S H o i v d1 d2 d3 S' Q, Sim K ct m F S H → Rep K ct m F d1 o → Rep K ct m F d2 i → Rep K ct m F d3 v → g d1 d2 d3 S = some S' →
  (∀ m' F' H', Ext m F H m' F' H' → Sim K ct m' F' S' H' → Q H') → t o i v H Q
def gSub (g : D → D → D → Sto → Option Sto) (fa fb : FE) : FG := fun d env S => (fa env S).bind fun p => (fb env p.2).bind fun q => (g p.1 q.1 d q.2).map fun S' => (env, S')
theorem sg_sub {t : TSet} {g : D → D → D → Sto → Option Sto} (ho : SE ct X a fa) (hi : SE ct X b fb) (hs : PSet X t) (sd : SetD ct X.K t g)
    (ha : ∀ v, assign (.Subscript a b pos) X.env v = (do
      let ov ← holding [v] (eval a X.env)
      let iv ← holding [v, ov] (eval b X.env)
      standAt pos
      holding [v, ov, iv] (setItem ov iv v)
      release [v, ov, iv] []) := by intro _; rfl) : SG ct X (.Subscript a b pos) (gSub g fa fb) := by
  obtain ⟨ta, pa, ra⟩ := ho
  obtain ⟨tb, pb, rb⟩ := hi
  refine ⟨_, pg_sub pa pb hs ha, fun m F S σ H env d v env' S' Q s en r h q => ?_⟩
  obtain ⟨⟨x, S1⟩, h1, h⟩ := bind_some h
  obtain ⟨⟨y, S2⟩, h2, h⟩ := bind_some h
  cases h3 : g x y d S2 with
  | none => simp only [h3] at h; cases h
  | some S3 =>
    simp only [h3] at h
    cases h
    refine ra m F S σ H env x S1 _ s en h1 fun m1 F1 v1 H1 x1 s1 r1 => ?_
    refine rb m1 F1 S1 σ H1 env y S2 _ s1 (en.mono x1) h2 fun m2 F2 v2 H2 x2 s2 r2 => ?_
    exact sd m2 F2 S2 H2 v1 v2 v x y d _ _ s2 (r1.mono x2) r2 ((r.mono x1).mono x2) h3 fun m3 F3 H3 x3 s3 => q m3 F3 σ H3 ((x1.trans x2).trans x3) s3 (((en.mono x1).mono x2).mono x3)
def sAsg (f : FE) (g : FG) : FS := fun env S => (f env S).bind fun p => (g p.1 env p.2).map fun q => (.nx q.1, q.2)
theorem ss_asg {tg : Expr} {g : FG} (he : SE ct X e f) (hg : SG ct X tg g) (hs : swapsWithSole [tg] e pos.line X.env = pure false := by rfl) (hw : swappedStores [tg] e X.env = pure none := by rfl)
    (h1 : (assignEach [tg] X.env).map (·.2) = [assign tg X.env] := by rfl) : SS ct X (.Assign [tg] e pos) (sAsg f g) := by
  obtain ⟨ta, pa, ra⟩ := he
  obtain ⟨tb, pb, rb⟩ := hg
  refine ⟨_, ps_asg pa pb hs hw h1, fun m F S σ H env fl S' E s en h p => ?_⟩
  obtain ⟨⟨x, S1⟩, h1, h⟩ := bind_some h
  cases h3 : g x env S1 with
  | none => simp only [h3] at h; cases h
  | some q3 =>
    obtain ⟨env3, S3⟩ := q3
    simp only [h3] at h
    cases h
    refine ra m F S σ H env x S1 _ s en h1 fun m1 F1 v1 H1 x1 s1 r1 => ?_
    exact rb m1 F1 S1 σ H1 env x v1 env3 _ _ s1 (en.mono x1) r1 h3 fun m2 F2 σ2 H2 x2 s2 en2 => p m2 F2 σ2 H2 (x1.trans x2) s2 en2
theorem ss_set {i : Nat} {x : Str} {pos' : Pos} (hN : X.N.Nodup) (hi : X.N[i]? = some x) (hx : Loc X.env.scope x) (he : SE ct X e f) (hs : swapsWith e (some (.Name x pos')) pos.line X.env = pure false := by rfl) (hf : X.fn x = true ∨ X.env.scope.names.lookup x = some .local := by first | exact .inl rfl | exact .inr rfl | assumption) :
    SS ct X (.Assign [.Name x pos'] e pos) (sAsg f (gN i)) := by
  obtain ⟨ta, pa, ra⟩ := he
  refine ⟨_, ps_set hN hi hx pa hs hf, fun m F S σ H env fl S' E s en h p => ?_⟩
  obtain ⟨⟨x, S1⟩, h1, h⟩ := bind_some h
  cases h
  exact ra m F S σ H env x S1 _ s en h1 fun m1 F1 v1 H1 x1 s1 r1 => p m1 F1 _ H1 x1 s1 ((en.mono x1).set i r1)
/-- a, b = x, y -/
def sPar (i j : Nat) (fas : FA) : FS := fun env S => (fas env S).bind fun p => match p.1 with
  | [v, w] => some (.nx ((env.set i (some v)).set j (some w)), p.2)
  | _ => none
theorem ss_par {i j : Nat} (hp : ∀ ta, PA X [a, b] ta → PS X st (tPar i j ta)) (ha : SA ct X [a, b] fas) : SS ct X st (sPar i j fas) := by
  obtain ⟨ta, pa, ra⟩ := ha
  refine ⟨_, hp ta pa, fun m F S σ H env fl S' E s en h p => ?_⟩
  obtain ⟨⟨xs, S1⟩, h1, h⟩ := bind_some h
  match xs, h with
  | [v, w], h =>
    cases h
    refine ra m F S σ H env _ S1 _ s en h1 fun m1 F1 vs H1 x1 s1 r1 => ?_
    obtain ⟨v1, r1', e1, q1, v2, r2', e2, q2, e3⟩ := r1
    have e3 : r2' = [] := e3
    subst e3 e2 e1
    exact ⟨v1, v2, rfl, p m1 F1 _ H1 x1 s1 (((en.mono x1).set i q1).set j q2)⟩
  | [], h => cases h
  | [_], h => cases h
  | _ :: _ :: _ :: _, h => cases h
structure Ext0 (m : List Addr) (F : Hp) (m' : List Addr) (F' : Hp) : Prop where
  pre : ∀ (i : Nat) (a : Addr), m[i]? = some a → m'[i]? = some a
  same : Same F F'
theorem Ext.e0 {m m' : List Addr} {F H F' H' : Hp} (x : Ext m F H m' F' H') : Ext0 m F m' F' := ⟨x.pre, x.same⟩
theorem Ext0.trans {m m1 m2 : List Addr} {F F1 F2 : Hp} (a : Ext0 m F m1 F1) (b : Ext0 m1 F1 m2 F2) : Ext0 m F m2 F2 := ⟨fun i x h => b.pre i x (a.pre i x h), a.same.trans b.same⟩
theorem Rep.mono0 {K : PySem.W.Frag} {ct : CT} {m m' : List Addr} {F F' : Hp} {d : D} {v : V} (h : Rep K ct m F d v) (x : Ext0 m F m' F') : Rep K ct m' F' d v := Rep.mono' x.pre x.same d v h
theorem Reps.mono0 {K : PySem.W.Frag} {ct : CT} {m m' : List Addr} {F F' : Hp} {d : List D} {v : List V} (h : Reps K ct m F d v) (x : Ext0 m F m' F') : Reps K ct m' F' d v := Reps.mono' x.pre x.same d v h
def ItOk (ct : CT) (K : PySem.W.Frag) (m0 : List Addr) (F0 : Hp) (items : List D) (J : It) : Prop := ∀ (i : Nat) (m : List Addr) (F : Hp) (S : Sto) (H : Hp), Ext0 m0 F0 m F → Sim K ct m F S H →
  (∀ d, items[i]? = some d → J.go i H ∧ ∀ x H', J.yld i H x H' → ∃ F', Ext m F H m F' H' ∧ Sim K ct m F' S H' ∧ Rep K ct m F' d x) ∧ (items.length = i → J.stop i H)
def SI (ct : CT) (X : Cx) (tg iter : Expr) (fi : FA) : Prop := ∃ wi, PI X tg iter wi ∧ ∀ m F S σ H env items S' R, Sim X.K ct m F S H → EnvR X.K ct m F env σ → fi env S = some (items, S') →
  (∀ m' F' J H', Ext m F H m' F' H' → Sim X.K ct m' F' S' H' → ItOk ct X.K m' F' items J → R J H') → wi σ H R
def forD (g : FG) (body : FS) : List D → FS
  | [], env, S => some (.nx env, S)
  | x :: xs, env, S => (g x env S).bind fun p => (body p.1 p.2).bind fun q => match q.1 with
    | .nx env' => forD g body xs env' q.2
    | .ct env' => forD g body xs env' q.2
    | .bk env' => some (.nx env', q.2)
    | .rt d => some (.rt d, q.2)
def sFor (fi : FA) (g : FG) (body : FS) : FS := fun env S => (fi env S).bind fun p => forD g body p.1 env p.2
theorem drop_cons {α : Type} : ∀ {l : List α} {i : Nat} {x : α} {r : List α}, l.drop i = x :: r → l[i]? = some x ∧ l.drop (i + 1) = r
  | [], i, x, r, h => by simp at h
  | y :: l, 0, x, r, h => by
    simp at h
    simp [h]
  | y :: l, i + 1, x, r, h => by
    have := drop_cons (l := l) (i := i) (by simpa using h)
    simpa using this
theorem ss_for {tg iter : Expr} {body : List Stmt} {fi : FA} {g : FG} {fb : FS} (hp : PassesOwn (model X.prog X.w) X.A X.env X.xe) (hc : X.calm = true) (hi : SI ct X tg iter fi) (hg : SG ct X tg g) (hb : SSs ct X body fb)
    (hs : ∀ x, foldedSetIterable iter X.env x = pure x := by intro _; rfl) : SS ct X (.For tg iter body [] pos) (sFor fi g fb) := by
  obtain ⟨wi, pi, ri⟩ := hi
  obtain ⟨tg', pg, rg⟩ := hg
  obtain ⟨tb, pb, rb⟩ := hb
  refine ⟨_, ps_for hp hc pi pg pb hs, fun m F S σ H env fl S' E s en h p => ?_⟩
  obtain ⟨⟨items, S1⟩, h1, h⟩ := bind_some h
  refine ri m F S σ H env items S1 _ s en h1 fun m1 F1 J H1 x1 s1 ok => ?_
  refine ⟨fun i k σ' H' => k = items.length - i ∧ i ≤ items.length ∧ ∃ m' F' env' S2, Ext m1 F1 H1 m' F' H' ∧ Sim X.K ct m' F' S2 H' ∧ EnvR X.K ct m' F' env' σ' ∧ forD g fb (items.drop i) env' S2 = some (fl, S'),
    ⟨_, rfl, Nat.zero_le _, m1, F1, env, S1, Ext.refl _ _ _, s1, en.mono x1, h⟩, ?_⟩
  rintro i k σ' H' ⟨rfl, hle, m', F', env', S2, x', s', en', hf⟩
  have okk := ok i m' F' S2 H' x'.e0 s'
  cases hd : items.drop i with
  | nil =>
    rw [hd] at hf
    cases hf
    have hl : items.length = i := by
      have := congrArg List.length hd
      simp at this
      omega
    exact .inl ⟨okk.2 hl, p m' F' σ' H' (x1.trans x') s' en'⟩
  | cons d r =>
    rw [hd] at hf
    obtain ⟨q1, q2⟩ := drop_cons hd
    have hlt : i < items.length := (List.getElem?_eq_some_iff.mp q1).1
    obtain ⟨⟨env1, S3⟩, h3, hf⟩ := bind_some hf
    obtain ⟨⟨fl4, S4⟩, h4, hf⟩ := bind_some hf
    obtain ⟨go, yl⟩ := okk.1 d q1
    refine .inr ⟨go, fun σ5 H5 => ∃ m5 F5 env5 S5, Ext m1 F1 H1 m5 F5 H5 ∧ Sim X.K ct m5 F5 S5 H5 ∧ EnvR X.K ct m5 F5 env5 σ5 ∧ forD g fb (items.drop (i + 1)) env5 S5 = some (fl, S'), fun σ5 H5 w => ⟨items.length - (i + 1), by omega, rfl, hlt, w⟩, fun x H5 y => ?_⟩
    obtain ⟨F5, x5, s5, r5⟩ := yl x H5 y
    refine rg m' F5 S2 σ' H5 env' d x env1 S3 _ s5 (en'.mono x5) r5 h3 fun m6 F6 σ6 H6 x6 s6 en6 => ?_
    refine rb m6 F6 S3 σ6 H6 env1 fl4 S4 _ s6 en6 h4 ?_
    have xx : Ext m1 F1 H1 m6 F6 H6 := (x'.trans x5).trans x6
    cases fl4 with
    | nx env7 => exact fun m7 F7 σ7 H7 x7 s7 en7 => ⟨m7, F7, env7, S4, xx.trans x7, s7, en7, by rw [q2]; exact hf⟩
    | ct env7 => exact fun m7 F7 σ7 H7 x7 s7 en7 => ⟨m7, F7, env7, S4, xx.trans x7, s7, en7, by rw [q2]; exact hf⟩
    | bk env7 => cases hf; exact fun m7 F7 σ7 H7 x7 s7 en7 => p m7 F7 σ7 H7 (x1.trans (xx.trans x7)) s7 en7
    | rt d7 => cases hf; exact fun m7 F7 v7 H7 x7 s7 r7 => p m7 F7 v7 H7 (x1.trans (xx.trans x7)) s7 r7
def runD (n : Nat) (g : FS) : FD := fun ds S => (g (ds.map some ++ List.replicate (n - ds.length) none) S).bind fun p => match p.1 with
  | .rt d => some (d, p.2)
  | .nx _ => some (.non, p.2)
  | _ => none
def spD (K : PySem.W.Frag) (ct : CT) (n : Nat) (g : FD) : Sp := fun vs H Q _ => vs.length = n ∧ ∃ m F S ds d S', Sim K ct m F S H ∧ Reps K ct m F ds vs ∧ g ds S = some (d, S') ∧ PostE ct K m F H S' d Q
end
section
variable {P : Program} {w : World} {K : PySem.W.Frag} {mg : Str → Option Value} {base : Heap} {ct : CT}
theorem def_ok {x qual : Str} {st : Stmt} {f : Addr} {fd : FuncData} {N ps : List Str} {k : Nat} {g : FS} (F : Fun K x qual st f fd) (S : FnScope N ps (defScope st))
    (hbody : ∀ (cdv : Value) (A : Around) (outer : List Env) (s : Shared) (H : Hp) (E : XK), RoomG k (A.deeper (envOfC qual (defScope st) s.heap.objs.size f cdv)) →
      SSs ct (cxOf CX0 P w K mg base N qual (defScope st) f cdv A outer s H E).nox (defBody st) g) : FnG P w K mg base (k + 1) f fd ps (spD K ct ps.length (runD N.length g)) := by
  refine funG F S (fun vs H Q E h => h.1) (fun cdv A outer s H vs Q E hr h => ?_)
  obtain ⟨hl, m, F', S0, ds, d, S', sim, reps, hg, post⟩ := h
  obtain ⟨t, pt, rt⟩ := hbody cdv A outer s H E hr
  refine ⟨t, pt, ?_⟩
  obtain ⟨⟨fl, S1⟩, h1, h2⟩ := bind_some hg
  refine rt m F' S0 _ H _ fl S1 _ sim ?_ h1 ?_
  · have hl2 := reps.length
    refine ⟨by simp [L2.start, hl2], fun i e he => ?_⟩
    by_cases hi : i < ds.length
    · rw [List.getElem?_append_left (by simpa using hi)] at he
      simp at he
      obtain ⟨v, q1, q2⟩ := reps.get (i := i) (d := e) (by simpa using he)
      refine ⟨v, ?_, q2⟩
      unfold L2.start
      rw [List.getElem?_append_left (by simpa [← hl2] using hi)]
      simp [q1]
    · rw [List.getElem?_append_right (by simpa using hi)] at he
      have := List.mem_of_getElem? he
      simp at this
  · cases fl with
    | rt d1 => cases h2; exact fun m' F1 v H' x1 s1 r1 => post m' F1 v H' x1 s1 r1
    | nx env1 => cases h2; exact fun m' F1 σ1 H' x1 s1 r1 => post m' F1 .non H' x1 s1 rfl
    | bk env1 => cases h2
    | ct env1 => cases h2
end
section
variable {ct : CT} {X : Cx} {e : Expr} {es : List Expr} {fas : FA} {x : Str} {p pos : Pos}
theorem se_call {k n : Nat} {f : Addr} {fd : FuncData} {ps : List Str} {g : FD} (F : FnG X.prog X.w X.K X.mg X.base k f fd ps (spD X.K ct n g)) (hr : RoomG k X.A) (hg : Gl X x) (hm : X.mg x = some (.ref f)) (hk : PySem.W.keepIn X.K (.ref f) = true) (hb : Binds X.K fd ps [])
    (ha : SA ct X (e :: es) fas) (hn : ∀ env S ds S', fas env S = some (ds, S') → ds.length = n) (hdb : (x == ("__debug__" : Str)) = false := by decide) (he : starEach (e :: es) X.env = (false, eval e X.env) :: starEach es X.env := by rfl) (hpl : (backTo pos (starEach es X.env)).any (·.1) = false := by rfl) :
    SE ct X (.Call (.Name x p) (e :: es) [] pos) (fCall g fas) := by
  obtain ⟨ta, pa, ra⟩ := ha
  refine ⟨_, pe_callG (E := fun _ _ _ => False) F hr hg hm hk hb .nil pa hdb he hpl, fun m F S σ H env d S' Q s en h p => ?_⟩
  obtain ⟨⟨xs, S1⟩, h1, h⟩ := bind_some h
  refine ra m F S σ H env xs S1 _ s en h1 fun m1 F1 vs H1 x1 s1 r1 => ?_
  rw [List.append_nil]
  exact ⟨by rw [← r1.length]; exact hn _ _ _ _ h1, m1, F1, S1, xs, d, S', s1, r1, h, p.ext x1⟩
theorem fNil_len {env : DEnv} {S S' : Sto} {ds : List D} (h : fNil env S = some (ds, S')) : ds.length = 0 := by cases h; rfl
theorem fCons_len {f : FE} {fs : FA} {n : Nat} (hn : ∀ env S ds S', fs env S = some (ds, S') → ds.length = n) : ∀ env S ds S', fCons f fs env S = some (ds, S') → ds.length = n + 1 := fun env S ds S' h => by
  obtain ⟨⟨x, S1⟩, h1, h⟩ := bind_some h
  obtain ⟨⟨y, S2⟩, h2, h⟩ := bind_some h
  cases h
  simp [hn _ _ _ _ h2]
end
end DL
namespace DL
open PySem PySem.Spec PyProof.Rows L2
theorem line_eq : sizeLine = 16777216 := sizeLine_eq
section
variable {ct : CT} {K : PySem.W.Frag}
/-- an operator of two ints -/
def gI (C : Int → Int → Bool) (k : Int → Int → D) : D → D → Sto → Option (D × Sto)
  | .int i, .int j, S => if C i j = true then some (k i j, S) else none
  | _, _, _ => none
theorem od_I {C : Int → Int → Bool} {C' : Int → Int → Prop} {k : Int → Int → D} {g : Int → Int → V} (hC : ∀ i j, C i j = true → C' i j) (hk : ∀ m F i j, Rep K ct m F (k i j) (g i j)) : OpD ct K (rI C' g) (gI C k) := by
  intro m F S H x y dx dy d S' Q s rx ry h p
  unfold gI at h
  split at h
  · rename_i i j
    split at h
    · rename_i hc
      cases h
      have rx : x = .int i := rx
      have ry : y = .int j := ry
      exact ⟨i, j, rx, ry, hC _ _ hc, p.now s (hk m F i j)⟩
    · cases h
  · cases h
def gI0 (k : Int → Int → D) : D → D → Sto → Option (D × Sto)
  | .int i, .int j, S => some (k i j, S)
  | _, _, _ => none
theorem od_I0 {k : Int → Int → D} {g : Int → Int → V} (hk : ∀ m F i j, Rep K ct m F (k i j) (g i j)) : OpD ct K (rI0 g) (gI0 k) := by
  intro m F S H x y dx dy d S' Q s rx ry h p
  unfold gI0 at h
  split at h
  · rename_i i j
    cases h
    have rx : x = .int i := rx
    have ry : y = .int j := ry
    exact ⟨i, j, rx, ry, p.now s (hk m F i j)⟩
  · cases h
abbrev gSubI := gI0 fun i j => .int (i - j)
theorem od_sub : OpD ct K (rI0 fun i j => .int (i - j)) gSubI := od_I0 fun _ _ _ _ => rfl
def smallI (i : Int) : Bool := decide (i.natAbs.log2 < 400000)
abbrev gMul := gI (fun i j => smallI i && smallI j) fun i j => .int (i * j)
theorem od_mul : OpD ct K (rI CMulW fun i j => .int (i * j)) gMul := od_I (fun i j h => by
  simp only [smallI, Bool.and_eq_true, decide_eq_true_eq] at h
  show i.natAbs.log2 + j.natAbs.log2 < 1000000
  omega) fun _ _ _ _ => rfl
abbrev gFdiv := gI (fun _ j => decide (0 < j) && decide (j.natAbs.log2 < 9000)) fun i j => .int (i / j)
theorem od_fdiv : OpD ct K (rI CDivW fun i j => .int (i / j)) gFdiv := od_I (fun i j h => by
  simp only [Bool.and_eq_true, decide_eq_true_eq] at h
  exact h) fun _ _ _ _ => rfl
abbrev gMod := gI (fun _ j => decide (0 < j)) fun i j => .int (i % j)
theorem od_mod : OpD ct K (rI (fun _ j => 0 < j) fun i j => .int (i % j)) gMod := od_I (fun i j h => of_decide_eq_true h) fun _ _ _ _ => rfl
abbrev gPow := gI (fun i j => decide (0 ≤ j) && decide (j ≤ 1000000) && decide (i.natAbs < 18446744073709551616)) fun i j => .int (i ^ j.toNat)
theorem od_pow : OpD ct K (rI CPow fun i j => .int (i ^ j.toNat)) gPow := od_I (fun i j h => by
  simp only [Bool.and_eq_true, decide_eq_true_eq] at h
  exact ⟨h.1.1, h.1.2, h.2⟩) fun _ _ _ _ => rfl
abbrev gLt := gI0 fun i j => .bl (decide (i < j))
abbrev gGt := gI0 fun i j => .bl (decide (j < i))
abbrev gGe := gI0 fun i j => .bl (decide (j ≤ i))
theorem od_gt : OpD ct K (rI0 fun i j => .bl (decide (j < i))) gGt := od_I0 fun _ _ _ _ => rfl
theorem od_ge : OpD ct K (rI0 fun i j => .bl (decide (j ≤ i))) gGe := od_I0 fun _ _ _ _ => rfl
def gAdd : D → D → Sto → Option (D × Sto)
  | .int i, .int j, S => some (.int (i + j), S)
  | .str x, .str y, S => if x.length + y.length ≤ 16777216 then some (.str (x ++ y), S) else none
  | .lst a, .lst b, S => if a.length + b.length ≤ 16777216 then some (.lst (a ++ b), S) else none
  | _, _, _ => none
def rAddAll : R2 := fun x y H Q => rI0 (fun i j => .int (i + j)) x y H Q ∨ ((∃ i j, x = .str i ∧ y = .str j ∧ i.length + j.length ≤ sizeLine ∧ Q (.str (i ++ j)) H) ∨ rCat x y H Q)
theorem op_addAll {X : Cx} : OpR X (binaryOp .Add) rAddAll := op_add.or (op_add_str.or op_cat)
mutual
def toP : D → Option PyData
  | .non => some .none
  | .bl b => some (.bool b)
  | .int i => some (.int i)
  | .str x => some (.str x)
  | .tup ds => (toPs ds).map .tuple
  | .lst ds => (toPs ds).map .list
  | .scr ns => some (.list (ns.map .int))
  | _ => none
def toPs : List D → Option (List PyData)
  | [] => some []
  | d :: ds => (toP d).bind fun p => (toPs ds).map fun ps => p :: ps
end
theorem map_some {α β : Type} {o : Option α} {k : α → β} {r : β} (h : o.map k = some r) : ∃ x, o = some x ∧ k x = r := by
  cases o with
  | none => cases h
  | some x => exact ⟨x, rfl, Option.some.inj h⟩
theorem DpAll_ints {H : Hp} (ns : List Int) : DpAll K H (ns.map V.int) (ns.map PyData.int) := by
  induction ns with
  | nil => exact .nil
  | cons n ns ih => exact .cons (.int n) ih
mutual
theorem Rep.dp {m : List Addr} {F H : Hp} (e : Same F H) : ∀ (d : D) (v : V) (p : PyData), Rep K ct m F d v → toP d = some p → Dp K H v p
  | .non, _, _, h, q => by
    have h : _ = _ := h
    subst h
    cases q
    exact .non
  | .bl b, _, _, h, q => by
    have h : _ = _ := h
    subst h
    cases q
    exact .bl b
  | .int b, _, _, h, q => by
    have h : _ = _ := h
    subst h
    cases q
    exact .int b
  | .str b, _, _, h, q => by
    have h : _ = _ := h
    subst h
    cases q
    exact .str b
  | .tup ds, _, _, h, q => by
    obtain ⟨a, vs, e1, e2, e3⟩ := h
    subst e1
    obtain ⟨ps, q1, q2⟩ := map_some (show (toPs ds).map PyData.tuple = _ from q)
    subst q2
    exact .tup (sqT_mono e e2) (Reps.dp e ds vs ps e3 q1)
  | .lst ds, _, _, h, q => by
    obtain ⟨a, vs, e1, e2, e3⟩ := h
    subst e1
    obtain ⟨ps, q1, q2⟩ := map_some (show (toPs ds).map PyData.list = _ from q)
    subst q2
    exact .lst (SqL.of (e _ _ e2)) (Reps.dp e ds vs ps e3 q1)
  | .scr ns, _, _, h, q => by
    obtain ⟨a, e1, e2⟩ := h
    subst e1
    cases q
    exact .lst (e.seq e2) (DpAll_ints ns)
  | .dct _ _, _, _, _, q => by cases q
  | .ref _, _, _, _, q => by cases q
  | .obj _ _ _, _, _, _, q => by cases q
  | .exc _ _ _, _, _, _, q => by cases q
  | .typ _, _, _, _, q => by cases q
theorem Reps.dp {m : List Addr} {F H : Hp} (e : Same F H) : ∀ (ds : List D) (vs : List V) (ps : List PyData), Reps K ct m F ds vs → toPs ds = some ps → DpAll K H vs ps
  | [], _, _, h, q => by
    have h : _ = _ := h
    subst h
    cases q
    exact .nil
  | d :: ds, _, _, h, q => by
    obtain ⟨v, r, e1, e2, e3⟩ := h
    subst e1
    obtain ⟨p, q1, q⟩ := bind_some (show (toP d).bind _ = _ from q)
    obtain ⟨ps, q2, q3⟩ := map_some q
    subst q3
    exact .cons (Rep.dp e d v p e2 q1) (Reps.dp e ds r ps e3 q2)
end
def eqDeep (neg : Bool) (dx dy : D) : Option D := (toP dx).bind fun p => (toP dy).bind fun q => if SeqAt.shaped p = true ∧ SeqAt.shaped q = true then some (.bl (if neg then !PyData.eqv p q else PyData.eqv p q)) else none
def gEq : D → D → Sto → Option (D × Sto)
  | .int i, .int j, S => some (.bl (decide (i = j)), S)
  | .str i, .str j, S => some (.bl (decide (i = j)), S)
  | .bl i, .bl j, S => some (.bl (decide (i = j)), S)
  | dx, dy, S => (eqDeep false dx dy).map fun d => (d, S)
def gNe : D → D → Sto → Option (D × Sto)
  | .int i, .int j, S => some (.bl (!decide (i = j)), S)
  | .str i, .str j, S => some (.bl (!decide (i = j)), S)
  | .bl i, .bl j, S => some (.bl (!decide (i = j)), S)
  | dx, dy, S => (eqDeep true dx dy).map fun d => (d, S)
def rEqAll (K : PySem.W.Frag) : R2 := fun x y H Q => rEq x y H Q ∨ rEqD K x y H Q
def rNeAll (K : PySem.W.Frag) : R2 := fun x y H Q => rNe x y H Q ∨ rNeD K x y H Q
theorem op_eqAll {X : Cx} {k : Nat} (hr : RoomG k X.A) : OpR X (compareOp .Eq) (rEqAll X.K) := op_eq.or (op_eqD hr.units)
theorem op_neAll {X : Cx} {k : Nat} (hr : RoomG k X.A) : OpR X (compareOp .NotEq) (rNeAll X.K) := op_ne.or (op_neD hr.units)
theorem dec_eq {α : Type} [DecidableEq α] {f : α → V} (hf : ∀ a b, f a = f b → a = b) (i j : α) : decide (f i = f j) = decide (i = j) := by
  by_cases h : i = j
  · subst h; simp
  · rw [decide_eq_false h, decide_eq_false fun q => h (hf _ _ q)]
theorem od_eq : OpD ct K (rEqAll K) gEq := by
  intro m F S H x y dx dy d S' Q s rx ry h p
  unfold gEq at h
  split at h
  · rename_i i j
    cases h
    have rx : x = .int i := rx
    have ry : y = .int j := ry
    subst rx ry
    exact .inl ⟨rfl, by rw [dec_eq (fun _ _ q => V.int.inj q)]; exact p.now s rfl⟩
  · rename_i i j
    cases h
    have rx : x = .str i := rx
    have ry : y = .str j := ry
    subst rx ry
    exact .inl ⟨rfl, by rw [dec_eq (fun _ _ q => V.str.inj q)]; exact p.now s rfl⟩
  · rename_i i j
    cases h
    have rx : x = .bl i := rx
    have ry : y = .bl j := ry
    subst rx ry
    exact .inl ⟨rfl, by rw [dec_eq (fun _ _ q => V.bl.inj q)]; exact p.now s rfl⟩
  · obtain ⟨z, h1, h2⟩ := map_some h
    cases h2
    obtain ⟨u, g1, h⟩ := bind_some h1
    obtain ⟨w, g2, h⟩ := bind_some h
    split at h
    · rename_i hs
      cases h
      exact .inr ⟨u, w, Rep.dp s.same dx x u rx g1, Rep.dp s.same dy y w ry g2, hs.1, hs.2, p.now s rfl⟩
    · cases h
theorem od_ne : OpD ct K (rNeAll K) gNe := by
  intro m F S H x y dx dy d S' Q s rx ry h p
  unfold gNe at h
  split at h
  · rename_i i j
    cases h
    have rx : x = .int i := rx
    have ry : y = .int j := ry
    subst rx ry
    exact .inl ⟨rfl, by rw [dec_eq (fun _ _ q => V.int.inj q)]; exact p.now s rfl⟩
  · rename_i i j
    cases h
    have rx : x = .str i := rx
    have ry : y = .str j := ry
    subst rx ry
    exact .inl ⟨rfl, by rw [dec_eq (fun _ _ q => V.str.inj q)]; exact p.now s rfl⟩
  · rename_i i j
    cases h
    have rx : x = .bl i := rx
    have ry : y = .bl j := ry
    subst rx ry
    exact .inl ⟨rfl, by rw [dec_eq (fun _ _ q => V.bl.inj q)]; exact p.now s rfl⟩
  · obtain ⟨z, h1, h2⟩ := map_some h
    cases h2
    obtain ⟨u, g1, h⟩ := bind_some h1
    obtain ⟨w, g2, h⟩ := bind_some h
    split at h
    · rename_i hs
      cases h
      exact .inr ⟨u, w, Rep.dp s.same dx x u rx g1, Rep.dp s.same dy y w ry g2, hs.1, hs.2, p.now s rfl⟩
    · cases h
def isNonD : D → Bool
  | .non => true
  | _ => false
theorem Rep.isNon {m : List Addr} {F : Hp} {d : D} {v : V} (r : Rep K ct m F d v) : decide (v = .non) = isNonD d := by
  cases d with
  | non => have r : v = .non := r; subst r; rfl
  | bl b => have r : v = _ := r; subst r; rfl
  | int b => have r : v = _ := r; subst r; rfl
  | str b => have r : v = _ := r; subst r; rfl
  | tup ds => obtain ⟨a, vs, e1, _⟩ := r; subst e1; rfl
  | lst ds => obtain ⟨a, vs, e1, _⟩ := r; subst e1; rfl
  | dct ks ds => obtain ⟨a, vs, e1, _⟩ := r; subst e1; rfl
  | scr ds => obtain ⟨a, e1, _⟩ := r; subst e1; rfl
  | ref i => obtain ⟨a, _, e1⟩ := r; subst e1; rfl
  | obj c fs ds => obtain ⟨a, C, dx, vs, e1, _⟩ := r; subst e1; rfl
  | exc c fs ds => obtain ⟨a, C, dx, vs, e1, _⟩ := r; subst e1; rfl
  | typ c => obtain ⟨C, _, e1⟩ := r; subst e1; rfl
def gIsN : D → D → Sto → Option (D × Sto)
  | x, .non, S => some (.bl (isNonD x), S)
  | _, _, _ => none
def gNotN : D → D → Sto → Option (D × Sto)
  | x, .non, S => some (.bl (!isNonD x), S)
  | _, _, _ => none
theorem od_isN : OpD ct K (fun x y H Q => y = .non ∧ Q (.bl (decide (x = .non))) H) gIsN := by
  intro m F S H x y dx dy d S' Q s rx ry h p
  unfold gIsN at h
  split at h
  · cases h
    exact ⟨ry, by rw [rx.isNon]; exact p.now s rfl⟩
  · cases h
theorem od_notN : OpD ct K (fun x y H Q => y = .non ∧ Q (.bl (!decide (x = .non))) H) gNotN := by
  intro m F S H x y dx dy d S' Q s rx ry h p
  unfold gNotN at h
  split at h
  · cases h
    exact ⟨ry, by rw [rx.isNon]; exact p.now s rfl⟩
  · cases h
def flatD : D → Bool
  | .non => true
  | .bl _ => true
  | .int _ => true
  | .str _ => true
  | _ => false
def eqF : D → D → Bool
  | .non, .non => true
  | .bl a, .bl b => a == b
  | .bl a, .int b => (if a then 1 else 0) == b
  | .int a, .bl b => a == (if b then 1 else 0)
  | .int a, .int b => a == b
  | .str a, .str b => a == b
  | _, _ => false
def vOf : D → V
  | .bl b => .bl b
  | .int b => .int b
  | .str b => .str b
  | _ => .non
theorem Rep.flat {m : List Addr} {F : Hp} {d : D} {v : V} (r : Rep K ct m F d v) (h : flatD d = true) : v = vOf d ∧ flatV v = true := by
  cases d with
  | non => have r : v = _ := r; subst r; exact ⟨rfl, rfl⟩
  | bl b => have r : v = _ := r; subst r; exact ⟨rfl, rfl⟩
  | int b => have r : v = _ := r; subst r; exact ⟨rfl, rfl⟩
  | str b => have r : v = _ := r; subst r; exact ⟨rfl, rfl⟩
  | _ => cases h
theorem eqV_eqF {a b : D} (ha : flatD a = true) (hb : flatD b = true) : eqV (vOf a) (vOf b) = eqF a b := by
  cases a <;> cases ha <;> cases b <;> cases hb <;> rfl
theorem Reps.flat {m : List Addr} {F : Hp} : ∀ {ds : List D} {vs : List V}, Reps K ct m F ds vs → ds.all flatD = true → vs = ds.map vOf ∧ vs.all flatV = true
  | [], _, r, _ => by have r : _ = _ := r; subst r; exact ⟨rfl, rfl⟩
  | d :: ds, _, r, h => by
    obtain ⟨v, vr, e1, e2, e3⟩ := r
    subst e1
    simp only [List.all_cons, Bool.and_eq_true] at h
    obtain ⟨q1, q2⟩ := e2.flat h.1
    obtain ⟨q3, q4⟩ := Reps.flat e3 h.2
    exact ⟨by rw [q1, q3]; rfl, by simp only [List.all_cons, q2, q4]; rfl⟩
theorem inV_eq {x : D} (hx : flatD x = true) : ∀ ds : List D, ds.all flatD = true → inV (vOf x) (ds.map vOf) = ds.any fun z => eqF z x
  | [], _ => rfl
  | d :: ds, h => by
    simp only [List.all_cons, Bool.and_eq_true] at h
    have ih := inV_eq hx ds h.2
    unfold inV at ih ⊢
    simp only [List.map_cons, List.any_cons, ih, eqV_eqF h.1 hx]
def inSeq (neg : Bool) (x : D) (ds : List D) (S : Sto) : Option (D × Sto) := if flatD x = true ∧ ds.all flatD = true then some (.bl (if neg then !ds.any (fun z => eqF z x) else ds.any fun z => eqF z x), S) else none
def gInB (neg : Bool) : D → D → Sto → Option (D × Sto)
  | x, .tup ds, S => inSeq neg x ds S
  | x, .lst ds, S => inSeq neg x ds S
  | .str x, .str y, S => some (.bl (if neg then !(!(Builtin.Str.occurrences y x 0 y.length 1).isEmpty) else !(Builtin.Str.occurrences y x 0 y.length 1).isEmpty), S)
  | _, _, _ => none
abbrev gIn := gInB false
abbrev gNotIn := gInB true
def rInAll (K : PySem.W.Frag) : R2 := fun x y H Q => rIn K false x y H Q ∨ ∃ i j, x = .str i ∧ y = .str j ∧ Q (.bl (!(Builtin.Str.occurrences j i 0 j.length 1).isEmpty)) H
def rNotInAll (K : PySem.W.Frag) : R2 := fun x y H Q => rIn K true x y H Q ∨ ∃ i j, x = .str i ∧ y = .str j ∧ Q (.bl (!(!(Builtin.Str.occurrences j i 0 j.length 1).isEmpty))) H
theorem op_inAll {X : Cx} : OpR X (compareOp .In) (rInAll X.K) := op_in_seq.or op_in_str
theorem op_notInAll {X : Cx} : OpR X (compareOp .NotIn) (rNotInAll X.K) := op_notIn_seq.or op_notIn_str
theorem in_seq {neg : Bool} {m : List Addr} {F H : Hp} {S S' : Sto} {x y : V} {dx d : D} {ds : List D} {Q : VK} {a : Addr} {vs : List V} (s : Sim K ct m F S H) (rx : Rep K ct m F dx x) (e1 : y = .ref a) (e2 : SqL K H a vs ∨ SqT K H a vs) (e3 : Reps K ct m F ds vs)
    (h : inSeq neg dx ds S = some (d, S')) (p : PostE ct K m F H S' d Q) : rIn K neg x y H Q := by
  unfold inSeq at h
  split at h
  · rename_i hf
    cases h
    obtain ⟨q1, q2⟩ := rx.flat hf.1
    obtain ⟨q3, q4⟩ := e3.flat hf.2
    refine ⟨a, vs, e1, e2, q2, q4, ?_⟩
    rw [q1, q3, inV_eq hf.1 _ hf.2]
    exact p.now s rfl
  · cases h
theorem od_in : OpD ct K (rInAll K) gIn := by
  intro m F S H x y dx dy d S' Q s rx ry h p
  unfold gIn gInB at h
  split at h
  · obtain ⟨a, vs, e1, e2, e3⟩ := ry
    exact .inl (in_seq s rx e1 (.inr (sqT_mono s.same e2)) e3 h p)
  · obtain ⟨a, vs, e1, e2, e3⟩ := ry
    exact .inl (in_seq s rx e1 (.inl (SqL.of (s.same _ _ e2))) e3 h p)
  · cases h
    exact .inr ⟨_, _, rx, ry, p.now s rfl⟩
  · cases h
theorem od_notIn : OpD ct K (rNotInAll K) gNotIn := by
  intro m F S H x y dx dy d S' Q s rx ry h p
  unfold gNotIn gInB at h
  split at h
  · obtain ⟨a, vs, e1, e2, e3⟩ := ry
    exact .inl (in_seq s rx e1 (.inr (sqT_mono s.same e2)) e3 h p)
  · obtain ⟨a, vs, e1, e2, e3⟩ := ry
    exact .inl (in_seq s rx e1 (.inl (SqL.of (s.same _ _ e2))) e3 h p)
  · cases h
    exact .inr ⟨_, _, rx, ry, p.now s rfl⟩
  · cases h
def gIx : D → D → Sto → Option (D × Sto)
  | .tup ds, .int i, S => (atI ds i).map fun d => (d, S)
  | .lst ds, .int i, S => (atI ds i).map fun d => (d, S)
  | .scr ns, .int i, S => (atI ns i).map fun n => (.int n, S)
  | .str z, .int i, S => if z.length ≤ 16777216 then (atI z.cps.toList i).map fun c => (.str ⟨#[c]⟩, S) else none
  | .ref k, .int i, S => match S[k]? with
    | some (.lst ds) => (atI ds i).map fun d => (d, S)
    | _ => none
  | _, _, _ => none
theorem Reps.atI {m : List Addr} {F : Hp} {ds : List D} {vs : List V} {i : Int} {d : D} (r : Reps K ct m F ds vs) (h : atI ds i = some d) : ∃ v, L2.atI vs i = some v ∧ Rep K ct m F d v := by
  unfold L2.atI at h ⊢
  obtain ⟨j, h1, h2⟩ := bind_some h
  obtain ⟨v, q1, q2⟩ := r.get h2
  exact ⟨v, by rw [← r.length, h1]; exact q1, q2⟩
theorem atI_map {α β : Type} {f : α → β} {xs : List α} {i : Int} {x : α} (h : L2.atI xs i = some x) : L2.atI (xs.map f) i = some (f x) := by
  unfold L2.atI at h ⊢
  obtain ⟨j, h1, h2⟩ := bind_some h
  rw [List.length_map, h1]
  simp [h2]
theorem od_ix : OpD ct K (rIx K) gIx := by
  intro m F S H x y dx dy d S' Q s rx ry h p
  unfold gIx at h
  split at h
  · obtain ⟨a, vs, e1, e2, e3⟩ := rx
    obtain ⟨z, h1, h2⟩ := map_some h
    cases h2
    obtain ⟨v, q1, q2⟩ := e3.atI h1
    exact .inr (.inl ⟨a, vs, _, v, e1, ry, sqT_mono s.same e2, q1, p.now s q2⟩)
  · obtain ⟨a, vs, e1, e2, e3⟩ := rx
    obtain ⟨z, h1, h2⟩ := map_some h
    cases h2
    obtain ⟨v, q1, q2⟩ := e3.atI h1
    exact .inl ⟨a, vs, _, v, e1, ry, SqL.of (s.same _ _ e2), q1, p.now s q2⟩
  · obtain ⟨a, e1, e2⟩ := rx
    obtain ⟨z, h1, h2⟩ := map_some h
    cases h2
    exact .inl ⟨a, _, _, .int z, e1, ry, s.same.seq e2, atI_map h1, p.now s rfl⟩
  · split at h
    · rename_i hl
      obtain ⟨z, h1, h2⟩ := map_some h
      cases h2
      exact .inr (.inr ⟨_, _, z, rx, ry, by rw [line_eq]; exact hl, h1, p.now s rfl⟩)
    · cases h
  · split at h
    · rename_i ds hk
      obtain ⟨a, e1, e2⟩ := rx
      obtain ⟨z, h1, h2⟩ := map_some h
      cases h2
      obtain ⟨vs, q1, q2⟩ := s.cell _ a _ e1 hk
      obtain ⟨v, q3, q4⟩ := q2.atI h1
      exact .inl ⟨a, vs, _, v, e2, ry, SqL.of q1, q3, p.now s q4⟩
    · cases h
  · cases h
end
end DL
namespace DL
open PySem PySem.Spec PyProof.Rows L2
section
variable {ct : CT} {K : PySem.W.Frag}
def cAbs : FD
  | [.int i], S => some (.int (if i < 0 then -i else i), S)
  | _, _ => none
theorem reps1 {m : List Addr} {F : Hp} {d : D} {xs : List V} (r : Reps K ct m F [d] xs) : ∃ v, xs = [v] ∧ Rep K ct m F d v := by
  obtain ⟨v, r', e1, e2, e3⟩ := r
  have e3 : r' = [] := e3
  subst e3
  exact ⟨v, e1, e2⟩
theorem reps2 {m : List Addr} {F : Hp} {d e : D} {xs : List V} (r : Reps K ct m F [d, e] xs) : ∃ v u, xs = [v, u] ∧ Rep K ct m F d v ∧ Rep K ct m F e u := by
  obtain ⟨v, r', e1, e2, e3⟩ := r
  obtain ⟨u, e4, e5⟩ := reps1 e3
  subst e4
  exact ⟨v, u, e1, e2, e5⟩
theorem cd_abs : CallD ct K (fun xs H Q => ∃ i, xs = [.int i] ∧ Q (.int (if i < 0 then -i else i)) H) cAbs := by
  intro m F S H xs ds d S' Q s r h p
  unfold cAbs at h
  split at h
  · cases h
    obtain ⟨v, e1, e2⟩ := reps1 r
    have e2 : v = _ := e2
    subst e2
    exact ⟨_, e1, p.now s rfl⟩
  · cases h
def cMax2 : FD
  | [.int i, .int j], S => some (.int (if j > i then j else i), S)
  | _, _ => none
def cMin2 : FD
  | [.int i, .int j], S => some (.int (if j < i then j else i), S)
  | _, _ => none
theorem cd_max2 : CallD ct K (fun xs H Q => ∃ i j, xs = [.int i, .int j] ∧ Q (.int (if j > i then j else i)) H) cMax2 := by
  intro m F S H xs ds d S' Q s r h p
  unfold cMax2 at h
  split at h
  · cases h
    obtain ⟨v, u, e1, e2, e3⟩ := reps2 r
    have e2 : v = _ := e2
    have e3 : u = _ := e3
    subst e2 e3
    exact ⟨_, _, e1, p.now s rfl⟩
  · cases h
theorem cd_min2 : CallD ct K (fun xs H Q => ∃ i j, xs = [.int i, .int j] ∧ Q (.int (if j < i then j else i)) H) cMin2 := by
  intro m F S H xs ds d S' Q s r h p
  unfold cMin2 at h
  split at h
  · cases h
    obtain ⟨v, u, e1, e2, e3⟩ := reps2 r
    have e2 : v = _ := e2
    have e3 : u = _ := e3
    subst e2 e3
    exact ⟨_, _, e1, p.now s rfl⟩
  · cases h
/-- int(n), int(flag), int(text) -/
def cInt : FD
  | [.int i], S => some (.int i, S)
  | [.bl b], S => some (.int (if b then 1 else 0), S)
  | [.str x], S => if x.length ≤ 640 then (PySem.intText? x).map fun n => (.int n, S) else none
  | _, _ => none
def rInt : List V → Hp → VK → Prop := fun xs H Q => ((∃ i, xs = [.int i] ∧ Q (.int i) H) ∨ ∃ k, xs = [.bl k] ∧ Q (.int (if k then 1 else 0)) H) ∨ ∃ a n, xs = [.str a] ∧ PySem.intText? a = some n ∧ a.length ≤ 640 ∧ Q (.int n) H
theorem call_intAll {X : Cx} : CallR X (.type "int") rInt := call_int1.or call_int_str
theorem cd_int : CallD ct K rInt cInt := by
  intro m F S H xs ds d S' Q s r h p
  unfold cInt at h
  split at h
  · cases h
    obtain ⟨v, e1, e2⟩ := reps1 r
    have e2 : v = _ := e2
    subst e2
    exact .inl (.inl ⟨_, e1, p.now s rfl⟩)
  · cases h
    obtain ⟨v, e1, e2⟩ := reps1 r
    have e2 : v = _ := e2
    subst e2
    exact .inl (.inr ⟨_, e1, p.now s rfl⟩)
  · split at h
    · rename_i hl
      obtain ⟨n, h1, h2⟩ := map_some h
      cases h2
      obtain ⟨v, e1, e2⟩ := reps1 r
      have e2 : v = _ := e2
      subst e2
      exact .inr ⟨_, n, e1, h1, hl, p.now s rfl⟩
    · cases h
  · cases h
def cLen : FD
  | [.str x], S => if x.length ≤ 16777216 then some (.int x.length, S) else none
  | [.tup ds], S => some (.int ds.length, S)
  | [.lst ds], S => some (.int ds.length, S)
  | [.scr ns], S => some (.int ns.length, S)
  | [.ref k], S => match S[k]? with
    | some (.lst ds) => some (.int ds.length, S)
    | _ => none
  | _, _ => none
def rLenAll (K : PySem.W.Frag) : List V → Hp → VK → Prop := fun xs H Q => (∃ p ys, xs = [.ref p] ∧ (SqL K H p ys ∨ SqT K H p ys) ∧ Q (.int ys.length) H) ∨ ∃ z, xs = [.str z] ∧ z.length ≤ sizeLine ∧ Q (.int z.length) H
theorem call_lenAll {X : Cx} : CallR X (.builtin "len") (rLenAll X.K) := call_len_seq.or call_len_str
theorem cd_len : CallD ct K (rLenAll K) cLen := by
  intro m F S H xs ds d S' Q s r h p
  unfold cLen at h
  split at h
  · split at h
    · rename_i hl
      cases h
      obtain ⟨v, e1, e2⟩ := reps1 r
      have e2 : v = _ := e2
      subst e2
      exact .inr ⟨_, e1, by rw [line_eq]; exact hl, p.now s rfl⟩
    · cases h
  · cases h
    obtain ⟨v, e1, a, vs, e2, e3, e4⟩ := reps1 r
    subst e2
    exact .inl ⟨a, vs, e1, .inr (sqT_mono s.same e3), by rw [← e4.length]; exact p.now s rfl⟩
  · cases h
    obtain ⟨v, e1, a, vs, e2, e3, e4⟩ := reps1 r
    subst e2
    exact .inl ⟨a, vs, e1, .inl (SqL.of (s.same _ _ e3)), by rw [← e4.length]; exact p.now s rfl⟩
  · cases h
    obtain ⟨v, e1, a, e2, e3⟩ := reps1 r
    subst e2
    exact .inl ⟨a, _, e1, .inl (s.same.seq e3), by rw [List.length_map]; exact p.now s rfl⟩
  · split at h
    · rename_i es hk
      cases h
      obtain ⟨v, e1, a, e2, e3⟩ := reps1 r
      subst e3
      obtain ⟨vs, q1, q2⟩ := s.cell _ a _ e2 hk
      exact .inl ⟨a, vs, e1, .inl (SqL.of q1), by rw [← q2.length]; exact p.now s rfl⟩
    · cases h
  · cases h
/-- any, all of a list of bools -/
def asBools : List D → Option (List Bool)
  | [] => some []
  | .bl b :: ds => (asBools ds).map fun bs => b :: bs
  | _ => none
theorem Reps.bools {m : List Addr} {F : Hp} : ∀ {ds : List D} {vs : List V} {bs : List Bool}, Reps K ct m F ds vs → asBools ds = some bs → vs = bs.map V.bl
  | [], _, _, r, h => by
    have r : _ = _ := r
    subst r
    cases h
    rfl
  | .bl b :: ds, _, _, r, h => by
    obtain ⟨v, vr, e1, e2, e3⟩ := r
    obtain ⟨cs, h1, h2⟩ := map_some (show (asBools ds).map _ = _ from h)
    have e2 : v = _ := e2
    subst e1 h2 e2
    rw [Reps.bools e3 h1]
    rfl
  | .non :: ds, _, _, r, h => by cases h
  | .int _ :: ds, _, _, r, h => by cases h
  | .str _ :: ds, _, _, r, h => by cases h
  | .tup _ :: ds, _, _, r, h => by cases h
  | .lst _ :: ds, _, _, r, h => by cases h
  | .dct _ _ :: ds, _, _, r, h => by cases h
  | .scr _ :: ds, _, _, r, h => by cases h
  | .ref _ :: ds, _, _, r, h => by cases h
  | .obj _ _ _ :: ds, _, _, r, h => by cases h
  | .exc _ _ _ :: ds, _, _, r, h => by cases h
  | .typ _ :: ds, _, _, r, h => by cases h
def cAll : FD
  | [.lst ds], S => (asBools ds).map fun bs => (.bl (bs.all id), S)
  | _, _ => none
theorem cd_all : CallD ct K (rAll K) cAll := by
  intro m F S H xs ds d S' Q s r h p
  unfold cAll at h
  split at h
  · obtain ⟨bs, h1, h2⟩ := map_some h
    cases h2
    obtain ⟨v, e1, a, vs, e2, e3, e4⟩ := reps1 r
    subst e2
    have e5 := e4.bools h1
    subst e5
    exact ⟨a, bs, e1, SqL.of (s.same _ _ e3), p.now s rfl⟩
  · cases h
/-- ints of a list -/
def asInts : List D → Option (List Int)
  | [] => some []
  | .int b :: ds => (asInts ds).map fun bs => b :: bs
  | _ => none
theorem Reps.asInts {m : List Addr} {F : Hp} : ∀ {ds : List D} {vs : List V} {bs : List Int}, Reps K ct m F ds vs → asInts ds = some bs → vs = bs.map V.int
  | [], _, _, r, h => by
    have r : _ = _ := r
    subst r
    cases h
    rfl
  | .int b :: ds, _, _, r, h => by
    obtain ⟨v, vr, e1, e2, e3⟩ := r
    obtain ⟨cs, h1, h2⟩ := map_some (show (DL.asInts ds).map _ = _ from h)
    have e2 : v = _ := e2
    subst e1 h2 e2
    rw [Reps.asInts e3 h1]
    rfl
  | .non :: ds, _, _, r, h => by cases h
  | .bl _ :: ds, _, _, r, h => by cases h
  | .str _ :: ds, _, _, r, h => by cases h
  | .tup _ :: ds, _, _, r, h => by cases h
  | .lst _ :: ds, _, _, r, h => by cases h
  | .dct _ _ :: ds, _, _, r, h => by cases h
  | .scr _ :: ds, _, _, r, h => by cases h
  | .ref _ :: ds, _, _, r, h => by cases h
  | .obj _ _ _ :: ds, _, _, r, h => by cases h
  | .exc _ _ _ :: ds, _, _, r, h => by cases h
  | .typ _ :: ds, _, _, r, h => by cases h
/-- list(xs), list(t) -/
def cList : FD
  | [.lst ds], S => some (.lst ds, S)
  | [.tup ds], S => some (.lst ds, S)
  | _, _ => none
/-- tuple(xs) -/
def cTuple : FD
  | [.lst ds], S => some (.tup ds, S)
  | [.tup ds], S => some (.tup ds, S)
  | _, _ => none
end
section
variable {ct : CT} {X : Cx} {e : Expr} {f : FE}
def isiT : String → D → Option Bool
  | "int", .int _ => some true
  | "int", .bl _ => some true
  | "int", .non => some false
  | "int", .str _ => some false
  | "int", .tup _ => some false
  | "int", .lst _ => some false
  | "int", .dct _ _ => some false
  | "bool", .bl _ => some true
  | "bool", .int _ => some false
  | "bool", .non => some false
  | "bool", .str _ => some false
  | "bool", .tup _ => some false
  | "bool", .lst _ => some false
  | "bool", .dct _ _ => some false
  | "str", .str _ => some true
  | "str", .int _ => some false
  | "str", .bl _ => some false
  | "str", .non => some false
  | "str", .tup _ => some false
  | "str", .lst _ => some false
  | "str", .dct _ _ => some false
  | "tuple", .tup _ => some true
  | "tuple", .int _ => some false
  | "tuple", .bl _ => some false
  | "tuple", .non => some false
  | "tuple", .str _ => some false
  | "tuple", .lst _ => some false
  | "tuple", .dct _ _ => some false
  | _, _ => none
def tyN : D → String
  | .non => "NoneType"
  | .bl _ => "bool"
  | .int _ => "int"
  | .str _ => "str"
  | .tup _ => "tuple"
  | .lst _ => "list"
  | .dct _ _ => "dict"
  | _ => ""
theorem tyX_of {K : PySem.W.Frag} {m : List Addr} {F H : Hp} (e : Same F H) {d : D} {v : V} (r : Rep K ct m F d v) (h : tyN d ≠ "") : TyX K H v (.type (tyN d)) := by
  cases d with
  | non => have r : v = _ := r; subst r; exact .base .non
  | bl b => have r : v = _ := r; subst r; exact .base (.bl b)
  | int b => have r : v = _ := r; subst r; exact .base (.int b)
  | str b => have r : v = _ := r; subst r; exact .base (.str b)
  | tup ds =>
    obtain ⟨a, vs, e1, e2, _⟩ := r
    subst e1
    rcases sqT_mono e e2 with (q | ⟨o, q⟩) | ⟨o, its, n, q1, q2, _⟩
    · exact .base (.tup q)
    · exact .fTuple q
    · exact .kTuple q1 q2
  | lst ds =>
    obtain ⟨a, vs, e1, e2, _⟩ := r
    subst e1
    exact .base (.lst (e _ _ e2))
  | dct ks ds =>
    obtain ⟨a, vs, e1, e2, _⟩ := r
    subst e1
    exact .base (.dK (e _ _ e2))
  | scr _ => exact absurd rfl h
  | ref _ => exact absurd rfl h
  | obj _ _ _ => exact absurd rfl h
  | exc _ _ _ => exact absurd rfl h
  | typ _ => exact absurd rfl h
theorem isiT_kit {T : String} {d : D} {b : Bool} (h : isiT T d = some b) : kitB (tyN d) T = some b ∧ tyN d ≠ "" := by
  unfold isiT at h
  split at h <;> first
    | (cases h; refine ⟨?_, ?_⟩ <;> (dsimp only [tyN]; decide +kernel))
    | cases h
def fIsi (T : String) (f : FE) : FE := fun env S => (f env S).bind fun p => (isiT T p.1).map fun b => (.bl b, p.2)
theorem se_isi {T : String} {x : Str} {p q pos : Pos} (hg : Gl X "isinstance") (hm : X.mg "isinstance" = none) (he : SE ct X e f) (hg2 : Gl X x) (hm2 : X.mg x = none) (hv2 : bootBuiltins x = some (.type T)) (hn2 : x ≠ "__name__" := by decide) (hd2 : (x == ("__debug__" : Str)) = false := by decide)
    (hs : starEach [e, .Name x q] X.env = (false, eval e X.env) :: starEach [.Name x q] X.env := by rfl) (hs2 : starEach [.Name x q] X.env = (false, eval (.Name x q) X.env) :: starEach [] X.env := by rfl)
    (hpl : (backTo pos (starEach [.Name x q] X.env)).any (·.1) = false := by rfl) : SE ct X (.Call (.Name "isinstance" p) [e, .Name x q] [] pos) (fIsi T f) := by
  obtain ⟨ta, pa, ra⟩ := he
  refine ⟨_, pe_callB call_isi hg hm (by decide +kernel) (pa_cons pa (pa_cons (pe_bltn (v := .ty T) hg2 hm2 hv2 rfl hn2 hd2) pa_nil hs2) hs) (by decide) (by decide) hs hpl, fun m F S σ H env d S' Q s en h p => ?_⟩
  obtain ⟨⟨z, S1⟩, h1, h⟩ := bind_some h
  obtain ⟨b, h2, h3⟩ := map_some h
  cases h3
  refine ra m F S σ H env z S1 _ s en h1 fun m1 F1 v1 H1 x1 s1 r1 => ?_
  obtain ⟨k1, k2⟩ := isiT_kit h2
  exact ⟨v1, .ty T, .type (tyN z), .type T, b, rfl, .ty T, tyX_of s1.same r1 k2, kit_ty k1, (p.ext x1).now s1 rfl⟩
end
section
variable {ct : CT} {X : Cx} {a b c e : Expr} {es : List Expr} {fa fb fc f : FE}
abbrev FO := DEnv → Sto → Option (Option Int × Sto)
def SO (ct : CT) (X : Cx) (e : Option Expr) (f : FO) : Prop := ∃ t, PO X e t ∧ ∀ m F S σ H env o S' Q, Sim X.K ct m F S H → EnvR X.K ct m F env σ → f env S = some (o, S') → (∀ m' F' H', Ext m F H m' F' H' → Sim X.K ct m' F' S' H' → Q o H') → t σ H Q
def oNone : FO := fun _ S => some (none, S)
def oSome (f : FE) : FO := fun env S => (f env S).bind fun p => match p.1 with
  | .int i => some (some i, p.2)
  | _ => none
theorem so_none : SO ct X none oNone := ⟨_, po_none, fun m F S σ H env o S' Q s en h q => by
  cases h
  exact q m F H (Ext.refl _ _ _) s⟩
theorem so_some (h : SE ct X e f) : SO ct X (some e) (oSome f) := by
  obtain ⟨ta, pa, ra⟩ := h
  refine ⟨_, po_some pa, fun m F S σ H env o S' Q s en h q => ?_⟩
  obtain ⟨⟨z, S1⟩, h1, h⟩ := bind_some h
  refine ra m F S σ H env z S1 _ s en h1 fun m1 F1 v1 H1 x1 s1 r1 => ?_
  cases z with
  | int i => cases h; exact ⟨i, r1, q m1 F1 H1 x1 s1⟩
  | _ => cases h
def cutD {α : Type} (xs : List α) (lo hi : Option Int) : List α := (xs.drop (HT.sIx xs.length 0 lo)).take (HT.sIx xs.length xs.length hi - HT.sIx xs.length 0 lo)
def gSl : D → Option Int → Option Int → Sto → Option (D × Sto)
  | .lst ds, lo, hi, S => some (.lst (cutD ds lo hi), S)
  | .scr ns, lo, hi, S => some (.lst ((cutD ns lo hi).map .int), S)
  | .tup ds, lo, hi, S => if HT.sIx ds.length 0 lo = 0 ∧ HT.sIx ds.length ds.length hi = ds.length then none else some (.tup (cutD ds lo hi), S)
  | .str z, lo, hi, S => if z.length ≤ 16777216 then some (.str (cutS z lo hi), S) else none
  | _, _, _, _ => none
def fSl (fa : FE) (lo hi : FO) : FE := fun env S => (fa env S).bind fun p => (lo env p.2).bind fun q => (hi env q.2).bind fun r => gSl p.1 q.1 r.1 r.2
theorem cutD_reps {K : PySem.W.Frag} {m : List Addr} {F : Hp} {ds : List D} {vs : List V} (r : Reps K ct m F ds vs) (lo hi : Option Int) : Reps K ct m F (cutD ds lo hi) (cutV vs lo hi) := by
  unfold cutD cutV
  rw [← r.length]
  exact (r.drop _).take _
end
section
variable {ct : CT} {X : Cx} {tg a b c e : Expr} {es : List Expr} {fa fb fc f : FE} {fas : FA}
/-- a list -/
def iLst (f : FE) : FA := fun env S => (f env S).bind fun p => match p.1 with
  | .lst ds => some (ds, p.2)
  | _ => none
theorem si_list (h : SE ct X e f) : SI ct X tg e (iLst f) := by
  obtain ⟨ta, pa, ra⟩ := h
  refine ⟨_, pi_list pa, fun m F S σ H env items S' R s en h p => ?_⟩
  obtain ⟨⟨z, S1⟩, h1, h⟩ := bind_some h
  refine ra m F S σ H env z S1 _ s en h1 fun m1 F1 v1 H1 x1 s1 r1 => ?_
  cases z with
  | lst ds =>
    cases h
    obtain ⟨q, vs, e1, e2, e3⟩ := r1
    refine ⟨q, e1, ⟨vs, SqL.of (s1.same _ _ e2)⟩, p m1 F1 _ H1 x1 s1 fun i m2 F2 S2 H2 x2 s2 => ?_⟩
    have hq : SqL X.K H2 q vs := SqL.of (s2.same _ _ (x2.same _ _ e2))
    refine ⟨fun d hd => ?_, fun hl => ⟨vs, hq, by rw [← e3.length]; omega⟩⟩
    obtain ⟨v, g1, g2⟩ := e3.get hd
    refine ⟨⟨vs, v, hq, g1⟩, fun x H' y => ?_⟩
    obtain ⟨y1, y2⟩ := y
    subst y1
    have := y2 vs hq
    rw [g1] at this
    cases this
    exact ⟨F2, Ext.refl _ _ _, s2, g2.mono0 x2⟩
  | _ => cases h
/-- a tuple -/
def iTup (f : FE) : FA := fun env S => (f env S).bind fun p => match p.1 with
  | .tup ds => some (ds, p.2)
  | _ => none
theorem si_tup (h : SE ct X e f) : SI ct X tg e (iTup f) := by
  obtain ⟨ta, pa, ra⟩ := h
  refine ⟨_, pi_tup pa, fun m F S σ H env items S' R s en h p => ?_⟩
  obtain ⟨⟨z, S1⟩, h1, h⟩ := bind_some h
  refine ra m F S σ H env z S1 _ s en h1 fun m1 F1 v1 H1 x1 s1 r1 => ?_
  cases z with
  | tup ds =>
    cases h
    obtain ⟨q, vs, e1, e2, e3⟩ := r1
    refine ⟨q, e1, ⟨vs, sqT_mono s1.same e2⟩, p m1 F1 _ H1 x1 s1 fun i m2 F2 S2 H2 x2 s2 => ?_⟩
    have hq : SqT X.K H2 q vs := sqT_mono s2.same (sqT_mono x2.same e2)
    refine ⟨fun d hd => ?_, fun hl => ⟨vs, hq, by rw [← e3.length]; omega⟩⟩
    obtain ⟨v, g1, g2⟩ := e3.get hd
    refine ⟨⟨vs, v, hq, g1⟩, fun x H' y => ?_⟩
    obtain ⟨y1, y2⟩ := y
    subst y1
    have := y2 vs hq
    rw [g1] at this
    cases this
    exact ⟨F2, Ext.refl _ _ _, s2, g2.mono0 x2⟩
  | _ => cases h
/-- range(n), range(a, b) -/
def rangeD (lo hi : Int) : List D := (List.range (hi - lo).toNat).map fun (k : Nat) => D.int (lo + k)
def okR (i : Int) : Bool := decide (-4611686018427387904 ≤ i) && decide (i < 4611686018427387904)
def iRange1 (fas : FA) : FA := fun env S => (fas env S).bind fun p => match p.1 with
  | [.int j] => if okR j = true then some (rangeD 0 j, p.2) else none
  | _ => none
def iRange2 (fas : FA) : FA := fun env S => (fas env S).bind fun p => match p.1 with
  | [.int i, .int j] => if okR i = true ∧ okR j = true then some (rangeD i j, p.2) else none
  | _ => none
theorem itr_ok {K : PySem.W.Frag} {m0 : List Addr} {F0 : Hp} (lo hi : Int) {n : Nat} (hn : n = (hi - lo).toNat) : ItOk ct K m0 F0 (rangeD lo hi) (Itr lo n) := by
  subst hn
  intro i m F S H x s
  have hl : (rangeD lo hi).length = (hi - lo).toNat := by simp [rangeD]
  refine ⟨fun d hd => ?_, fun h => ?_⟩
  · have hi : i < (rangeD lo hi).length := (List.getElem?_eq_some_iff.mp hd).1
    rw [hl] at hi
    refine ⟨hi, fun v H' y => ?_⟩
    obtain ⟨y1, y2⟩ := y
    subst y1 y2
    refine ⟨F, Ext.refl _ _ _, s, ?_⟩
    have e : d = .int (lo + i) := by
      unfold rangeD at hd
      rw [List.getElem?_map, List.getElem?_range hi] at hd
      cases hd
      rfl
    subst e
    rfl
  · rw [hl] at h
    show _ ≤ i
    omega
theorem okR_ok {i : Int} (h : okR i = true) : -(2 ^ 62) ≤ i ∧ i < 2 ^ 62 := by
  simp only [okR, Bool.and_eq_true, decide_eq_true_eq] at h
  exact h
theorem si_range1 {p pos : Pos} (hg : Gl X "range") (hm : X.mg "range" = none) (h : SA ct X [a] fas) (hs : starEach [a] X.env = [(false, eval a X.env)] := by rfl) : SI ct X tg (.Call (.Name "range" p) [a] [] pos) (iRange1 fas) := by
  obtain ⟨ta, pa, ra⟩ := h
  refine ⟨_, pi_range1 hg hm pa hs, fun m F S σ H env items S' R s en h p => ?_⟩
  obtain ⟨⟨zs, S1⟩, h1, h⟩ := bind_some h
  refine ra m F S σ H env zs S1 _ s en h1 fun m1 F1 vs H1 x1 s1 r1 => ?_
  split at h
  · rename_i j hz
    have hz : zs = _ := hz
    subst hz
    split at h
    · rename_i hj
      cases h
      obtain ⟨v, e1, e2⟩ := reps1 r1
      have e2 : v = _ := e2
      subst e2
      exact ⟨j, e1, (okR_ok hj).1, (okR_ok hj).2, p m1 F1 _ H1 x1 s1 (itr_ok 0 j (by simp))⟩
    · cases h
  · cases h
theorem si_range2 {p pos : Pos} (hg : Gl X "range") (hm : X.mg "range" = none) (h : SA ct X [a, b] fas) (hs : starEach [a, b] X.env = [(false, eval a X.env), (false, eval b X.env)] := by rfl) (hs2 : starEach [b] X.env = [(false, eval b X.env)] := by rfl) : SI ct X tg (.Call (.Name "range" p) [a, b] [] pos) (iRange2 fas) := by
  obtain ⟨ta, pa, ra⟩ := h
  refine ⟨_, pi_range2 hg hm pa hs hs2, fun m F S σ H env items S' R s en h p => ?_⟩
  obtain ⟨⟨zs, S1⟩, h1, h⟩ := bind_some h
  refine ra m F S σ H env zs S1 _ s en h1 fun m1 F1 vs H1 x1 s1 r1 => ?_
  split at h
  · rename_i i j hz
    have hz : zs = _ := hz
    subst hz
    split at h
    · rename_i hj
      cases h
      obtain ⟨v, u, e1, e2, e3⟩ := reps2 r1
      have e2 : v = _ := e2
      have e3 : u = _ := e3
      subst e2 e3
      exact ⟨i, j, e1, ⟨(okR_ok hj.1).1, (okR_ok hj.1).2, (okR_ok hj.2).1, (okR_ok hj.2).2⟩, p m1 F1 _ H1 x1 s1 (itr_ok i j rfl)⟩
    · cases h
  · cases h
end
end DL
namespace DL
open PySem PySem.Spec PyProof.Rows L2
def tE (ct : CT) (K : PySem.W.Frag) (f : FE) : TE := fun σ H Q => ∃ m F S env d S', Sim K ct m F S H ∧ EnvR K ct m F env σ ∧ f env S = some (d, S') ∧ PostE ct K m F H S' d Q
def tT (ct : CT) (K : PySem.W.Frag) (f : FT) : TT := fun σ H Q => ∃ m F S env b S', Sim K ct m F S H ∧ EnvR K ct m F env σ ∧ f env S = some (b, S') ∧ PostT ct K m F H S' b Q
theorem SE.pe {ct : CT} {X : Cx} {e : Expr} {f : FE} (h : SE ct X e f) : PE X e (tE ct X.K f) := by
  obtain ⟨t, p, r⟩ := h
  exact ⟨fun pins s σ H Q I ⟨m, F, S, env, d, S', s1, en, h1, p1⟩ => p.run pins s σ H Q I (r m F S σ H env d S' Q s1 en h1 p1)⟩
def STs (ct : CT) (X : Cx) (ifs : List Expr) (f : FT) : Prop := ∃ t, PTs X ifs t ∧ ∀ m F S σ H env b S' Q, Sim X.K ct m F S H → EnvR X.K ct m F env σ → f env S = some (b, S') → PostT ct X.K m F H S' b Q → t σ H Q
theorem STs.pt {ct : CT} {X : Cx} {es : List Expr} {f : FT} (h : STs ct X es f) : PTs X es (tT ct X.K f) := by
  obtain ⟨t, p, r⟩ := h
  exact ⟨fun pins s σ H Q I ⟨m, F, S, env, d, S', s1, en, h1, p1⟩ => p.run pins s σ H Q I (r m F S σ H env d S' Q s1 en h1 p1)⟩
def tYesD : FT := fun _ S => some (true, S)
theorem sts_nil {ct : CT} {X : Cx} : STs ct X [] tYesD := ⟨_, pts_nil, fun m F S σ H env b S' Q s en h p => by
  cases h
  exact p m F H (Ext.refl _ _ _) s⟩
theorem sts_one {ct : CT} {X : Cx} {e : Expr} {f : FT} (h : ST ct X e f) : STs ct X [e] f := by
  obtain ⟨t, p, r⟩ := h
  exact ⟨t, pts_one p, r⟩
def SGw (ct : CT) (X : Cx) (vs : List Nat) (tg : Expr) (g : FG) : Prop := ∃ t, PG X tg t ∧ ∀ m F S σ H env d v env' S' Q, Sim X.K ct m F S H → EnvR X.K ct m F env σ → Rep X.K ct m F d v → g d env S = some (env', S') →
  (∀ m' F' σ' H', Ext m F H m' F' H' → Sim X.K ct m' F' S' H' → EnvR X.K ct m' F' env' σ' → wipe σ' vs = wipe σ vs → Q σ' H') → t v σ H Q
def tGw (ct : CT) (K : PySem.W.Frag) (vs : List Nat) (g : FG) : TG := fun v σ H Q => ∃ m F S env d env' S', Sim K ct m F S H ∧ EnvR K ct m F env σ ∧ Rep K ct m F d v ∧ g d env S = some (env', S') ∧
  (∀ m' F' σ' H', Ext m F H m' F' H' → Sim K ct m' F' S' H' → EnvR K ct m' F' env' σ' → wipe σ' vs = wipe σ vs → Q σ' H')
theorem SGw.pg {ct : CT} {X : Cx} {vs : List Nat} {tg : Expr} {g : FG} (h : SGw ct X vs tg g) : PG X tg (tGw ct X.K vs g) := by
  obtain ⟨t, p, r⟩ := h
  exact ⟨fun pins s σ H v u Q I rv ⟨m, F, S, env, d, env', S', s1, en, rp, h1, p1⟩ => p.run pins s σ H v u Q I rv (r m F S σ H env d v env' S' Q s1 en rp h1 p1)⟩
theorem set_comm' {α : Type} (l : List α) {i j : Nat} (h : i ≠ j) (a b : α) : (l.set i a).set j b = (l.set j b).set i a := List.set_comm a b h
theorem wipe_out_set {σ : L2.St} {i : Nat} {x : Option V} : ∀ {vs : List Nat}, i ∉ vs → wipe (σ.set i x) vs = (wipe σ vs).set i x
  | [], _ => rfl
  | v :: vs, h => by
    have h1 : i ≠ v := fun e => h (by simp [e])
    have h2 : i ∉ vs := fun e => h (by simp [e])
    unfold wipe
    rw [wipe_out_set h2, set_comm' _ h1]
theorem wipe_set {σ : L2.St} {i : Nat} {x : Option V} : ∀ {vs : List Nat}, i ∈ vs → wipe (σ.set i x) vs = wipe σ vs
  | [], h => by cases h
  | v :: vs, h => by
    unfold wipe
    by_cases hi : i ∈ vs
    · rw [wipe_set hi]
    · have e : i = v := by simpa [hi] using h
      subst e
      rw [wipe_out_set hi, List.set_set]
theorem wipe_idem_sub {σ : L2.St} {us : List Nat} : ∀ {vs : List Nat}, (∀ v ∈ vs, v ∈ us) → wipe (wipe σ vs) us = wipe σ us
  | [], _ => rfl
  | v :: vs, h => by
    show wipe ((wipe σ vs).set v none) us = wipe σ us
    rw [wipe_set (h v (by simp)), wipe_idem_sub fun w hw => h w (by simp [hw])]
theorem wipe_idem {σ : L2.St} {vs : List Nat} : wipe (wipe σ vs) vs = wipe σ vs := wipe_idem_sub fun _ h => h
def wipeD (env : DEnv) : List Nat → DEnv
  | [] => env
  | v :: vs => (wipeD env vs).set v none
theorem EnvR.unset {K : PySem.W.Frag} {ct : CT} {m : List Addr} {F : Hp} {env : DEnv} {σ : L2.St} (h : EnvR K ct m F env σ) (i : Nat) : EnvR K ct m F (env.set i none) (σ.set i none) := by
  refine ⟨by simp [h.1], fun j e hj => ?_⟩
  by_cases e1 : i = j
  · subst e1
    have hl : i < env.length := by
      have := (List.getElem?_eq_some_iff.mp hj).1
      simpa using this
    rw [List.getElem?_set_self hl] at hj
    cases hj
  · rw [List.getElem?_set_ne e1] at hj
    rw [List.getElem?_set_ne e1]
    exact h.2 j e hj
theorem EnvR.wipe {K : PySem.W.Frag} {ct : CT} {m : List Addr} {F : Hp} {env : DEnv} {σ : L2.St} (h : EnvR K ct m F env σ) : ∀ vs : List Nat, EnvR K ct m F (wipeD env vs) (L2.wipe σ vs)
  | [] => h
  | v :: vs => (EnvR.wipe h vs).unset v
section
variable {ct : CT} {X : Cx} {pos : Pos}
theorem sgw_name {vs : List Nat} {i : Nat} {x : Str} (hN : X.N.Nodup) (hi : X.N[i]? = some x) (hx : Loc X.env.scope x) (hv : i ∈ vs) (hf : X.fn x = true ∨ X.env.scope.names.lookup x = some .local := by first | exact .inl rfl | exact .inr rfl | assumption) : SGw ct X vs (.Name x pos) (gN i) :=
  ⟨_, pg_name hN hi hx hf, fun m F S σ H env d v env' S' Q s en r h q => by
    cases h
    exact q m F _ H (Ext.refl _ _ _) s (en.set i r) (wipe_set hv)⟩
end
section
variable {K : PySem.W.Frag} {ct : CT} {m m' m0 : List Addr} {F F' H H' F0 H0 : Hp} {S : Sto} {L : Addr} {o u : HO}
theorem Ext.hid (x : Ext m F H m' F' H') (h : H L = some o) (n : L ∉ m) (f : F L = none) : H' L = some o ∧ L ∉ m' ∧ F' L = none := by
  refine ⟨x.keep _ _ h n, fun hm => ?_, ?_⟩
  · rcases x.new _ hm with q | q
    · exact n q
    · rw [h] at q; cases q
  · cases e : F' L with
    | none => rfl
    | some z =>
      rcases x.fnew _ _ e with q | q
      · rw [f] at q; cases q
      · rw [h] at q; cases q
theorem Sim.hidden (s : Sim K ct m F S H) (n : L ∉ m) (f : F L = none) (o : HO) : Sim K ct m F S (upd H L o) := by
  refine ⟨fun b z h => ?_, s.len, s.nd, s.off, fun i a c h1 h2 => ?_, s.tab⟩
  · have nb : b ≠ L := fun e => by rw [e, f] at h; cases h
    rw [upd_ne nb]; exact s.same _ _ h
  · have hm : a ∈ m := List.mem_iff_getElem?.mpr ⟨i, h1⟩
    have na : a ≠ L := fun e => n (e ▸ hm)
    rw [upd_ne na]; exact s.cell i a c h1 h2
theorem Ext.put (x : Ext m0 F0 H0 m F H) (h : H0 L = none) (o : HO) : Ext m0 F0 H0 m F (upd H L o) := by
  refine ⟨x.pre, x.same, fun b z q n => ?_, x.new, x.fnew, fun b z q => ?_⟩
  · rw [upd_ne (ne_of_none q h)]; exact x.keep b z q n
  · rw [upd_ne (ne_of_none q h)]; exact x.grow b z q
theorem CellR.mono' {o : Option HO} {c : Cell} (h : CellR K ct m F o c) (hp : ∀ (i : Nat) (a : Addr), m[i]? = some a → m'[i]? = some a) (e : Same F F') : CellR K ct m' F' o c := by
  cases c with
  | lst ds => obtain ⟨vs, e1, e2⟩ := h; exact ⟨vs, e1, Reps.mono' hp e _ _ e2⟩
  | dct kvs => obtain ⟨vs, e1, e2⟩ := h; exact ⟨vs, e1, Paired.mapP e2 fun p q z => ⟨z.1, Rep.mono' hp e _ _ z.2⟩⟩
  | ins c fs ds => obtain ⟨C, dx, vs, e1, e4, e3, e2⟩ := h; exact ⟨C, dx, vs, e1, e4, e3, Reps.mono' hp e _ _ e2⟩
  | tab q => obtain ⟨ps, e1, e2, e3⟩ := h; exact ⟨ps, e1, e2, fun pos cv hc => let ⟨c, z1, z2⟩ := e3 pos cv hc; ⟨c, z1, e _ _ z2⟩⟩
  | nd kvs => obtain ⟨w, b, xs, e1, e2⟩ := h; exact ⟨w, b, xs, e1, Paired.mapP e2 fun p q ⟨z1, ⟨z2, z3, z4⟩, v, z5, z6⟩ => ⟨z1, ⟨z2, z3, DN.VKey.mono e _ _ z4⟩, v, z5, Rep.mono' hp e _ _ z6⟩⟩
theorem same_upd (f : F L = none) (o : HO) : Same F (upd F L o) := fun b z q => by
  have nb : b ≠ L := fun e => by rw [e, f] at q; cases q
  rw [upd_ne nb]; exact q
theorem Sim.freeze (s : Sim K ct m F S H) (n : L ∉ m) (f : F L = none) (h : H L = some o) : Sim K ct m (upd F L o) S H := by
  refine ⟨fun b z q => ?_, s.len, s.nd, fun a ha => ?_, fun i a c h1 h2 => (s.cell i a c h1 h2).mono' (fun _ _ q => q) (same_upd f o), s.tab⟩
  · by_cases hb : b = L
    · rw [hb, upd_same] at q; rw [hb, h]; exact q
    · rw [upd_ne hb] at q; exact s.same _ _ q
  · have na : a ≠ L := fun e => n (e ▸ ha)
    rw [upd_ne na]; exact s.off a ha
theorem Ext.freeze (x : Ext m0 F0 H0 m F H) (h : H0 L = none) (f : F L = none) (o : HO) : Ext m0 F0 H0 m (upd F L o) H := by
  refine ⟨x.pre, x.same.trans (same_upd f o), x.keep, x.new, fun b z q => ?_, x.grow⟩
  by_cases hb : b = L
  · rw [hb]; exact .inr h
  · rw [upd_ne hb] at q; exact x.fnew b z q
end
def lcD (g : FG) (t : FT) (f : FE) (env : DEnv) : List D → Sto → Option (List D × Sto)
  | [], S => some ([], S)
  | x :: xs, S => (g x env S).bind fun p => (t p.1 p.2).bind fun b => if b.1 = true then (f p.1 b.2).bind fun y => (lcD g t f env xs y.2).bind fun r => some (y.1 :: r.1, r.2) else lcD g t f env xs b.2
def fLc (fi : FA) (g : FG) (t : FT) (f : FE) (vs : List Nat) : FE := fun env S => (fi env S).bind fun p => if p.1.length ≤ 1000000 then (lcD g t f (wipeD env vs) p.1 p.2).bind fun r => some (.lst r.1, r.2) else none
section
variable {ct : CT} {X : Cx}
theorem lc_run {fi : FA} {g : FG} {gt : FT} {fe : FE} {wi : TI} {own : List Nat} {m : List Addr} {F H : Hp} {S S' : Sto} {σ : L2.St} {env : DEnv} {d : D} {Q : VK}
    (ri : ∀ m F S σ H env items S' R, Sim X.K ct m F S H → EnvR X.K ct m F env σ → fi env S = some (items, S') → (∀ m' F' J H', Ext m F H m' F' H' → Sim X.K ct m' F' S' H' → ItOk ct X.K m' F' items J → R J H') → wi σ H R)
    (s : Sim X.K ct m F S H) (en : EnvR X.K ct m F env σ) (h : fLc fi g gt fe own env S = some (d, S')) (p : PostE ct X.K m F H S' d Q) :
    tLc wi (tGw ct X.K own g) (tT ct X.K gt) (tE ct X.K fe) own σ H Q := by
  obtain ⟨⟨items, S1⟩, h1, h⟩ := bind_some h
  split at h
  case isFalse => cases h
  rename_i hlen
  have hlen : items.length ≤ 1000000 := hlen
  obtain ⟨⟨out, S9⟩, h2, h⟩ := bind_some h
  cases h
  refine ri m F S σ H env items S1 _ s en h1 fun m1 F1 J H1 x1 s1 ok => fun L hL => ?_
  have nL1 : L ∉ m1 := fun hm => by
    obtain ⟨o, q⟩ := s1.there hm
    rw [hL] at q; cases q
  have fL1 : F1 L = none := by
    cases e : F1 L with
    | none => rfl
    | some o => rw [s1.same _ _ e] at hL; cases hL
  refine ⟨fun i k H' => k = items.length - i ∧ i ≤ items.length ∧ ∃ m' F' S2 accV accD rest, Ext m1 F1 H1 m' F' H' ∧ Sim X.K ct m' F' S2 H' ∧ H' L = some (.lst accV) ∧ L ∉ m' ∧ F' L = none ∧ Reps X.K ct m' F' accD accV ∧ accD.length ≤ i ∧
      lcD g gt fe (wipeD env own) (items.drop i) S2 = some (rest, S9) ∧ out = accD ++ rest,
    ⟨_, rfl, Nat.zero_le _, m1, F1, S1, [], [], out, (Ext.refl _ _ _).put hL _, s1.hidden nL1 fL1 _, upd_same, nL1, fL1, rfl, Nat.le_refl _, h2, rfl⟩, ?_⟩
  rintro i k H' ⟨rfl, hle, m', F', S2, accV, accD, rest, x', s', hH, nL, fL, rp, hal, hlc, eo⟩
  have en' : EnvR X.K ct m' F' (wipeD env own) (wipe σ own) := ((en.mono x1).mono x').wipe own
  have okk : (∀ d, items[i]? = some d → J.go i H' ∧ ∀ x H1, J.yld i H' x H1 → ∃ F1, Ext m' F' H' m' F1 H1 ∧ Sim X.K ct m' F1 S2 H1 ∧ Rep X.K ct m' F1 d x) ∧ (items.length = i → J.stop i H') := ok i m' F' S2 H' x'.e0 s'
  cases hd : items.drop i with
  | nil =>
    rw [hd] at hlc
    cases hlc
    have hl : items.length = i := by
      have := congrArg List.length hd
      simp at this
      omega
    refine .inl ⟨okk.2 hl, p m' (upd F' L (.lst accV)) (.ref L) H' (x1.trans (x'.freeze hL fL _)) (s'.freeze nL fL hH) ⟨L, accV, rfl, upd_same, ?_⟩⟩
    rw [eo, List.append_nil]
    exact Reps.mono' (fun _ _ q => q) (same_upd fL _) _ _ rp
  | cons a r =>
    rw [hd] at hlc
    obtain ⟨q1, q2⟩ := drop_cons hd
    have hlt : i < items.length := (List.getElem?_eq_some_iff.mp q1).1
    obtain ⟨go, yl⟩ := okk.1 a q1
    obtain ⟨⟨env1, S3⟩, h3, hlc⟩ := bind_some hlc
    obtain ⟨⟨b4, S4⟩, h4, hlc⟩ := bind_some hlc
    refine .inr ⟨go, fun H5 => ∃ m5 F5 S5 accV accD rest, Ext m1 F1 H1 m5 F5 H5 ∧ Sim X.K ct m5 F5 S5 H5 ∧ H5 L = some (.lst accV) ∧ L ∉ m5 ∧ F5 L = none ∧ Reps X.K ct m5 F5 accD accV ∧ accD.length ≤ i + 1 ∧
      lcD g gt fe (wipeD env own) (items.drop (i + 1)) S5 = some (rest, S9) ∧ out = accD ++ rest, fun H5 w => ⟨items.length - (i + 1), by omega, rfl, hlt, w⟩, fun x H5 y => ?_⟩
    obtain ⟨F5, x5, s5, r5⟩ := yl x H5 y
    obtain ⟨hH5, nL5, fL5⟩ := x5.hid hH nL fL
    refine ⟨m', F5, S2, wipeD env own, a, env1, S3, s5, en'.mono x5, r5, h3, fun m6 F6 σ6 H6 x6 s6 en6 w6 => ⟨by rw [w6]; exact wipe_idem, ?_⟩⟩
    obtain ⟨hH6, nL6, fL6⟩ := x6.hid hH5 nL5 fL5
    refine ⟨m6, F6, S3, env1, b4, S4, s6, en6, h4, fun m7 F7 H7 x7 s7 => ?_⟩
    obtain ⟨hH7, nL7, fL7⟩ := x7.hid hH6 nL6 fL6
    have xx : Ext m1 F1 H1 m7 F7 H7 := ((x'.trans x5).trans x6).trans x7
    have rp7 : Reps X.K ct m7 F7 accD accV := ((rp.mono x5).mono x6).mono x7
    cases b4 with
    | false =>
      refine iteF ⟨m7, F7, S4, accV, accD, rest, xx, s7, hH7, nL7, fL7, rp7, by omega, ?_, eo⟩
      rw [q2]
      exact hlc
    | true =>
      obtain ⟨⟨y8, S8⟩, h8, hlc⟩ := bind_some (show (fe env1 S4).bind _ = _ from hlc)
      obtain ⟨⟨r9, S10⟩, h9, hlc⟩ := bind_some hlc
      cases hlc
      refine iteT ⟨m7, F7, S4, env1, y8, S8, s7, en6.mono x7, h8, fun m8 F8 v8 H8 x8 s8 r8 => ?_⟩
      obtain ⟨hH8, nL8, fL8⟩ := x8.hid hH7 nL7 fL7
      refine ⟨accV, hH8, ?_, m8, F8, S8, accV ++ [v8], accD ++ [y8], r9, (xx.trans x8).put hL _, s8.hidden nL8 fL8 _, upd_same, nL8, fL8, (rp7.mono x8).snoc r8, by simp; omega, ?_, by rw [eo, List.append_assoc]; rfl⟩
      · rw [← rp.length, line_eq]
        omega
      · rw [q2]
        exact h9
theorem se_lc {elt tg iter : Expr} {ifs : List Expr} {scope : Scope} {own : List (Str × Nat)} {pos : Pos} {fi : FA} {g : FG} {gt : FT} {fe : FE} (hc : X.calm = true) (hN : X.N.Nodup) (hi : SI ct X tg iter fi) (ok : BlkOk X.N X.env.scope scope own)
    (hg : ∀ (s : Shared) (H : Hp) (C : Addr) (cl : List (Str × Addr)) (fp : List Addr), SGw ct (X.blk s H scope (compEnvC scope cl C X.env) fp) (own.map (·.2)) tg g) (ht : ∀ (s : Shared) (H : Hp) (C : Addr) (cl : List (Str × Addr)) (fp : List Addr), STs ct (X.blk s H scope (compEnvC scope cl C X.env) fp) ifs gt)
    (he : ∀ (s : Shared) (H : Hp) (C : Addr) (cl : List (Str × Addr)) (fp : List Addr), SE ct (X.blk s H scope (compEnvC scope cl C X.env) fp) elt fe) (hs : ∀ x, foldedSetIterable iter X.env x = pure x := by intro _; rfl) :
    SE ct X (.ListComp elt [⟨tg, iter, ifs, 0⟩] scope pos) (fLc fi g gt fe (own.map (·.2))) := by
  obtain ⟨wi, pi, ri⟩ := hi
  exact ⟨_, pe_lc (g := tGw ct X.K (own.map (·.2)) g) (tt := tT ct X.K gt) (te := tE ct X.K fe) hc hN pi ok (fun s H C cl fp => (hg s H C cl fp).pg) (fun s H C cl fp => (ht s H C cl fp).pt) (fun s H C cl fp => (he s H C cl fp).pe) hs, fun m F S σ H env d S' Q s en h p => lc_run ri s en h p⟩
theorem ss_setLc {i : Nat} {y : Str} {py : Pos} {elt tg iter : Expr} {ifs : List Expr} {scope : Scope} {own : List (Str × Nat)} {pos spos : Pos} {fi : FA} {g : FG} {gt : FT} {fe : FE} (hc : X.calm = true) (hN : X.N.Nodup) (hy : X.N[i]? = some y) (hyl : X.env.scope.names.lookup y = some .local)
    (hsw : swapsWith (.ListComp elt [⟨tg, iter, ifs, 0⟩] scope pos) (some (.Name y py)) spos.line X.env = pure true) (hi : SI ct X tg iter fi) (ok : BlkOk X.N X.env.scope scope own)
    (hg : ∀ (s : Shared) (H : Hp) (C : Addr) (cl : List (Str × Addr)) (fp : List Addr), SGw ct (X.blk s H scope (compEnvC scope cl C X.env) fp) (own.map (·.2)) tg g) (ht : ∀ (s : Shared) (H : Hp) (C : Addr) (cl : List (Str × Addr)) (fp : List Addr), STs ct (X.blk s H scope (compEnvC scope cl C X.env) fp) ifs gt)
    (he : ∀ (s : Shared) (H : Hp) (C : Addr) (cl : List (Str × Addr)) (fp : List Addr), SE ct (X.blk s H scope (compEnvC scope cl C X.env) fp) elt fe) (hs : ∀ x, foldedSetIterable iter X.env x = pure x := by intro _; rfl) :
    SS ct X (.Assign [.Name y py] (.ListComp elt [⟨tg, iter, ifs, 0⟩] scope pos) spos) (sAsg (fLc fi g gt fe (own.map (·.2))) (gN i)) := by
  obtain ⟨wi, pi, ri⟩ := hi
  refine ⟨_, ps_setLc (g := tGw ct X.K (own.map (·.2)) g) (tt := tT ct X.K gt) (te := tE ct X.K fe) hc hN hy hyl hsw pi ok (fun s H C cl fp => (hg s H C cl fp).pg) (fun s H C cl fp => (ht s H C cl fp).pt) (fun s H C cl fp => (he s H C cl fp).pe) hs, fun m F S σ H env fl S' E s en h p => ?_⟩
  obtain ⟨⟨x, S1⟩, h1, h⟩ := bind_some h
  cases h
  exact lc_run ri s en h1 fun m1 F1 v1 H1 x1 s1 r1 => p m1 F1 _ H1 x1 s1 ((en.mono x1).set i r1)
end
end DL
namespace DL
open PySem PySem.Spec PyProof.Rows L2
def valA {α : Type} (kvs : List (Key × α)) (k : Key) : Option α := (kvs.find? fun kv => decide (kv.1 = k)).map (·.2)
def putA {α : Type} (kvs : List (Key × α)) (k : Key) (v : α) : List (Key × α) :=
  if (kvs.any fun kv => decide (kv.1 = k)) = true then kvs.map fun kv => if kv.1 = k then (kv.1, v) else kv else kvs ++ [(k, v)]
def toKey : D → Option Key
  | .int i => some (.inl i)
  | .str x => some (.inr x)
  | _ => none
section
variable {ct : CT} {K : PySem.W.Frag} {m : List Addr} {F : Hp}
abbrev PR (K : PySem.W.Frag) (ct : CT) (m : List Addr) (F : Hp) : List (Key × D) → List (Key × V) → Prop := Paired fun (p : Key × D) (q : Key × V) => p.1 = q.1 ∧ Rep K ct m F p.2 q.2
theorem Rep.key {d : D} {v : V} {k : Key} (r : Rep K ct m F d v) (h : toKey d = some k) : v = kV k := by
  cases d with
  | int i => cases h; exact r
  | str x => cases h; exact r
  | _ => cases h
theorem PR.any {kvs : List (Key × D)} {us : List (Key × V)} (r : PR K ct m F kvs us) (k : Key) : (kvs.any fun kv => decide (kv.1 = k)) = us.any fun kv => decide (kv.1 = k) := by
  induction r with
  | nil => rfl
  | cons h _ ih => simp only [List.any_cons, ih, h.1]
theorem PR.val {kvs : List (Key × D)} {us : List (Key × V)} (r : PR K ct m F kvs us) (k : Key) : (∀ d, valA kvs k = some d → ∃ v, valV us k = some v ∧ Rep K ct m F d v) ∧ (valA kvs k = none → valV us k = none) := by
  induction r with
  | nil => exact ⟨fun d h => (by cases h), fun _ => rfl⟩
  | @cons p q l1 l2 h t ih =>
    by_cases e : p.1 = k
    · have e' : q.1 = k := h.1 ▸ e
      refine ⟨fun d hd => ⟨q.2, valV_pos e', ?_⟩, fun hd => ?_⟩
      · simp [valA, List.find?_cons, e] at hd
        subst hd
        exact h.2
      · simp [valA, List.find?_cons, e] at hd
    · have e' : ¬ q.1 = k := h.1 ▸ e
      have e2 : valA (p :: l1) k = valA l1 k := by simp [valA, List.find?_cons, e]
      rw [e2, valV_neg e']
      exact ih
theorem PR.repl {kvs : List (Key × D)} {us : List (Key × V)} (r : PR K ct m F kvs us) (k : Key) {d : D} {v : V} (rv : Rep K ct m F d v) : PR K ct m F (kvs.map fun kv => if kv.1 = k then (kv.1, d) else kv) (us.map fun kv => if kv.1 = k then (kv.1, v) else kv) := by
  induction r with
  | nil => exact .nil
  | @cons p q l1 l2 h t ih =>
    refine .cons ?_ ih
    by_cases e : p.1 = k
    · have e' : q.1 = k := h.1 ▸ e
      dsimp only
      rw [if_pos e, if_pos e']
      exact ⟨h.1, rv⟩
    · have e' : ¬ q.1 = k := h.1 ▸ e
      dsimp only
      rw [if_neg e, if_neg e']
      exact h
theorem PR.put {kvs : List (Key × D)} {us : List (Key × V)} (r : PR K ct m F kvs us) (k : Key) {d : D} {v : V} (rv : Rep K ct m F d v) : PR K ct m F (putA kvs k d) (putK us k v) := by
  unfold putA putK
  rw [PR.any r k]
  split
  · exact PR.repl r k rv
  · exact Paired.snoc r ⟨rfl, rv⟩
theorem PR.length {kvs : List (Key × D)} {us : List (Key × V)} (r : PR K ct m F kvs us) : kvs.length = us.length := Paired.length r
end
section
variable {ct : CT} {X : Cx} {a b c e o : Expr} {es : List Expr} {fa fb fc f : FE} {fas : FA}
/-- o[k] = v: a list's or a dict's cell -/
def gSetA : D → D → D → Sto → Option Sto
  | .ref k, i, v, S => match S[k]? with
    | some (.lst ds) => match i with
      | .int i => (ixN ds.length i).map fun j => S.set k (.lst (ds.set j v))
      | _ => none
    | some (.dct kvs) => if kvs.length ≤ 1000000 then (toKey i).map fun x => S.set k (.dct (putA kvs x v)) else none
    | _ => none
  | _, _, _, _ => none
def rSetA : TSet := fun o i v H Q => rSetL o i v H Q ∨ ∃ a H', o = .ref a ∧ DPut H a i v H' ∧ Q H'
theorem set_all {k : Nat} (hr : RoomG k X.A) : PSet X rSetA := by
  intro pins s σ H o i v ov iv u Q I r1 r2 r3 h
  rcases h with h | ⟨a, H', rfl, h, q⟩
  · exact set_list pins s σ H o i v ov iv u Q I r1 r2 r3 h
  · cases (show ov = Value.ref a from r1)
    exact d_setItem (hu_of hr.room) I h r2 r3 fun s' I' => ⟨H', I', q⟩
theorem sd_all {K : PySem.W.Frag} : SetD ct K rSetA gSetA := by
  intro m F S H o i v d1 d2 d3 S' Q s r1 r2 r3 h q
  cases d1 with
  | ref k =>
    obtain ⟨a, e1, e2⟩ := r1
    obtain ⟨c, hc, cr⟩ := s.at e1
    cases c with
    | lst ds =>
      cases d2 with
      | int j0 =>
        have h : (ixN ds.length j0).map (fun j => S.set k (.lst (ds.set j d3))) = some S' := by simpa only [gSetA, hc] using h
        obtain ⟨j, h1, h2⟩ := map_some h
        subst h2
        obtain ⟨vs, q1, q2⟩ := cr
        obtain ⟨s2, x2⟩ := s.change e1 (o := .lst (vs.set j v)) (c := .lst (ds.set j d3)) ⟨_, rfl, q2.set j r3⟩
        exact .inl ⟨a, vs, _, j, e2, r2, q1, by rw [← q2.length]; exact h1, q _ _ _ x2 s2⟩
      | _ => simp [gSetA, hc] at h
    | dct kvs =>
      have h : (if kvs.length ≤ 1000000 then (toKey d2).map (fun x => S.set k (.dct (putA kvs x d3))) else none) = some S' := by
        simpa only [gSetA, hc] using h
      split at h
      · rename_i hl
        obtain ⟨x, h1, h2⟩ := map_some h
        subst h2
        obtain ⟨us, q1, q2⟩ := cr
        have ek := r2.key h1
        subst ek
        obtain ⟨s2, x2⟩ := s.change e1 (o := .dK (putK us x v)) (c := .dct (putA kvs x d3)) ⟨_, rfl, PR.put q2 x r3⟩
        exact .inr ⟨a, _, e2, DPut.k q1 (by rw [← PR.length q2, line_eq]; omega), q _ _ _ x2 s2⟩
      · cases h
    | ins _ _ _ => simp [gSetA, hc] at h
    | tab _ =>
      simp [gSetA, hc] at h
    | nd _ => simp [gSetA, hc] at h
  | _ => cases h
/-- {'a': e, ..}: written text keys -/
def SDs (ct : CT) (X : Cx) (pos : Pos) (keys : List (Option Expr)) (values : List Expr) (ks : List Str) (f : FA) : Prop := ∃ trs, PPs X pos keys values trs ∧ ∀ m F S σ H env ds S' Q, Sim X.K ct m F S H → EnvR X.K ct m F env σ → f env S = some (ds, S') →
  (∀ m' F' vs H', Ext m F H m' F' H' → Sim X.K ct m' F' S' H' → Reps X.K ct m' F' ds vs → ds.length = ks.length → Q ((ks.map V.str).zip vs) H') → tPairs trs σ H Q
theorem sds_nil {pos : Pos} : SDs ct X pos [] [] [] fNil := ⟨_, pps_nil, fun m F S σ H env ds S' Q s en h p => by
  cases h
  exact p m F [] H (Ext.refl _ _ _) s rfl rfl⟩
theorem sds_cons {pos kp : Pos} {k : Str} {j : Nat} {keys : List (Option Expr)} {values : List Expr} {ks : List Str} (he : SE ct X e f) (hr : SDs ct X pos keys values ks fas) : SDs ct X pos (some (.Constant (.str k) j kp) :: keys) (e :: values) (k :: ks) (fCons f fas) := by
  obtain ⟨ta, pa, ra⟩ := he
  obtain ⟨tb, pb, rb⟩ := hr
  refine ⟨_, pps_cons pe_str pa pb, fun m F S σ H env d S' Q s en h p => ?_⟩
  obtain ⟨⟨x, S1⟩, h1, h⟩ := bind_some h
  obtain ⟨⟨ys, S2⟩, h2, h⟩ := bind_some h
  cases h
  refine ra m F S σ H env x S1 _ s en h1 fun m1 F1 v1 H1 x1 s1 r1 => ?_
  refine rb m1 F1 S1 σ H1 env ys S2 _ s1 (en.mono x1) h2 fun m2 F2 v2 H2 x2 s2 r2 hl => ?_
  exact p m2 F2 (v1 :: v2) H2 (x1.trans x2) s2 ⟨v1, v2, rfl, r1.mono x2, r2⟩ (by simp [hl])
theorem merge_nodup : ∀ (more kvs : List (Key × V)), (more.map (·.1)).Nodup → (∀ k ∈ more.map (·.1), valV kvs k = none) → mergeK kvs more = kvs ++ more
  | [], kvs, _, _ => by simp [mergeK]
  | p :: more, kvs, h, hn => by
    have e : putK kvs p.1 p.2 = kvs ++ [p] := putK_new p.2 (hn p.1 (by simp))
    show mergeK (putK kvs p.1 p.2) more = _
    rw [e, merge_nodup more (kvs ++ [p]) (List.nodup_cons.mp h).2, List.append_assoc]
    · rfl
    · intro k hk
      have h1 : k ≠ p.1 := fun q => by
        subst q
        exact (List.nodup_cons.mp h).1 hk
      rw [valV_snoc p.1 k p.2 kvs (hn p.1 (by simp)), if_neg h1]
      exact hn k (by simp [List.mem_map] at hk ⊢; exact .inr hk)
theorem zip_PR {K : PySem.W.Frag} {m : List Addr} {F : Hp} : ∀ {ks : List Key} {ds : List D} {vs : List V}, Reps K ct m F ds vs → PR K ct m F (ks.zip ds) (ks.zip vs)
  | [], _, _, _ => .nil
  | k :: ks, [], _, r => by
    have r : _ = _ := r
    subst r
    exact .nil
  | k :: ks, d :: ds, _, r => by
    obtain ⟨v, vr, e1, e2, e3⟩ := r
    subst e1
    exact .cons ⟨rfl, e2⟩ (zip_PR e3)
theorem zip_kV : ∀ (ks : List Str) (vs : List V), (ks.map V.str).zip vs = (((ks.map Sum.inr : List Key)).zip vs).map fun kv => (kV kv.1, kv.2)
  | [], _ => rfl
  | _ :: _, [] => rfl
  | k :: ks, v :: vs => by
    simp only [List.map_cons, List.zip_cons_cons, zip_kV ks vs]
    rfl
theorem nodup_inr : ∀ {ks : List Str}, ks.Nodup → (ks.map Sum.inr : List Key).Nodup
  | [], _ => by simp
  | k :: ks, h => by
    simp only [List.map_cons, List.nodup_cons]
    refine ⟨fun q => ?_, nodup_inr (List.nodup_cons.mp h).2⟩
    obtain ⟨z, z1, z2⟩ := List.mem_map.mp q
    cases z2
    exact (List.nodup_cons.mp h).1 z1
end
end DL
namespace DL
open PySem PySem.Spec PyProof.Rows L2
section
variable {ct : CT} {X : Cx} {a b c e o k x : Expr} {es : List Expr} {fa fb fc f fd fk fx : FE} {fas : FA}
def kvsOf (d : D) (S : Sto) : Option (List (Key × D)) := match d with
  | .ref i => match S[i]? with
    | some (.dct kvs) => some kvs
    | _ => none
  | .dct ks ds => some (ks.zip ds)
  | _ => none
theorem kvs_at {K : PySem.W.Frag} {m : List Addr} {F H : Hp} {S : Sto} {d : D} {v : V} {kvs : List (Key × D)} (s : Sim K ct m F S H) (r : Rep K ct m F d v) (h : kvsOf d S = some kvs) : ∃ a us, v = .ref a ∧ H a = some (.dK us) ∧ PR K ct m F kvs us := by
  cases d with
  | ref i =>
    obtain ⟨a, e1, e2⟩ := r
    obtain ⟨c, hc, cr⟩ := s.at e1
    cases c with
    | dct kvs' =>
      simp only [kvsOf, hc] at h
      cases h
      obtain ⟨us, q1, q2⟩ := cr
      exact ⟨a, us, e2, q1, q2⟩
    | lst _ => simp [kvsOf, hc] at h
    | ins _ _ _ => simp [kvsOf, hc] at h
    | tab _ => simp [kvsOf, hc] at h
    | nd _ => simp [kvsOf, hc] at h
  | dct ks ds =>
    cases h
    obtain ⟨a, vs, e1, e2, e3, e4⟩ := r
    exact ⟨a, _, e1, s.same _ _ e2, zip_PR e4⟩
  | _ => cases h
structure KD (K : PySem.W.Frag) (w : World) (a : Addr) (tab : List (Str × Int)) : Prop where
  es : ∃ es n, KDict K w a es n
  val : ∀ z, ∃ r, PySem.W.nsIn K a z = some r ∧ RelO ((tab.lookup z).map V.int) r
def fKIn (neg : Bool) (tab : List (Str × Int)) (f : FE) : FE := fun env S => (f env S).bind fun p => match p.1 with
  | .str z => some (.bl (if neg then !(tab.lookup z).isSome else (tab.lookup z).isSome), p.2)
  | _ => none
variable {g : Addr} {tab : List (Str × Int)} {n : Str}
theorem relO_isSome {o : Option V} {u : Option Value} (r : RelO o u) : u.isSome = o.isSome := by
  cases o <;> cases u <;> first | rfl | exact r.elim
theorem st_kin {p pos : Pos} (d : KD X.K X.w g tab) (hg : Gl X n) (hm : X.mg n = some (.ref g)) (he : SE ct X e f) (hd : (n == ("__debug__" : Str)) = false := by decide) : ST ct X (.Compare e [.In] [.Name n p] pos) (fTest (fKIn false tab f)) := by
  obtain ⟨ta, pa, ra⟩ := he
  obtain ⟨es, k, kd⟩ := d.es
  refine ⟨_, pt_cmpR (op_in_kd kd) pa (pe_glob (v := .ref g) hg hm rfl hd) rfl, fun m F S σ H env d' S' Q s en h p => ?_⟩
  obtain ⟨⟨x, S2⟩, h2, h⟩ := bind_some h
  obtain ⟨⟨z, S1⟩, h1, h2⟩ := bind_some h2
  refine ra m F S σ H env z S1 _ s en h1 fun m1 F1 v1 H1 x1 s1 r1 => ?_
  cases z with
  | str z =>
    cases h2
    cases h
    obtain ⟨r, q1, q2⟩ := d.val z
    refine ⟨z, r, r1, rfl, q1, _, rfl, ?_⟩
    rw [relO_isSome q2, Option.isSome_map]
    exact p m1 F1 H1 x1 s1
  | _ => cases h2
theorem st_knotin {p pos : Pos} (d : KD X.K X.w g tab) (hg : Gl X n) (hm : X.mg n = some (.ref g)) (he : SE ct X e f) (hd : (n == ("__debug__" : Str)) = false := by decide) : ST ct X (.Compare e [.NotIn] [.Name n p] pos) (fTest (fKIn true tab f)) := by
  obtain ⟨ta, pa, ra⟩ := he
  obtain ⟨es, k, kd⟩ := d.es
  refine ⟨_, pt_cmpR (op_notIn_kd kd) pa (pe_glob (v := .ref g) hg hm rfl hd) rfl, fun m F S σ H env d' S' Q s en h p => ?_⟩
  obtain ⟨⟨x, S2⟩, h2, h⟩ := bind_some h
  obtain ⟨⟨z, S1⟩, h1, h2⟩ := bind_some h2
  refine ra m F S σ H env z S1 _ s en h1 fun m1 F1 v1 H1 x1 s1 r1 => ?_
  cases z with
  | str z =>
    cases h2
    cases h
    obtain ⟨r, q1, q2⟩ := d.val z
    refine ⟨z, r, r1, rfl, q1, _, rfl, ?_⟩
    rw [relO_isSome q2, Option.isSome_map]
    exact p m1 F1 H1 x1 s1
  | _ => cases h2
def fKIx (tab : List (Str × Int)) (f : FE) : FE := fun env S => (f env S).bind fun p => match p.1 with
  | .str z => (tab.lookup z).map fun i => (.int i, p.2)
  | _ => none
theorem se_kix {p pos : Pos} (d : KD X.K X.w g tab) (hg : Gl X n) (hm : X.mg n = some (.ref g)) (he : SE ct X e f) (hs : PlainIx e) (hd : (n == ("__debug__" : Str)) = false := by decide) : SE ct X (.Subscript (.Name n p) e pos) (fKIx tab f) := by
  obtain ⟨ta, pa, ra⟩ := he
  obtain ⟨es, k, kd⟩ := d.es
  refine ⟨_, pe_ix ix_kdict (pe_glob (v := .ref g) hg hm rfl hd) pa hs, fun m F S σ H env d' S' Q s en h p => ?_⟩
  obtain ⟨⟨z, S1⟩, h1, h⟩ := bind_some h
  refine ra m F S σ H env z S1 _ s en h1 fun m1 F1 v1 H1 x1 s1 r1 => ?_
  cases z with
  | str z =>
    obtain ⟨i, h2, h3⟩ := map_some (show (tab.lookup z).map _ = _ from h)
    cases h3
    obtain ⟨r, q1, q2⟩ := d.val z
    rw [h2] at q2
    obtain ⟨u, q3, q4⟩ := RelO.some_of q2
    subst q3
    exact ⟨g, z, .int i, rfl, r1, ⟨es, k, u, kd.at_, kd.lit, q1, q4⟩, (p.ext x1).now s1 rfl⟩
  | _ => cases h
def fAppend (fo fe : FE) : FE := fun env S => (fo env S).bind fun p => match p.1 with
  | .ref k => match p.2[k]? with
    | some (.lst _) => (fe env p.2).bind fun q => match q.2[k]? with
      | some (.lst ds) => if ds.length ≤ 1000000 then some (.non, q.2.set k (.lst (ds ++ [q.1]))) else none
      | _ => none
    | _ => none
  | _ => none
theorem se_append {apos cpos : Pos} {fo fe : FE} (ho : SE ct X o fo) (he : SE ct X e fe) (hbase : attributeBase o "append" X.env (eval o X.env) = eval o X.env := by rfl)
    (hfew : ((backTo cpos (starEach [e] X.env)).all (fun x => !x.1) && (backToKw cpos (keywordEach [] X.env)).all (fun x => x.1.isSome)
      && decide (([e] : List Expr).length + ([] : List Keyword).length + (if ([] : List Keyword).isEmpty then 0 else 1) < 30)) = true := by rfl)
    (hline : (apos.endLine == cpos.line) = true := by rfl) (hs : starEach [e] X.env = (false, eval e X.env) :: starEach [] X.env := by rfl) (hplain : (backTo cpos (starEach [] X.env)).any (·.1) = false := by rfl) :
    SE ct X (.Call (.Attribute o "append" apos) [e] [] cpos) (fAppend fo fe) := by
  obtain ⟨ta, pa, ra⟩ := ho
  obtain ⟨tb, pb, rb⟩ := he
  refine ⟨_, pe_bm PySem.F.plainAttrs_list PySem.F.slot_list_append PySem.F.type_list_append mt_append pa (pa_cons pb pa_nil hs) hbase hfew hline hs hplain, fun m F S σ H env d S' Q s en h p => ?_⟩
  obtain ⟨⟨z, S1⟩, h1, h⟩ := bind_some h
  refine ra m F S σ H env z S1 _ s en h1 fun m1 F1 v1 H1 x1 s1 r1 => ?_
  cases z with
  | ref k =>
    obtain ⟨a, e1, e2⟩ := id r1
    obtain ⟨c1, hc1, cr1⟩ := s1.at e1
    subst e2
    cases c1 with
    | lst ds1 =>
      obtain ⟨vs1, g1, g2⟩ := cr1
      have h : (fe env S1).bind (fun q => match q.2[k]? with
        | some (.lst ds) => if ds.length ≤ 1000000 then some (D.non, q.2.set k (.lst (ds ++ [q.1]))) else none
        | _ => none) = some (d, S') := by simpa only [hc1] using h
      obtain ⟨⟨w, S2⟩, h2, h⟩ := bind_some h
      refine ⟨.inl ⟨rfl, _, SqL.of g1⟩, rb m1 F1 S1 σ H1 env w S2 _ s1 (en.mono x1) h2 fun m2 F2 v2 H2 x2 s2 r2 => ?_⟩
      have e3 := x2.pre _ _ e1
      obtain ⟨c2, hc2, cr2⟩ := s2.at e3
      cases c2 with
      | lst ds2 =>
        have h : (if ds2.length ≤ 1000000 then some (D.non, S2.set k (.lst (ds2 ++ [w]))) else none) = some (d, S') := by simpa only [hc2] using h
        split at h
        · rename_i hl
          cases h
          obtain ⟨vs2, g3, g4⟩ := cr2
          obtain ⟨s3, x3⟩ := s2.change e3 (o := .lst (vs2 ++ [v2])) (c := .lst (ds2 ++ [w])) ⟨_, rfl, g4.snoc r2⟩
          exact ⟨a, vs2, v2, rfl, rfl, g3, by rw [← g4.length, line_eq]; omega, p _ _ .non _ ((x1.trans x2).trans x3) s3 rfl⟩
        · cases h
      | dct _ => simp [hc2] at h
      | ins _ _ _ => simp [hc2] at h
      | tab _ => simp [hc2] at h
      | nd _ => simp [hc2] at h
    | dct _ => simp [hc1] at h
    | ins _ _ _ => simp [hc1] at h
    | tab _ => simp [hc1] at h
    | nd _ => simp [hc1] at h
  | _ => cases h
end
mutual
def noRef : D → Bool
  | .ref _ => false
  | .tup ds => noRefs ds
  | .lst ds => noRefs ds
  | .dct _ ds => noRefs ds
  | .obj _ _ ds => noRefs ds
  | .exc _ _ ds => noRefs ds
  | _ => true
def noRefs : List D → Bool
  | [] => true
  | d :: ds => noRef d && noRefs ds
end
section
variable {K : PySem.W.Frag} {ct : CT}
mutual
theorem Rep.noref {m m' : List Addr} {F : Hp} : ∀ (d : D) (v : V), noRef d = true → Rep K ct m F d v → Rep K ct m' F d v
  | .non, _, _, h => h
  | .bl _, _, _, h => h
  | .int _, _, _, h => h
  | .str _, _, _, h => h
  | .scr _, _, _, h => h
  | .tup ds, _, n, h => by
    obtain ⟨a, vs, e1, e2, e3⟩ := h
    exact ⟨a, vs, e1, e2, Reps.noref ds vs n e3⟩
  | .lst ds, _, n, h => by
    obtain ⟨a, vs, e1, e2, e3⟩ := h
    exact ⟨a, vs, e1, e2, Reps.noref ds vs n e3⟩
  | .dct ks ds, _, n, h => by
    obtain ⟨a, vs, e1, e2, e4, e3⟩ := h
    exact ⟨a, vs, e1, e2, e4, Reps.noref ds vs n e3⟩
  | .ref i, _, n, h => by cases n
  | .obj c fs ds, _, n, h => by
    obtain ⟨a, C, dx, vs, e1, e2, e4, e5, e3⟩ := h
    exact ⟨a, C, dx, vs, e1, e2, e4, e5, Reps.noref ds vs n e3⟩
  | .exc c fs ds, _, n, h => by
    obtain ⟨a, C, dx, vs, e1, e2, e4, e6, e5, e3⟩ := h
    exact ⟨a, C, dx, vs, e1, e2, e4, e6, e5, Reps.noref ds vs n e3⟩
  | .typ c, _, n, h => h
theorem Reps.noref {m m' : List Addr} {F : Hp} : ∀ (ds : List D) (vs : List V), noRefs ds = true → Reps K ct m F ds vs → Reps K ct m' F ds vs
  | [], _, _, h => h
  | d :: ds, _, n, h => by
    obtain ⟨v, r, e1, e2, e3⟩ := h
    have n : (noRef d && noRefs ds) = true := n
    simp only [Bool.and_eq_true] at n
    exact ⟨v, r, e1, Rep.noref d v n.1 e2, Reps.noref ds r n.2 e3⟩
end
mutual
theorem Rep.back {m m' : List Addr} {F F' : Hp} (hp : ∀ (i : Nat) (a : Addr), m[i]? = some a → m'[i]? = some a) : ∀ (d : D) (v0 v : V), Rep K ct m F d v0 → Rep K ct m' F' d v → Rep K ct m F' d v
  | .non, _, _, _, h => h
  | .bl _, _, _, _, h => h
  | .int _, _, _, _, h => h
  | .str _, _, _, _, h => h
  | .scr _, _, _, _, h => h
  | .tup ds, _, _, h0, h => by
    obtain ⟨a, vs, e1, e2, e3⟩ := h
    obtain ⟨_, vs0, _, _, e0⟩ := h0
    exact ⟨a, vs, e1, e2, Reps.back hp ds vs0 vs e0 e3⟩
  | .lst ds, _, _, h0, h => by
    obtain ⟨a, vs, e1, e2, e3⟩ := h
    obtain ⟨_, vs0, _, _, e0⟩ := h0
    exact ⟨a, vs, e1, e2, Reps.back hp ds vs0 vs e0 e3⟩
  | .dct ks ds, _, _, h0, h => by
    obtain ⟨a, vs, e1, e2, e4, e3⟩ := h
    obtain ⟨_, vs0, _, _, _, e0⟩ := h0
    exact ⟨a, vs, e1, e2, e4, Reps.back hp ds vs0 vs e0 e3⟩
  | .ref i, _, _, h0, h => by
    obtain ⟨a0, q1, q2⟩ := h0
    obtain ⟨a, q3, q4⟩ := h
    rw [hp i a0 q1] at q3
    cases q3
    exact ⟨a0, q1, q4⟩
  | .obj c fs ds, _, _, h0, h => by
    obtain ⟨a, C, dx, vs, e1, e2, e4, e5, e3⟩ := h
    obtain ⟨_, _, _, vs0, _, _, _, _, e0⟩ := h0
    exact ⟨a, C, dx, vs, e1, e2, e4, e5, Reps.back hp ds vs0 vs e0 e3⟩
  | .exc c fs ds, _, _, h0, h => by
    obtain ⟨a, C, dx, vs, e1, e2, e4, e6, e5, e3⟩ := h
    obtain ⟨_, _, _, vs0, _, _, _, _, _, e0⟩ := h0
    exact ⟨a, C, dx, vs, e1, e2, e4, e6, e5, Reps.back hp ds vs0 vs e0 e3⟩
  | .typ c, _, _, h0, h => h
theorem Reps.back {m m' : List Addr} {F F' : Hp} (hp : ∀ (i : Nat) (a : Addr), m[i]? = some a → m'[i]? = some a) : ∀ (ds : List D) (vs0 vs : List V), Reps K ct m F ds vs0 → Reps K ct m' F' ds vs → Reps K ct m F' ds vs
  | [], _, _, _, h => h
  | d :: ds, _, _, h0, h => by
    obtain ⟨v, r, e1, e2, e3⟩ := h
    obtain ⟨v0, r0, _, g2, g3⟩ := h0
    exact ⟨v, r, e1, Rep.back hp d v0 v g2 e2, Reps.back hp ds r0 r g3 e3⟩
end
def cellFree : Cell → Bool
  | .lst ds => noRefs ds
  | .dct kvs => kvs.all fun kv => noRef kv.2
  | .ins _ _ ds => noRefs ds
  | .tab _ => true
  | .nd kvs => kvs.all fun kv => noRef kv.2
theorem CellR.noref {m m' : List Addr} {F : Hp} {o : Option HO} {c : Cell} (n : cellFree c = true) (h : CellR K ct m F o c) : CellR K ct m' F o c := by
  cases c with
  | lst ds => obtain ⟨vs, e1, e2⟩ := h; exact ⟨vs, e1, Reps.noref _ _ n e2⟩
  | dct kvs =>
    obtain ⟨us, e1, e2⟩ := h
    refine ⟨us, e1, ?_⟩
    replace n : (kvs.all fun kv => noRef kv.2) = true := n
    clear e1
    induction e2 with
    | nil => exact .nil
    | cons hh _ ih =>
      simp only [List.all_cons, Bool.and_eq_true] at n
      exact .cons ⟨hh.1, Rep.noref _ _ n.1 hh.2⟩ (ih n.2)
  | ins c fs ds => obtain ⟨C, dx, vs, e1, e4, e3, e2⟩ := h; exact ⟨C, dx, vs, e1, e4, e3, Reps.noref _ _ n e2⟩
  | tab q => exact h
  | nd kvs =>
    obtain ⟨w, b, xs, e1, e2⟩ := h
    refine ⟨w, b, xs, e1, ?_⟩
    replace n : (kvs.all fun kv => noRef kv.2) = true := n
    clear e1
    induction e2 with
    | nil => exact .nil
    | cons hh _ ih =>
      simp only [List.all_cons, Bool.and_eq_true] at n
      obtain ⟨z1, z2, v, z5, z6⟩ := hh
      exact .cons ⟨z1, z2, v, z5, Rep.noref _ _ n.1 z6⟩ (ih n.2)
theorem CellR.back {m m' : List Addr} {F F' : Hp} (hp : ∀ (i : Nat) (a : Addr), m[i]? = some a → m'[i]? = some a) {o o0 : Option HO} {c : Cell} (h0 : CellR K ct m F o0 c) (h : CellR K ct m' F' o c) : CellR K ct m F' o c := by
  cases c with
  | lst ds =>
    obtain ⟨vs, e1, e2⟩ := h
    obtain ⟨vs0, _, e0⟩ := h0
    exact ⟨vs, e1, Reps.back hp _ _ _ e0 e2⟩
  | dct kvs =>
    obtain ⟨us, e1, e2⟩ := h
    obtain ⟨us0, z0, e0⟩ := h0
    refine ⟨us, e1, ?_⟩
    clear e1 z0
    induction e2 generalizing us0 with
    | nil => exact .nil
    | cons hh _ ih =>
      cases e0 with
      | cons g0 g1 => exact .cons ⟨hh.1, Rep.back hp _ _ _ g0.2 hh.2⟩ (ih _ g1)
  | ins c fs ds =>
    obtain ⟨C, dx, vs, e1, e4, e3, e2⟩ := h
    obtain ⟨_, _, vs0, _, _, _, e0⟩ := h0
    exact ⟨C, dx, vs, e1, e4, e3, Reps.back hp _ _ _ e0 e2⟩
  | tab q => exact h
  | nd kvs =>
    obtain ⟨w, b, xs, e1, e2⟩ := h
    obtain ⟨w0, b0, xs0, z0, e0⟩ := h0
    refine ⟨w, b, xs, e1, ?_⟩
    clear e1 z0
    induction e2 generalizing xs0 with
    | nil => exact .nil
    | cons hh _ ih =>
      cases e0 with
      | cons g0 g1 =>
        obtain ⟨z1, z2, v, z5, z6⟩ := hh
        obtain ⟨_, _, v0, _, z60⟩ := g0
        exact .cons ⟨z1, z2, v, z5, Rep.back hp _ _ _ z60 z6⟩ (ih _ g1)
/-- the cells of S, as they stand now: unchanged, or without references -/
def Old (S S1 : Sto) : Prop := S1.length = S.length ∧ ∀ (i : Nat) (c : Cell), S1[i]? = some c → S[i]? = some c ∨ cellFree c = true
theorem Old.refl (S : Sto) : Old S S := ⟨rfl, fun _ _ h => .inl h⟩
theorem drop_sim {m m' : List Addr} {F F' H H' : Hp} {S S1 more : Sto} (ho : Old S S1) (s : Sim K ct m F S H) (x : Ext m F H m' F' H') (s' : Sim K ct m' F' (S1 ++ more) H') :
    Sim K ct (m'.take S1.length) F' S1 H' ∧ Ext m F H (m'.take S1.length) F' H' := by
  have hl := s'.len
  rw [List.length_append] at hl
  have sub : ∀ a ∈ m'.take S1.length, a ∈ m' := fun a h => List.mem_of_mem_take h
  have hml : m.length = S1.length := by rw [s.len, ho.1]
  have pre : ∀ (i : Nat) (a : Addr), m[i]? = some a → (m'.take S1.length)[i]? = some a := fun i a h => by
    have hi : i < m.length := (List.getElem?_eq_some_iff.mp h).1
    rw [List.getElem?_take_of_lt (by omega)]
    exact x.pre i a h
  have eqm : m = m'.take S1.length := by
    apply List.ext_getElem?
    intro i
    by_cases hi : i < m.length
    · have h1 : m[i]? = some m[i] := List.getElem?_eq_getElem hi
      rw [h1, pre i _ h1]
    · rw [List.getElem?_eq_none (by omega), List.getElem?_eq_none (by rw [List.length_take]; omega)]
  refine ⟨⟨s'.same, by rw [List.length_take]; omega, s'.nd.sublist (List.take_sublist _ _), fun a h => s'.off a (sub a h), fun i a c h1 h2 => ?_, fun i a c q h1 h2 h3 => ?_⟩, ⟨pre, x.same, x.keep, fun a h => x.new a (sub a h), x.fnew, x.grow⟩⟩
  · have hi : i < S1.length := (List.getElem?_eq_some_iff.mp h2).1
    have h1' : m'[i]? = some a := by rw [List.getElem?_take_of_lt hi] at h1; exact h1
    have cr := s'.cell i a c h1' (by rw [List.getElem?_append_left hi]; exact h2)
    rcases ho.2 i c h2 with q | q
    · rw [← eqm]
      rw [← eqm] at h1
      exact CellR.back x.pre (s.cell i a c h1 q) cr
    · exact cr.noref q
  · have hi : i < S1.length := (List.getElem?_eq_some_iff.mp h2).1
    exact s'.tab i a c q (by rw [List.getElem?_take_of_lt hi] at h1; exact h1) (by rw [List.getElem?_append_left hi]; exact h2) h3
end
end DL
namespace DL
open PySem PySem.Spec PyProof.Rows L2
section
variable {ct : CT} {X : Cx} {a b e : Expr} {es : List Expr} {fa fb f : FE} {fas : FA}
def fListR1 (fa : FE) : FE := fun env S => (fa env S).bind fun p => match p.1 with
  | .int n => if okR n = true ∧ n ≤ 16777216 then some (.lst (rangeD 0 n), p.2) else none
  | _ => none
theorem range_reps {K : PySem.W.Frag} {m : List Addr} {F : Hp} (a b : Int) : Reps K ct m F (rangeD a b) (rgV a b) := by
  unfold rangeD rgV
  induction List.range (b - a).toNat with
  | nil => exact rfl
  | cons n ns ih => exact ⟨_, _, rfl, rfl, ih⟩
end
def KG (w : World) (K : PySem.W.Frag) (mg : Str → Option Value) (n : Str) (tab : List (Str × Int)) : Prop := ∃ g, mg n = some (.ref g) ∧ KD K w g tab
def CG (mg : Str → Option Value) (n : Str) (v : V) : Prop := ∃ u, mg n = some u ∧ RelV v u
section
variable {ct : CT} {X : Cx} {e k x : Expr} {f fk fx : FE} {tab : List (Str × Int)} {n : Str}
theorem se_globC {v : V} {d : D} {pos : Pos} (hg : Gl X n) (c : CG X.mg n v) (hr : ∀ m F, Rep X.K ct m F d v) (hd : (n == ("__debug__" : Str)) = false := by decide) : SE ct X (.Name n pos) (fC d) := by
  obtain ⟨u, h1, h2⟩ := c
  exact se_glob hg h1 h2 hr hd
theorem st_kinG {p pos : Pos} (d : KG X.w X.K X.mg n tab) (hg : Gl X n) (he : SE ct X e f) (hd : (n == ("__debug__" : Str)) = false := by decide) : ST ct X (.Compare e [.In] [.Name n p] pos) (fTest (fKIn false tab f)) := by
  obtain ⟨g, h1, h2⟩ := d
  exact st_kin h2 hg h1 he hd
theorem st_knotinG {p pos : Pos} (d : KG X.w X.K X.mg n tab) (hg : Gl X n) (he : SE ct X e f) (hd : (n == ("__debug__" : Str)) = false := by decide) : ST ct X (.Compare e [.NotIn] [.Name n p] pos) (fTest (fKIn true tab f)) := by
  obtain ⟨g, h1, h2⟩ := d
  exact st_knotin h2 hg h1 he hd
theorem se_kixG {p pos : Pos} (d : KG X.w X.K X.mg n tab) (hg : Gl X n) (he : SE ct X e f) (hs : PlainIx e) (hd : (n == ("__debug__" : Str)) = false := by decide) : SE ct X (.Subscript (.Name n p) e pos) (fKIx tab f) := by
  obtain ⟨g, h1, h2⟩ := d
  exact se_kix h2 hg h1 he hs hd
end
/-- the values of a call by name, in the parameters' order -/
def kwG (idx : List Nat) {α : Type} (vs zs : List α) : List α := vs ++ idx.filterMap fun i => zs[i]?
abbrev KWB := List (List Str × List Nat)
def KwOk (K : PySem.W.Frag) (fd : FuncData) (ps : List Str) (n : Nat) (kwb : KWB) : Prop := ∀ b ∈ kwb, KBn K fd ps n b.1 (kwG b.2) (kwG b.2)
def Callee (P : Program) (w : World) (K : PySem.W.Frag) (mg : Str → Option Value) (base : Heap) (ct : CT) (k : Nat) (x : Str) (n : Nat) (g : FD) (kwb : KWB := []) : Prop :=
  ∃ (f : Addr) (fd : FuncData) (ps : List Str), mg x = some (.ref f) ∧ PySem.W.keepIn K (.ref f) = true ∧ (Binds K fd ps [] ∧ KwOk K fd ps 0 kwb) ∧ FnG P w K mg base k f fd ps (spD K ct n g)
def DefAt (K : PySem.W.Frag) (mg : Str → Option Value) (x : Str) (st : Stmt) (ps : List Str) (kwb : KWB := []) : Prop := ∃ (f : Addr) (fd : FuncData), Fun K x x st f fd ∧ mg x = some (.ref f) ∧ Binds K fd ps [] ∧ KwOk K fd ps 0 kwb
section
variable {P : Program} {w : World} {K : PySem.W.Frag} {mg : Str → Option Value} {base : Heap} {ct : CT}
theorem Callee.mono {j k n : Nat} {x : Str} {g : FD} {kwb : KWB} (c : Callee P w K mg base ct j x n g kwb) (h : j ≤ k) : Callee P w K mg base ct k x n g kwb := by
  obtain ⟨f, fd, ps, h1, h2, h3, h4⟩ := c
  exact ⟨f, fd, ps, h1, h2, h3, h4.mono h⟩
theorem callee_of {x : Str} {st : Stmt} {N ps : List Str} {k : Nat} {g : FS} {kwb : KWB} (d : DefAt K mg x st ps kwb) (S : FnScope N ps (defScope st))
    (hbody : ∀ (f : Addr) (cdv : Value) (A : Around) (outer : List Env) (s : Shared) (H : Hp) (E : XK), RoomG k (A.deeper (envOfC x (defScope st) s.heap.objs.size f cdv)) →
      SSs ct (cxOf CX0 P w K mg base N x (defScope st) f cdv A outer s H E).nox (defBody st) g) : Callee P w K mg base ct (k + 1) x ps.length (runD N.length g) kwb := by
  obtain ⟨f, fd, F, h1, h3⟩ := d
  exact ⟨f, fd, ps, h1, F.kp, h3, def_ok F S (hbody f)⟩
end
section
variable {ct : CT} {X : Cx} {e : Expr} {es : List Expr} {fas : FA} {x : Str} {p pos : Pos}
theorem se_fn {k n : Nat} {g : FD} {kwb : KWB} (C : Callee X.prog X.w X.K X.mg X.base ct k x n g kwb) (hr : RoomG k X.A) (hg : Gl X x) (ha : SA ct X (e :: es) fas) (hn : ∀ env S ds S', fas env S = some (ds, S') → ds.length = n) (hdb : (x == ("__debug__" : Str)) = false := by decide)
    (he : starEach (e :: es) X.env = (false, eval e X.env) :: starEach es X.env := by rfl) (hpl : (backTo pos (starEach es X.env)).any (·.1) = false := by rfl) : SE ct X (.Call (.Name x p) (e :: es) [] pos) (fCall g fas) := by
  obtain ⟨f, fd, ps, h1, h2, h3, h4⟩ := C
  exact se_call h4 hr hg h1 h2 h3.1 ha hn hdb he hpl
end
end DL
namespace DL
open PySem PySem.Spec PyProof.Rows L2
theorem TabOk.lit {P : Params} : ∀ {tab : List (Str × Int)} {l : List DictEntry}, TabOk P tab l → PySem.W.KeysLit P l
  | [], [], _ => trivial
  | p :: tab, e :: l, h => ⟨let ⟨t, _, h1, h2, _⟩ := h.1; ⟨p.1, t, h1, h2⟩, TabOk.lit h.2⟩
  | [], _ :: _, h => h.elim
  | _ :: _, [], h => h.elim
theorem TabOk.find {P : Params} (z : Str) : ∀ {tab : List (Str × Int)} {l : List DictEntry}, TabOk P tab l → RelO ((tab.lookup z).map V.int) ((l.find? fun e => e.key.isStr z).map (·.val)) ∧ (l.any fun e => e.refKey) = false
  | [], [], _ => ⟨trivial, rfl⟩
  | p :: tab, e :: l, h => by
    obtain ⟨⟨t, t', h1, h2, h3⟩, h4⟩ := h
    obtain ⟨i1, i2⟩ := TabOk.find z h4
    obtain ⟨k, i⟩ := p
    have hk : e.key.isStr z = (z == k) := by
      rw [h1, PySem.W.isStr_of]
      simp [Value.isStrOf, BEq.comm]
    refine ⟨?_, ?_⟩
    · rw [List.find?_cons, hk, List.lookup_cons]
      cases hz : z == k with
      | true => exact ⟨t', h3⟩
      | false => exact i1
    · rw [List.any_cons, i2]
      have : e.refKey = false := by
        unfold DictEntry.refKey
        rw [h1]
      rw [this]; rfl
  | [], _ :: _, h => h.elim
  | _ :: _, [], h => h.elim
theorem kg_of {w : World} {K : PySem.W.Frag} {mg : Str → Option Value} {n : Str} {tab : List (Str × Int)} {g : Addr} {es : Array DictEntry} {c : Nat} (hm : mg n = some (.ref g)) (hl : K.lookup g = some ⟨.type "dict", none, .dict es c, #[]⟩) (ht : TabOk w.params tab es.toList) (lo : (g == sysModules) = false) : KG w K mg n tab := by
  refine ⟨g, hm, ⟨es, c, hl, ht.lit, lo⟩, fun z => ?_⟩
  obtain ⟨h1, h2⟩ := ht.find z
  unfold PySem.W.nsIn
  rw [hl]
  dsimp only
  cases hf : es.toList.find? (fun e => e.key.isStr z) with
  | some e =>
    rw [hf] at h1
    exact ⟨some e.val, rfl, h1⟩
  | none =>
    rw [hf] at h1
    refine ⟨none, ?_, h1⟩
    simp only [h2]
    rfl
end DL
namespace DL
open PySem PySem.Spec PyProof.Rows L2
section
variable {env env' : DEnv} {S S1 S2 : Sto} {f1 f2 : FS} {t : FT} {f : FE} {d : D}
theorem seq_nx (h : f1 env S = some (.nx env', S1)) : sSeq f1 f2 env S = f2 env' S1 := by unfold sSeq; rw [h]; rfl
theorem seq_rt (h : f1 env S = some (.rt d, S1)) : sSeq f1 f2 env S = some (.rt d, S1) := by unfold sSeq; rw [h]; rfl
theorem ret_of (h : f env S = some (d, S1)) : sRet f env S = some (.rt d, S1) := by unfold sRet; rw [h]; rfl
theorem call_of {g : FD} {fas : FA} {ds : List D} {r : D × Sto} (h : fas env S = some (ds, S1)) (hg : g ds S1 = some r) : fCall g fas env S = some r := by unfold fCall; rw [h]; exact hg
theorem run_of {n : Nat} {g : FS} {ds : List D} (h : g (ds.map some ++ List.replicate (n - ds.length) none) S = some (.rt d, S1)) : runD n g ds S = some (d, S1) := by unfold runD; rw [h]; rfl
theorem for_of {fi : FA} {g : FG} {items : List D} {r : Fl × Sto} (h : fi env S = some (items, S1)) (hf : forD g f1 items env S1 = some r) : sFor fi g f1 env S = some r := by unfold sFor; rw [h]; exact hf
theorem chain_of {g g' : D → D → Sto → Option (D × Sto)} {fa fb fc : FE} {x y : D} {b : Bool} {S3 : Sto} (h1 : fa env S = some (x, S1)) (h2 : fb env S1 = some (y, S2)) (h3 : g x y S2 = some (.bl b, S3)) :
    fChain g g' fa fb fc env S = if b = true then (fc env S3).bind (fun w => g' y w.1 w.2) else some (.bl false, S3) := by
  unfold fChain; rw [h1]; show (fb env S1).bind _ = _; rw [h2]; show (g x y S2).bind _ = _; rw [h3]; cases b <;> rfl
theorem or_of {u : FT} {b : Bool} (h : t env S = some (b, S1)) : tOrD t u env S = if b = true then some (true, S1) else u env S1 := by unfold tOrD; rw [h]; rfl
theorem and_of {u : FT} {b : Bool} (h : t env S = some (b, S1)) : tAndD t u env S = if b = true then u env S1 else some (false, S1) := by unfold tAndD; rw [h]; rfl
theorem vor_of {fa fb : FE} {b : Bool} (h : fa env S = some (.bl b, S1)) : fOr fa fb env S = if b = true then some (.bl true, S1) else fb env S1 := by unfold fOr; rw [h]; cases b <;> rfl
theorem vand_of {fa fb : FE} {b : Bool} (h : fa env S = some (.bl b, S1)) : fAnd fa fb env S = if b = true then fb env S1 else some (.bl false, S1) := by unfold fAnd; rw [h]; cases b <;> rfl
end
theorem set_last (S : Sto) (c d : Cell) : (S ++ [c]).set S.length d = S ++ [d] := by simp
end DL
namespace DL
open PySem PySem.Spec PyProof.Rows L2 TL
end DL
namespace DL
open PySem PySem.Spec PyProof.Rows L2
def R {α : Type} (o : Option (α × Sto)) (P : α → Sto → Prop) : Prop := ∃ a S', o = some (a, S') ∧ P a S'
section
variable {α β : Type} {env : DEnv} {S S1 : Sto} {f1 f2 : FS} {t u : FT} {f fa fb fc : FE} {fas : FA}
theorem R.of {o : Option (α × Sto)} {P : α → Sto → Prop} {a : α} (h : o = some (a, S1)) (p : P a S1) : R o P := ⟨a, S1, h, p⟩
theorem R.imp {o : Option (α × Sto)} {P P' : α → Sto → Prop} (h : R o P) (hp : ∀ a S, P a S → P' a S) : R o P' := by
  obtain ⟨a, S', e, p⟩ := h
  exact ⟨a, S', e, hp _ _ p⟩
theorem R.bind {o : Option (α × Sto)} {k : α × Sto → Option (β × Sto)} {P : β → Sto → Prop} (h : R o fun a S => R (k (a, S)) P) : R (o.bind k) P := by
  obtain ⟨a, S', e, p⟩ := h
  rw [e]
  exact p
theorem R.eq {o : Option (α × Sto)} {a : α} (h : R o fun x S' => x = a ∧ S' = S) : o = some (a, S) := by
  obtain ⟨x, S', e, h1, h2⟩ := h
  rw [e, h1, h2]
def PFl (P : Fl → Sto → Prop) (f2 : FS) : Fl → Sto → Prop
  | .nx env', S1 => R (f2 env' S1) P
  | fl, S1 => P fl S1
theorem r_seq {P : Fl → Sto → Prop} (h : R (f1 env S) (PFl P f2)) : R (sSeq f1 f2 env S) P := by
  obtain ⟨fl, S', e, p⟩ := h
  unfold sSeq
  rw [e]
  cases fl with
  | nx env' => exact p
  | rt d => exact ⟨_, _, rfl, p⟩
  | bk e => exact ⟨_, _, rfl, p⟩
  | ct e => exact ⟨_, _, rfl, p⟩
def PBk (I : DEnv → Sto → Prop) (P : Fl → Sto → Prop) : Fl → Sto → Prop
  | .nx e, S => I e S
  | .ct e, S => I e S
  | .bk e, S => P (.nx e) S
  | .rt d, S => P (.rt d) S
theorem r_forD {P : Fl → Sto → Prop} {g : FG} {body : FS} {items : List D} (I : Nat → DEnv → Sto → Prop) (h0 : I 0 env S)
    (hs : ∀ i d env S, items[i]? = some d → I i env S → R (g d env S) fun env1 S1 => R (body env1 S1) (PBk (I (i + 1)) P)) (hd : ∀ env S, I items.length env S → P (.nx env) S) : R (forD g body items env S) P := by
  suffices h : ∀ (r : List D) (i : Nat) (env : DEnv) (S : Sto), items.drop i = r → i + r.length = items.length → I i env S → R (forD g body r env S) P from h items 0 env S rfl (by simp) h0
  intro r
  induction r with
  | nil =>
    intro i env S hd' hl hi
    have hl : i = items.length := by simpa using hl
    subst hl
    exact ⟨_, _, rfl, hd _ _ hi⟩
  | cons d r ih =>
    intro i env S hd' hl hi
    obtain ⟨q1, q2⟩ := drop_cons hd'
    obtain ⟨env1, S1, e1, fl, S2, e2, p⟩ := hs i d env S q1 hi
    have hl' : i + 1 + r.length = items.length := by
      rw [List.length_cons] at hl
      omega
    unfold forD
    rw [e1]
    show R ((body env1 S1).bind _) P
    rw [e2]
    cases fl with
    | nx e => exact ih (i + 1) e S2 q2 hl' p
    | ct e => exact ih (i + 1) e S2 q2 hl' p
    | bk e => exact ⟨_, _, rfl, p⟩
    | rt d => exact ⟨_, _, rfl, p⟩
theorem r_for {P : Fl → Sto → Prop} {fi : FA} {g : FG} {body : FS} {items : List D} (h : fi env S = some (items, S1)) (I : Nat → DEnv → Sto → Prop) (h0 : I 0 env S1)
    (hs : ∀ i d env S, items[i]? = some d → I i env S → R (g d env S) fun env1 S1 => R (body env1 S1) (PBk (I (i + 1)) P)) (hd : ∀ env S, I items.length env S → P (.nx env) S) : R (sFor fi g body env S) P := by
  obtain ⟨a, S', e, p⟩ := r_forD (P := P) I h0 hs hd
  exact ⟨_, _, for_of h e, p⟩
/-- a loop whose turns keep one word -/
theorem r_forM {P : Fl → Sto → Prop} {fi : FA} {g : FG} {body : FS} {items : List D} (h : fi env S = some (items, S1)) (I : DEnv → Sto → Prop) (h0 : I env S1)
    (hs : ∀ d ∈ items, ∀ env S, I env S → R (g d env S) fun env1 S1 => R (body env1 S1) (PBk I P)) (hd : ∀ env S, I env S → P (.nx env) S) : R (sFor fi g body env S) P :=
  r_for h (fun _ => I) h0 (fun i d env S hi h => hs d (List.mem_of_getElem? hi) env S h) hd
def PRun (P : D → Sto → Prop) : Fl → Sto → Prop
  | .rt d, S => P d S
  | .nx _, S => P .non S
  | _, _ => False
theorem r_par {P : Fl → Sto → Prop} {i j : Nat} (h : R (fas env S) fun ds S1 => ∃ v w, ds = [v, w] ∧ P (.nx ((env.set i (some v)).set j (some w))) S1) : R (sPar i j fas env S) P := by
  obtain ⟨ds, S', e, v, w, rfl, p⟩ := h
  refine ⟨_, _, ?_, p⟩
  unfold sPar
  rw [e]
  rfl
end
end DL
namespace DL
open PySem PySem.Spec PyProof.Rows L2
variable {ct : CT} {X : Cx}
def fNever : FE := fun _ _ => none
def cDivmod : FD
  | [.int i, .int j], S => if 0 < j ∧ j.natAbs.log2 < 9000 then some (.tup [.int (i / j), .int (i % j)], S) else none
  | _, _ => none
theorem cd_divmod {K : PySem.W.Frag} : CallD ct K (fun xs H Q => ∃ i j, xs = [.int i, .int j] ∧ CDivP i j ∧ ∀ p, H p = none → Q (.ref p) (upd H p (.tup [.int (i / j), .int (i % j)]))) cDivmod := by
  intro m F S H xs ds d S' Q s r h p
  unfold cDivmod at h
  split at h
  · rename_i i j
    split at h
    · rename_i hc
      cases h
      obtain ⟨v, u, e1, e2, e3⟩ := reps2 r
      have e2 : v = .int i := e2
      have e3 : u = .int j := e3
      subst e2 e3
      refine ⟨i, j, e1, ⟨hc.1, PyProof.noPylong_of_log2 hc.2⟩, fun q hq => ?_⟩
      obtain ⟨s2, x2⟩ := s.frozen hq (.tup [.int (i / j), .int (i % j)])
      exact p m _ (.ref q) _ x2 s2 ⟨q, _, rfl, SqT.of upd_same, ⟨_, _, rfl, rfl, _, _, rfl, rfl, rfl⟩⟩
    · cases h
  · cases h
end DL
namespace DL
open PySem PySem.Spec PyProof.Rows L2
/-- a class of the text, by its name -/
structure Klass (K : PySem.W.Frag) (ct : CT) (c : Str) (C : Addr) : Prop where
  at_ : ct c = some C
  cls : Cls K C
def getF : List Str → List D → Str → Option D
  | f :: fs, d :: ds, x => if f = x then some d else getF fs ds x
  | _, _, _ => none
def hasF (fs : List Str) (x : Str) : Bool := fs.any fun f => decide (f = x)
def putN : List Str → Str → List Str
  | [], x => [x]
  | f :: fs, x => if f = x then f :: fs else f :: putN fs x
def putD : List Str → List D → Str → D → List D
  | f :: fs, d :: ds, x, y => if f = x then y :: ds else d :: putD fs ds x y
  | _, _, _, y => [y]
section
variable {K : PySem.W.Frag} {ct : CT} {m : List Addr} {F : Hp}
theorem getF_rep : ∀ {fs : List Str} {ds : List D} {vs : List V} {x : Str} {d : D}, Reps K ct m F ds vs → getF fs ds x = some d → ∃ v, (fs.zip vs).lookup x = some v ∧ Rep K ct m F d v
  | [], _, _, _, _, _, h => by cases h
  | _ :: _, [], _, _, _, _, h => by cases h
  | f :: fs, d' :: ds, vs, x, d, r, h => by
    obtain ⟨v, rest, rfl, r1, r2⟩ := r
    unfold getF at h
    by_cases e : f = x
    · rw [if_pos e] at h
      cases h
      subst e
      exact ⟨v, by simp [List.lookup], r1⟩
    · rw [if_neg e] at h
      obtain ⟨v2, h1, h2⟩ := getF_rep r2 h
      refine ⟨v2, ?_, h2⟩
      have : (x == f) = false := beq_eq_false_iff_ne.mpr fun q => e q.symm
      simp only [List.zip_cons_cons, List.lookup, this]
      exact h1
theorem hasF_none : ∀ {fs : List Str} {vs : List V} {x : Str}, hasF fs x = false → (fs.zip vs).lookup x = none
  | [], _, _, _ => by simp
  | _ :: _, [], _, _ => by simp
  | f :: fs, v :: vs, x, h => by
    unfold hasF at h
    rw [List.any_cons, Bool.or_eq_false_iff] at h
    have e : f ≠ x := of_decide_eq_false h.1
    have : (x == f) = false := beq_eq_false_iff_ne.mpr fun q => e q.symm
    simp only [List.zip_cons_cons, List.lookup, this]
    exact hasF_none h.2
theorem put_rep : ∀ {fs : List Str} {ds : List D} {vs : List V} {x : Str} {y : D} {v : V}, fs.length = vs.length → Reps K ct m F ds vs → Rep K ct m F y v → ∃ us, putF x v (fs.zip vs) = (putN fs x).zip us ∧ (putN fs x).length = us.length ∧ Reps K ct m F (putD fs ds x y) us
  | [], ds, vs, x, y, v, hl, r, ry => by
    cases vs with
    | nil =>
      refine ⟨[v], rfl, rfl, ?_⟩
      cases ds <;> exact ⟨v, [], rfl, ry, rfl⟩
    | cons _ _ => cases hl
  | f :: fs, ds, vs, x, y, v, hl, r, ry => by
    cases vs with
    | nil => cases hl
    | cons u vs =>
      cases ds with
      | nil => cases (show _ = _ from r)
      | cons d ds =>
        obtain ⟨u', rest, e, r1, r2⟩ := r
        cases e
        unfold putN putD
        rw [List.zip_cons_cons, show putF x v ((f, u) :: fs.zip vs) = (if f = x then (f, v) :: fs.zip vs else (f, u) :: putF x v (fs.zip vs)) from rfl]
        by_cases e : f = x
        · rw [if_pos e, if_pos e, if_pos e]
          exact ⟨v :: vs, rfl, by simpa using hl, ⟨v, vs, rfl, ry, r2⟩⟩
        · rw [if_neg e, if_neg e, if_neg e]
          obtain ⟨us, h1, h2, h3⟩ := put_rep (x := x) (by simpa using hl) r2 ry
          exact ⟨u :: us, by rw [h1, List.zip_cons_cons], by simpa using h2, ⟨u, us, rfl, r1, h3⟩⟩
end
/-- the object at hand: its class, its fields -/
def insOf (c : Str) : D → Sto → Option (List Str × List D)
  | .ref i, S => match S[i]? with
    | some (.ins c' fs ds) => if c' = c then some (fs, ds) else none
    | _ => none
  | .obj c' fs ds, _ => if c' = c then some (fs, ds) else none
  | _, _ => none
section
variable {ct : CT} {X : Cx} {C : Addr} {c : Str}
theorem insOf_rep {m : List Addr} {F : Hp} {S : Sto} {H : Hp} {d : D} {v : V} {fs : List Str} {ds : List D} (kc : Klass X.K ct c C) (s : Sim X.K ct m F S H) (r : Rep X.K ct m F d v) (h : insOf c d S = some (fs, ds)) :
    ∃ a dx vs, v = .ref a ∧ H a = some (.ins C dx (fs.zip vs)) ∧ fs.length = vs.length ∧ Reps X.K ct m F ds vs := by
  cases d with
  | ref i =>
    obtain ⟨a, h1, h2⟩ := r
    unfold insOf at h
    dsimp only at h
    split at h
    · rename_i c' fs' ds' hc
      split at h
      · rename_i e
        subst e
        cases h
        obtain ⟨C', dx, vs, e1, e2, e3, e4⟩ := s.cell i a _ h1 hc
        rw [kc.at_] at e2
        cases e2
        exact ⟨a, dx, vs, h2, e1, e3, e4⟩
      · cases h
    · cases h
  | obj c' fs' ds' =>
    unfold insOf at h
    dsimp only at h
    split at h
    · rename_i e
      subst e
      cases h
      obtain ⟨a, C', dx, vs, e0, e2, e1, e3, e4⟩ := r
      rw [kc.at_] at e2
      cases e2
      exact ⟨a, dx, vs, e0, s.same _ _ e1, e3, e4⟩
    · cases h
  | _ => cases h
variable {e o value : Expr} {es : List Expr} {fe fo fv : FE} {fas : FA} {pos pos' apos : Pos} {f : Str}
def fFld (c f : Str) (fe : FE) : FE := fun env S => (fe env S).bind fun p => (insOf c p.1 p.2).bind fun q => (getF q.1 q.2 f).map fun d => (d, p.2)
theorem se_fld (kc : Klass X.K ct c C) (na : NoAttr X.K C f) (he : SE ct X e fe) (hb : attributeBase e f X.env (eval e X.env) = eval e X.env := by rfl) : SE ct X (.Attribute e f pos) (fFld c f fe) := by
  obtain ⟨ta, pa, ra⟩ := he
  refine ⟨_, pe_fld pa hb, fun m F S σ H env d S' Q s en h p => ?_⟩
  obtain ⟨⟨z, S1⟩, h1, h⟩ := bind_some h
  obtain ⟨⟨fs, ds⟩, h2, h⟩ := bind_some h
  obtain ⟨d', h3, h4⟩ := map_some h
  cases h4
  refine ra m F S σ H env z S1 _ s en h1 fun m1 F1 v1 H1 x1 s1 r1 => ?_
  obtain ⟨a, dx, vs, e1, e2, e3, e4⟩ := insOf_rep kc s1 r1 h2
  obtain ⟨v, e5, e6⟩ := getF_rep e4 h3
  exact ⟨a, C, dx, _, v, e1, e2, kc.cls, na, e5, p m1 F1 v H1 x1 s1 e6⟩
/-- e.f = value, of an object at hand as a cell -/
def sFldD (c f : Str) (fo fv : FE) : FS := fun env S => (fv env S).bind fun p => (fo env p.2).bind fun q => match q.1 with
  | .ref i => match q.2[i]? with
    | some (.ins c' fs ds) => if c' = c ∧ fs.length < 900 then some (.nx env, q.2.set i (.ins c (putN fs f) (putD fs ds f p.1))) else none
    | _ => none
  | _ => none
theorem ss_fld (kc : Klass X.K ct c C) (na : NoAttr X.K C f) (ho : SE ct X o fo) (hv : SE ct X value fv) (hs : swapsWith value (some (.Attribute o f pos')) pos.line X.env = pure false := by rfl) : SS ct X (.Assign [.Attribute o f pos'] value pos) (sFldD c f fo fv) := by
  obtain ⟨ta, pa, ra⟩ := ho
  obtain ⟨tv, pv, rv⟩ := hv
  refine ⟨_, ps_fld pa pv hs, fun m F S σ H env fl S' E s en h p => ?_⟩
  obtain ⟨⟨y, S1⟩, h1, h⟩ := bind_some h
  obtain ⟨⟨z, S2⟩, h2, h⟩ := bind_some h
  refine rv m F S σ H env y S1 _ s en h1 fun m1 F1 v1 H1 x1 s1 r1 => ?_
  refine ra m1 F1 S1 σ H1 env z S2 _ s1 (en.mono x1) h2 fun m2 F2 v2 H2 x2 s2 r2 => ?_
  cases z with
  | ref i =>
    obtain ⟨a, e1, e2⟩ := r2
    dsimp only at h
    split at h
    · rename_i c' fs ds hc
      split at h
      · rename_i hcc
        obtain ⟨rfl, hlt⟩ := hcc
        cases h
        obtain ⟨C', dx, vs, q1, q2, q3, q4⟩ := s2.cell i a _ e1 hc
        rw [kc.at_] at q2
        cases q2
        obtain ⟨us, w1, w2, w3⟩ := put_rep (x := f) q3 q4 (r1.mono x2)
        refine ⟨a, C, dx, _, e2, q1, kc.cls, na, by rw [List.length_zip, ← q3]; omega, ?_⟩
        obtain ⟨s3, x3⟩ := s2.change e1 (o := .ins C dx (putF f v1 (fs.zip vs))) (c := .ins c' (putN fs f) (putD fs ds f y)) ⟨C, dx, us, by rw [w1], kc.at_, w2, w3⟩
        exact p _ _ σ _ ((x1.trans x2).trans x3) s3 ((en.mono (x1.trans x2)).mono x3)
      · cases h
    · cases h
  | _ => cases h
def CalleeM (P : Program) (w : World) (K : PySem.W.Frag) (mg : Str → Option Value) (base : Heap) (ct : CT) (k : Nat) (C : Addr) (x : Str) (n : Nat) (g : FD) (kwb : KWB := []) : Prop :=
  ∃ (f : Addr) (fd : FuncData) (ps : List Str), Meth K C x f ∧ (Binds K fd ps [] ∧ KwOk K fd ps 1 kwb) ∧ FnG P w K mg base k f fd ps (spD K ct n g)
theorem CalleeM.mono {P : Program} {w : World} {K : PySem.W.Frag} {mg : Str → Option Value} {base : Heap} {j k n : Nat} {x : Str} {g : FD} {kwb : KWB} (c : CalleeM P w K mg base ct j C x n g kwb) (h : j ≤ k) : CalleeM P w K mg base ct k C x n g kwb := by
  obtain ⟨f, fd, ps, h1, h3, h4⟩ := c
  exact ⟨f, fd, ps, h1, h3, h4.mono h⟩
def fMeth (c x : Str) (g : FD) (fo : FE) (fas : FA) : FE := fun env S => (fo env S).bind fun p => (insOf c p.1 p.2).bind fun q => if hasF q.1 x = false then (fas env p.2).bind fun r => g (p.1 :: r.1) r.2 else none
theorem se_meth {pl : Sem Bool} {k n : Nat} {x : Str} {g : FD} {kwb : KWB} (kc : Klass X.K ct c C) (M : CalleeM X.prog X.w X.K X.mg X.base ct k C x (n + 1) g kwb) (hr : RoomG k X.A) (ho : SE ct X o fo) (ha : SA ct X (e :: es) fas) (hn : ∀ env S ds S', fas env S = some (ds, S') → ds.length = n)
    (hst : starEach (e :: es) X.env = (false, eval e X.env) :: starEach es X.env := by rfl) (hpl : (backTo pos (starEach es X.env)).any (·.1) = false := by rfl)
    (ht : eval (.Call (.Attribute o x apos) (e :: es) [] pos) X.env = (eval o X.env >>= fun ov => standAt apos.atName >>= fun _ => holding [ov] (getMethod ov x pl) >>= fun q =>
      callWith pos q.1 q.2 (backTo pos (starEach (e :: es) X.env)) (backToKw pos (keywordEach [] X.env))) := by rfl) : SE ct X (.Call (.Attribute o x apos) (e :: es) [] pos) (fMeth c x g fo fas) := by
  obtain ⟨f, fd, ps, me, bi, fn⟩ := M
  obtain ⟨ta, pa, ra⟩ := ho
  obtain ⟨tb, pb, rb⟩ := ha
  refine ⟨_, pe_methG (E := fun _ _ _ => False) pa kc.cls me fn hr bi.1 .nil pb hst hpl ht, fun m F S σ H env d S' Q s en h p => ?_⟩
  obtain ⟨⟨z, S1⟩, h1, h⟩ := bind_some h
  obtain ⟨⟨fs, ds⟩, h2, h⟩ := bind_some h
  dsimp only at h
  split at h
  · rename_i hh
    obtain ⟨⟨xs, S2⟩, h3, h⟩ := bind_some h
    refine ra m F S σ H env z S1 _ s en h1 fun m1 F1 v1 H1 x1 s1 r1 => ?_
    obtain ⟨a, dx, vs, e1, e2, e3, e4⟩ := insOf_rep kc s1 r1 h2
    refine ⟨a, dx, _, e1, e2, hasF_none hh, ?_⟩
    refine rb m1 F1 S1 σ H1 env xs S2 _ s1 (en.mono x1) h3 fun m2 F2 us H2 x2 s2 r2 => ?_
    rw [List.append_nil]
    exact ⟨by rw [List.length_cons, ← r2.length, hn _ _ _ _ h3], m2, F2, S2, z :: xs, d, S', s2, ⟨v1, us, rfl, r1.mono x2, r2⟩, h, p.ext (x1.trans x2)⟩
  · cases h
def MakeAt (P : Program) (w : World) (K : PySem.W.Frag) (mg : Str → Option Value) (base : Heap) (ct : CT) (k : Nat) (x : Str) (dds : List D) (n : Nat) (g : FD) : Prop :=
  ∃ (C f : Addr) (fd : FuncData) (ps : List Str) (ds : List Value) (dvs : List V), mg x = some (.ref C) ∧ ct x = some C ∧ Mk K C f ∧ Binds K fd ps ds ∧ Vals dvs ds ∧ (∀ m F, Reps K ct m F dds dvs) ∧ FnG P w K mg base k f fd ps (spD K ct n g)
theorem MakeAt.mono {P : Program} {w : World} {K : PySem.W.Frag} {mg : Str → Option Value} {base : Heap} {j k n : Nat} {x : Str} {dds : List D} {g : FD} (c : MakeAt P w K mg base ct j x dds n g) (h : j ≤ k) : MakeAt P w K mg base ct k x dds n g := by
  obtain ⟨C, f, fd, ps, ds, dvs, h1, h2, h3, h4, h5, h6, h7⟩ := c
  exact ⟨C, f, fd, ps, ds, dvs, h1, h2, h3, h4, h5, h6, h7.mono h⟩
end
section
variable {P : Program} {w : World} {K : PySem.W.Frag} {mg : Str → Option Value} {base : Heap} {ct : CT}
theorem def_okD {x qual : Str} {st : Stmt} {f : Addr} {fd : FuncData} {N ps : List Str} {k : Nat} {g : FS} {dvs : List V} (F : FunD K x qual (defArgs st) (defBody st) (defScope st) dvs [] f fd) (S : FnScope N ps (defScope st))
    (hbody : ∀ (cdv : Value) (A : Around) (outer : List Env) (s : Shared) (H : Hp) (E : XK), RoomG k (A.deeper (envOfC qual (defScope st) s.heap.objs.size f cdv)) →
      SSs ct (cxOf CX0 P w K mg base N qual (defScope st) f cdv A outer s H E).nox (defBody st) g) : FnG P w K mg base (k + 1) f fd ps (spD K ct ps.length (runD N.length g)) := by
  refine funDG F S (fun vs H Q E h => h.1) (fun cdv A outer s H vs Q E hr h => ?_)
  obtain ⟨hl, m, F', S0, ds, d, S', sim, reps, hg, post⟩ := h
  obtain ⟨t, pt, rt⟩ := hbody cdv A outer s H E hr
  refine ⟨t, pt, ?_⟩
  obtain ⟨⟨fl, S1⟩, h1, h2⟩ := bind_some hg
  refine rt m F' S0 _ H _ fl S1 _ sim ?_ h1 ?_
  · have hl2 := reps.length
    refine ⟨by simp [L2.start, hl2], fun i e he => ?_⟩
    by_cases hi : i < ds.length
    · rw [List.getElem?_append_left (by simpa using hi)] at he
      simp at he
      obtain ⟨v, q1, q2⟩ := reps.get (i := i) (d := e) (by simpa using he)
      refine ⟨v, ?_, q2⟩
      unfold L2.start
      rw [List.getElem?_append_left (by simpa [← hl2] using hi)]
      simp [q1]
    · rw [List.getElem?_append_right (by simpa using hi)] at he
      have := List.mem_of_getElem? he
      simp at this
  · cases fl with
    | rt d1 => cases h2; exact fun m' F1 v H' x1 s1 r1 => post m' F1 v H' x1 s1 r1
    | nx env1 => cases h2; exact fun m' F1 σ1 H' x1 s1 r1 => post m' F1 .non H' x1 s1 rfl
    | bk env1 => cases h2
    | ct env1 => cases h2
end
end DL
namespace DL
open PySem PySem.Spec PyProof.Rows L2
section
variable {prog : Program} {w : World} {A : Around} {E : Value → Shared → Prop} {s : Shared} {l : Addr} {xs : Array (Int × Tok)}
theorem max_intTup {Q : Value → Shared → Prop} (hh : A.handled = none) (hl : s.heap.IsTuple l (intItems xs)) (hne : 0 < xs.size)
    (h : ∀ v h' tk, (intItems xs)[argBest (fun i j => decide (numAt xs i > numAt xs j)) (xs.size - 1)]? = some v → (∀ b o, s.heap.get? b = some o → h'.get? b = some o) → Q v { s with heap := h', toks := tk }) :
    wpAny (model prog w) A (call (.builtin "max") [.ref l]) Q E s := by
  have hlt : l < s.heap.objs.size := by obtain ⟨_, e, _⟩ := hl; exact Heap.lt_size e
  refine call_max_walk (wpAny_pyIter_tuple hl ?_)
  refine ⟨_, [_, l], [_], _, _, _, _, rfl, Walks.tuple (A := A.in1) hh _ l (Nat.ne_of_lt hlt) (intItems xs), ⟨⟨_, Heap.get?_push_size _ rfl, rfl, rfl⟩, hl.push _⟩, fun c hc => ?_, by simpa [intItems] using hne, CmpOf.ints_gt (numAt xs) (fun _ _ => intItems_at), fun v h' tk hP hk => ?_⟩
  · show c < (s.heap.push _).objs.size
    rw [Heap.size_push]
    rcases List.mem_cons.mp hc with rfl | hc
    · exact Nat.lt_succ_self _
    · rcases List.mem_cons.mp hc with rfl | hc
      · exact Nat.lt_succ_of_lt hlt
      · cases hc
  · refine h v h' tk (by simpa [intItems] using hP) fun b o e => ?_
    refine hk b o (fun hm => ?_) (Heap.get?_push_of_some _ e)
    rcases List.mem_cons.mp hm with e1 | hm
    · exact absurd (e1 ▸ Heap.lt_size e) (Nat.lt_irrefl _)
    · cases hm
theorem max_rawT {its : List Value} {ns : List Int} {Q : Value → Shared → Prop} (hh : A.handled = none) (hl : s.heap.IsTuple l its.toArray) (hi : IntsAre its ns) (hne : 0 < ns.length)
    (h : ∀ h' tk M t', (∀ b o, s.heap.get? b = some o → h'.get? b = some o) → M ∈ ns → (∀ a, a ∈ ns → a ≤ M) → Q (.int M t') { s with heap := h', toks := tk }) : wpAny (model prog w) A (call (.builtin "max") [.ref l]) Q E s := by
  obtain ⟨xs, e⟩ := hi.allInts.items
  have hn : numsOf (intItems xs).toList = ns := by rw [← e]; exact hi.numsOf
  rw [nums_intItems] at hn
  subst hn
  rw [e] at hl
  have hsz : 0 < xs.size := by simpa using hne
  refine max_intTup hh hl hsz fun v h' tk hv hk => ?_
  obtain ⟨t, rfl⟩ := intItems_at hv
  obtain ⟨h1, h2⟩ := argBest_gt (numAt xs) (xs.size - 1)
  refine h h' tk _ t hk ?_ fun a ha => ?_
  · rw [numAt_eq]; exact PySem.getD_mem (by rw [List.length_map, Array.length_toList]; omega)
  · obtain ⟨j, hj, rfl⟩ := mem_getD ha
    rw [List.length_map, Array.length_toList] at hj
    rw [← numAt_eq]; exact h2 j (by omega)
end
def rMaxT (K : PySem.W.Frag) : List V → Hp → VK → Prop := fun vs H Q => ∃ (a : Addr) (ns : List Int), vs = [V.ref a] ∧ SqT K H a (ns.map V.int) ∧ 0 < ns.length ∧ ∀ m, m ∈ ns → (∀ y, y ∈ ns → y ≤ m) → Q (.int m) H
theorem cr_maxT {X : Cx} (hc : X.calm = true) : CallR X (.builtin "max") (rMaxT X.K) := by
  intro pins s σ H vs us Q I r h
  obtain ⟨a, ns, rfl, hs, hne, q⟩ := h
  obtain ⟨its, rv, hl, _⟩ := I.tuple hs
  rw [Vals.ref1 r]
  exact max_rawT (I.ok.hd hc) hl rv.ints hne fun h' tk m t' hk h1 h2 => ⟨.int _, H, I.kept hk, ⟨_, rfl⟩, q m h1 h2⟩
def cMaxT : FD
  | [.tup [.int i, .int j]], S => some (.int (if j > i then j else i), S)
  | _, _ => none
theorem cd_maxT {ct : CT} {K : PySem.W.Frag} : CallD ct K (rMaxT K) cMaxT := by
  intro m F S H xs ds d S' Q s r h p
  unfold cMaxT at h
  split at h
  · rename_i i j
    cases h
    obtain ⟨v, e1, a, vs, e2, e3, e4⟩ := reps1 r
    obtain ⟨v1, r1, q1, q2, v2, r2, q3, q4, q5⟩ := e4
    have q2 : v1 = .int i := q2
    have q4 : v2 = .int j := q4
    have q5 : r2 = [] := q5
    subst q2 q4 q5 q3 q1 e2
    refine ⟨a, [i, j], e1, sqT_mono s.same e3, by simp, fun M h1 h2 => ?_⟩
    have hM : M = if j > i then j else i := by
      have a1 := h2 i (by simp)
      have a2 := h2 j (by simp)
      simp only [List.mem_cons, List.not_mem_nil, or_false] at h1
      split <;> omega
    rw [hM]
    exact p.now s rfl
  · cases h
def TG (K : PySem.W.Frag) (mg : Str → Option Value) (n : Str) (vs : List V) : Prop := ∃ (a : Addr) (o : Obj) (its : Array Value) (k : Nat), mg n = some (.ref a) ∧ K.lookup a = some o ∧ o.cls = .type "tuple" ∧ o.data = .seq its k ∧ its.size ≤ sizeLine ∧ Vals vs its.toList
theorem se_globT {ct : CT} {X : Cx} {n : Str} {pos : Pos} {ds : List D} {vs : List V} (hg : Gl X n) (c : TG X.K X.mg n vs) (hr : ∀ m F, Reps X.K ct m F ds vs) (hd : (n == ("__debug__" : Str)) = false := by decide) : SE ct X (.Name n pos) (fC (.tup ds)) := by
  obtain ⟨a, o, its, k, h1, h2, h3, h4, h5, h6⟩ := c
  exact se_glob (v := .ref a) hg h1 rfl (fun m F => ⟨a, vs, rfl, .inr ⟨o, its, k, h2, h3, h4, h5, h6⟩, hr m F⟩) hd
def Maker (P : Program) (w : World) (K : PySem.W.Frag) (mg : Str → Option Value) (base : Heap) (ct : CT) (k : Nat) (x : Str) (dds : List D) (n : Nat) (g : FD) : Prop := ∃ j, j + 1 ≤ k ∧ MakeAt P w K mg base ct j x dds n g
theorem Maker.mono {P : Program} {w : World} {K : PySem.W.Frag} {mg : Str → Option Value} {base : Heap} {ct : CT} {j k n : Nat} {x : Str} {dds : List D} {g : FD} (c : Maker P w K mg base ct j x dds n g) (h : j ≤ k) : Maker P w K mg base ct k x dds n g := by
  obtain ⟨i, h1, h2⟩ := c
  exact ⟨i, by omega, h2⟩
def spScr (K : PySem.W.Frag) : Sp := fun vs H Q _ => ∃ (a : Addr) (ns : List Int), vs = [.ref a] ∧ SqL K H a (ns.map V.int) ∧ ns.length ≤ 63 ∧ ∀ H', Q (.bl true) H'
theorem law_scr {P : Program} {w : World} {K : PySem.W.Frag} {mg : Str → Option Value} {base : Heap} {ct : CT} {k : Nat} {f : Addr} {fd : FuncData} {ps : List Str} {g : FD} (F : FnG P w K mg base k f fd ps (spD K ct 1 g)) (h : ∀ ns : List Int, ns.length ≤ 63 → ∃ S', g [.scr ns] [] = some (.bl true, S')) : FnG P w K mg base k f fd ps (spScr K) := by
  refine F.imp fun vs H Q E hs => ?_
  obtain ⟨a, ns, rfl, hS, hl, q⟩ := hs
  obtain ⟨S', h⟩ := h ns hl
  refine ⟨rfl, [], H, [], [.scr ns], .bl true, S', ⟨Same.refl _, rfl, List.nodup_nil, fun a h => (by cases h), fun i a c h1 h2 => (by simp at h1), fun i a c q h1 => (by simp at h1)⟩, ⟨_, _, rfl, ⟨a, rfl, hS⟩, rfl⟩, h, fun m' F' v H' _ _ r => ?_⟩
  have r : v = .bl true := r
  rw [r]
  exact q H'
end DL
namespace DL
open PySem PySem.Spec PyProof.Rows L2
def MethAt (K : PySem.W.Frag) (C : Addr) (x qual : Str) (st : Stmt) (ps : List Str) (kwb : KWB := []) : Prop := ∃ (f : Addr) (fd : FuncData), Fun K x qual st f fd ∧ Meth K C x f ∧ Binds K fd ps [] ∧ KwOk K fd ps 1 kwb
def InitAt (K : PySem.W.Frag) (C : Addr) (qual : Str) (st : Stmt) (ps : List Str) (dvs : List V) (kwb : KWB := []) : Prop :=
  ∃ (f : Addr) (fd : FuncData), FunD K "__init__" qual (defArgs st) (defBody st) (defScope st) dvs [] f fd ∧ Mk K C f ∧ (∀ j, j ≤ dvs.length → ∃ ds, Vals (dvs.drop j) ds ∧ Binds K fd ps ds) ∧ KwOk K fd ps 1 kwb
def Initer (P : Program) (w : World) (K : PySem.W.Frag) (mg : Str → Option Value) (base : Heap) (ct : CT) (k : Nat) (x : Str) (dvs : List V) (n : Nat) (g : FD) (kwb : KWB := []) : Prop :=
  ∃ (C f : Addr) (fd : FuncData) (ps : List Str), mg x = some (.ref C) ∧ ct x = some C ∧ Mk K C f ∧ ((∀ j, j ≤ dvs.length → ∃ ds, Vals (dvs.drop j) ds ∧ Binds K fd ps ds) ∧ KwOk K fd ps 1 kwb) ∧ FnG P w K mg base k f fd ps (spD K ct n g)
section
variable {P : Program} {w : World} {K : PySem.W.Frag} {mg : Str → Option Value} {base : Heap} {ct : CT} {C : Addr}
theorem calleeM_of {x qual : Str} {st : Stmt} {N ps : List Str} {k : Nat} {g : FS} {kwb : KWB} (d : MethAt K C x qual st ps kwb) (S : FnScope N ps (defScope st))
    (hbody : ∀ (f : Addr) (cdv : Value) (A : Around) (outer : List Env) (s : Shared) (H : Hp) (E : XK), RoomG k (A.deeper (envOfC qual (defScope st) s.heap.objs.size f cdv)) →
      SSs ct (cxOf CX0 P w K mg base N qual (defScope st) f cdv A outer s H E).nox (defBody st) g) : CalleeM P w K mg base ct (k + 1) C x ps.length (runD N.length g) kwb := by
  obtain ⟨f, fd, F, h1, h3⟩ := d
  exact ⟨f, fd, ps, h1, h3, def_ok F S (hbody f)⟩
theorem initer_of {c qual : Str} {st : Stmt} {N ps : List Str} {k : Nat} {g : FS} {dvs : List V} {kwb : KWB} (kc : Klass K ct c C) (hm : mg c = some (.ref C)) (d : InitAt K C qual st ps dvs kwb) (S : FnScope N ps (defScope st))
    (hbody : ∀ (f : Addr) (cdv : Value) (A : Around) (outer : List Env) (s : Shared) (H : Hp) (E : XK), RoomG k (A.deeper (envOfC qual (defScope st) s.heap.objs.size f cdv)) →
      SSs ct (cxOf CX0 P w K mg base N qual (defScope st) f cdv A outer s H E).nox (defBody st) g) : Initer P w K mg base ct (k + 1) c dvs ps.length (runD N.length g) kwb := by
  obtain ⟨f, fd, F, h1, h3⟩ := d
  exact ⟨C, f, fd, ps, hm, kc.at_, h1, h3, def_okD F S (hbody f)⟩
theorem maker_of {x : Str} {dvs : List V} {n k : Nat} {g : FD} {dds : List D} {kwb : KWB} (I : Initer P w K mg base ct k x dvs n g kwb) (j : Nat) (hj : j ≤ dvs.length) (hr : ∀ m F, Reps K ct m F dds (dvs.drop j)) : Maker P w K mg base ct (k + 1) x dds n g := by
  obtain ⟨C, f, fd, ps, h1, h2, h3, h4, h5⟩ := I
  obtain ⟨ds, h6, h7⟩ := h4.1 j hj
  exact ⟨k, Nat.le_refl _, C, f, fd, ps, ds, dvs.drop j, h1, h2, h3, h7, h6, hr, h5⟩
end
end DL
namespace DL
open PySem PySem.Spec PyProof.Rows L2
def MkSpec (c : Str) (fs : List Str) (g : FD) (g' : List D → Option (List D)) : Prop :=
  ∀ (S : Sto) (args vals : List D), g' args = some vals → g (.ref S.length :: args) (S ++ [.ins c [] []]) = some (.non, S ++ [.ins c fs vals]) ∧ noRefs vals = true
def fMakeF (c : Str) (fs : List Str) (g' : List D → Option (List D)) (dds : List D) (fas : FA) : FE := fun env S => (fas env S).bind fun p => (g' (p.1 ++ dds)).map fun vals => (.obj c fs vals, p.2)
def MakerF (P : Program) (w : World) (K : PySem.W.Frag) (mg : Str → Option Value) (base : Heap) (ct : CT) (k : Nat) (x : Str) (fs : List Str) (dds : List D) (n : Nat) (g' : List D → Option (List D)) : Prop :=
  ∃ g, Maker P w K mg base ct k x dds n g ∧ MkSpec x fs g g'
theorem MakerF.mono {P : Program} {w : World} {K : PySem.W.Frag} {mg : Str → Option Value} {base : Heap} {ct : CT} {j k n : Nat} {x : Str} {fs : List Str} {dds : List D} {g : List D → Option (List D)} (c : MakerF P w K mg base ct j x fs dds n g) (h : j ≤ k) : MakerF P w K mg base ct k x fs dds n g := by
  obtain ⟨g0, h1, h2⟩ := c
  exact ⟨g0, h1.mono h, h2⟩
theorem se_mkF {ct : CT} {X : Cx} {k n : Nat} {x : Str} {fs : List Str} {dds : List D} {g' : List D → Option (List D)} {np pos : Pos} {e : Expr} {es : List Expr} {fas : FA} (M : MakerF X.prog X.w X.K X.mg X.base ct k x fs dds (n + dds.length + 1) g') (hr : RoomG k X.A) (hg : Gl X x) (ha : SA ct X (e :: es) fas) (hn : ∀ env S ds S', fas env S = some (ds, S') → ds.length = n) (hdb : (x == ("__debug__" : Str)) = false := by decide)
    (he : starEach (e :: es) X.env = (false, eval e X.env) :: starEach es X.env := by rfl) (hpl : (backTo pos (starEach es X.env)).any (·.1) = false := by rfl) : SE ct X (.Call (.Name x np) (e :: es) [] pos) (fMakeF x fs g' dds fas) := by
  obtain ⟨g, ⟨j, hj, M⟩, spec⟩ := M
  have hr := hr.mono hj
  obtain ⟨C, f, fd, ps, dl, dvs, hm, hct, mk, bi, hd, hdr, fn⟩ := M
  obtain ⟨tb, pb, rb⟩ := ha
  refine ⟨_, pe_makeG (E := fun _ _ _ => False) mk fn hr hg hm bi hd pb hdb he hpl, fun m F S σ H env d S' Q s en h p => ?_⟩
  obtain ⟨⟨xs, S1⟩, h1, h⟩ := bind_some h
  obtain ⟨vals, hv, h⟩ := map_some h
  cases h
  obtain ⟨h2, hnr⟩ := spec S1 _ vals hv
  refine rb m F S σ H env xs S1 _ s en h1 fun m1 F1 us H1 x1 s1 r1 q dx hq hdx hne => ?_
  have hnm : dx ∉ m1 := fun hmem => by
    obtain ⟨o, ho⟩ := s1.there hmem
    rw [ho] at hdx
    cases hdx
  have hnf : F1 dx = none := by
    cases e : F1 dx with
    | none => rfl
    | some o =>
      have := s1.same _ _ e
      rw [hdx] at this
      cases this
  have s2 := s1.hidden hnm hnf (.own q)
  have x2 := (Ext.refl m1 F1 H1).put hdx (.own q)
  have hq2 : upd H1 dx (.own q) q = none := by
    rw [upd_ne (fun e => hne e.symm)]
    exact hq
  obtain ⟨s3, x3⟩ := s2.fresh hq2 (o := .ins C dx []) (c := .ins x [] []) ⟨C, dx, [], rfl, hct, rfl, rfl⟩
  have hl : (m1 ++ [q])[S1.length]? = some q := by rw [← s1.len]; simp
  have rr : Reps X.K ct (m1 ++ [q]) F1 (.ref S1.length :: (xs ++ dds)) (.ref q :: (us ++ dvs)) := ⟨.ref q, us ++ dvs, rfl, ⟨q, hl, rfl⟩, ((r1.mono x2).mono x3).append (hdr _ _)⟩
  refine ⟨?_, m1 ++ [q], F1, S1 ++ [.ins x [] []], .ref S1.length :: (xs ++ dds), .non, _, s3, rr, h2, fun m' F' v H' x' s' r' => ⟨r', ?_⟩⟩
  · rw [← rr.length, List.length_cons, List.length_append, hn _ _ _ _ h1]
  · have xx : Ext m1 F1 H1 m' F' H' := (x2.trans x3).trans x'
    obtain ⟨s4, x4⟩ := drop_sim (Old.refl S1) s1 xx s'
    have q1 : m'[S1.length]? = some q := x'.pre _ _ hl
    have hL : (S1 ++ [Cell.ins x fs vals])[S1.length]? = some (.ins x fs vals) := by simp
    obtain ⟨C', dx', vs', c1, c2, c3, c4⟩ := s'.cell _ q _ q1 hL
    rw [hct] at c2
    cases c2
    have mL : q ∈ m' := List.mem_iff_getElem?.mpr ⟨_, q1⟩
    have fL : F' q = none := s'.off q mL
    have nL : q ∉ m'.take S1.length := fun hm => by
      obtain ⟨i, hi⟩ := List.mem_iff_getElem?.mp hm
      have hil : i < S1.length := by
        have := (List.getElem?_eq_some_iff.mp hi).1
        rw [List.length_take] at this
        omega
      rw [List.getElem?_take_of_lt hil] at hi
      have := nodup_inj s'.nd hi q1
      omega
    exact p _ (upd F' q (.ins C dx' (fs.zip vs'))) (.ref q) H' (x1.trans (x4.freeze hq fL _)) (s4.freeze nL fL c1) ⟨q, C, dx', vs', rfl, hct, upd_same, c3, Reps.mono' (fun _ _ q => q) (same_upd fL _) _ _ (Reps.noref _ _ hnr c4)⟩
theorem makerF_of {P : Program} {w : World} {K : PySem.W.Frag} {mg : Str → Option Value} {base : Heap} {ct : CT} {k n : Nat} {x : Str} {fs : List Str} {dds : List D} {g : FD} {g' : List D → Option (List D)} (M : Maker P w K mg base ct k x dds n g) (h : MkSpec x fs g g') : MakerF P w K mg base ct k x fs dds n g' := ⟨g, M, h⟩
end DL
namespace DL
open PySem PySem.Spec PyProof.Rows L2
section
variable {α β : Type} {env : DEnv} {S S1 : Sto} {f1 f2 : FS} {t u : FT} {f fa fb fc fo fe fv fk fx : FE} {fas : FA} {P : D → Sto → Prop} {PA : List D → Sto → Prop} {PT : Bool → Sto → Prop} {PS : Fl → Sto → Prop} {PG : DEnv → Sto → Prop}
theorem R_some {a : α} {P : α → Sto → Prop} : R (some (a, S)) P ↔ P a S := ⟨fun ⟨_, _, e, p⟩ => by cases e; exact p, fun p => ⟨_, _, rfl, p⟩⟩
theorem R_none {P : α → Sto → Prop} : R (none : Option (α × Sto)) P ↔ False := ⟨fun ⟨_, _, e, _⟩ => (by cases e), False.elim⟩
theorem R_bind {o : Option (α × Sto)} {k : α × Sto → Option (β × Sto)} {P : β → Sto → Prop} : R (o.bind k) P ↔ R o fun a S => R (k (a, S)) P := by
  cases o with
  | none => simp only [Option.bind_none, R_none]
  | some a => obtain ⟨a, S'⟩ := a; simp only [Option.bind_some, R_some]
theorem R_ite {c : Prop} [Decidable c] {x y : Option (α × Sto)} {P : α → Sto → Prop} : R (if c then x else y) P ↔ if c then R x P else R y P := by
  split <;> exact Iff.rfl
theorem R_cond {c : Prop} [Decidable c] {a : α} {P : α → Sto → Prop} : R (if c then some (a, S) else none) P ↔ c ∧ P a S := by
  by_cases h : c
  · rw [if_pos h, R_some]; exact ⟨fun p => ⟨h, p⟩, fun p => p.2⟩
  · rw [if_neg h, R_none]; exact ⟨False.elim, fun p => h p.1⟩
/-- by the kind of a value -/
def WB : D → (Bool → Prop) → Prop
  | .bl b, P => P b
  | _, _ => False
def WI : D → (Int → Prop) → Prop
  | .int b, P => P b
  | _, _ => False
def WStr : D → (Str → Prop) → Prop
  | .str b, P => P b
  | _, _ => False
def WTup : D → (List D → Prop) → Prop
  | .tup b, P => P b
  | _, _ => False
def WLst : D → (List D → Prop) → Prop
  | .lst b, P => P b
  | _, _ => False
def WRef : D → (Nat → Prop) → Prop
  | .ref b, P => P b
  | _, _ => False
theorem wb_bl {b : Bool} {P : Bool → Prop} : WB (.bl b) P ↔ P b := Iff.rfl
theorem wi_int {b : Int} {P : Int → Prop} : WI (.int b) P ↔ P b := Iff.rfl
theorem wstr_str {b : Str} {P : Str → Prop} : WStr (.str b) P ↔ P b := Iff.rfl
theorem wtup_tup {b : List D} {P : List D → Prop} : WTup (.tup b) P ↔ P b := Iff.rfl
theorem wlst_lst {b : List D} {P : List D → Prop} : WLst (.lst b) P ↔ P b := Iff.rfl
theorem wref_ref {b : Nat} {P : Nat → Prop} : WRef (.ref b) P ↔ P b := Iff.rfl
theorem wp_var0 {d : D} {r : DEnv} : R (fVar 0 (some d :: r) S) P ↔ P d S := R_some
theorem wp_varS {n : Nat} {x : Option D} {r : DEnv} : R (fVar (n + 1) (x :: r) S) P ↔ R (fVar n r S) P := by
  unfold fVar
  rw [List.getElem?_cons_succ]
theorem wp_C {d : D} : R (fC d env S) P ↔ P d S := R_some
theorem wp_Bin {g : D → D → Sto → Option (D × Sto)} : R (fBin g fa fb env S) P ↔ R (fa env S) fun x S1 => R (fb env S1) fun y S2 => R (g x y S2) P := by unfold fBin; simp only [R_bind]
theorem wp_neg : R (fUn gNeg fa env S) P ↔ R (fa env S) fun x S1 => WI x fun i => P (.int (-i)) S1 := by
  unfold fUn
  simp only [R_bind]
  refine ⟨fun ⟨d, S1, e, q⟩ => ⟨d, S1, e, ?_⟩, fun ⟨d, S1, e, q⟩ => ⟨d, S1, e, ?_⟩⟩
  · cases d <;> first | exact (R_none.mp q).elim | exact R_some.mp q
  · cases d <;> first | exact q.elim | exact R_some.mpr q
theorem wp_nil : R (fNil env S) PA ↔ PA [] S := R_some
theorem wp_cons : R (fCons f fas env S) PA ↔ R (f env S) fun d S1 => R (fas env S1) fun ds S2 => PA (d :: ds) S2 := by unfold fCons; simp only [R_bind, R_some]
theorem wp_tup : R (fTup fas env S) P ↔ R (fas env S) fun ds S1 => ds.length ≤ 1000 ∧ P (.tup ds) S1 := by unfold fTup; simp only [R_bind, R_cond]
theorem wp_lst : R (fLst fas env S) P ↔ R (fas env S) fun ds S1 => ds.length ≤ 1000 ∧ P (.lst ds) S1 := by unfold fLst; simp only [R_bind, R_cond]
theorem wp_lstM : R (fLstM fas env S) P ↔ R (fas env S) fun ds S1 => ds.length ≤ 1000 ∧ P (.ref S1.length) (S1 ++ [.lst ds]) := by unfold fLstM; simp only [R_bind, R_cond]
theorem wp_Call {g : FD} : R (fCall g fas env S) P ↔ R (fas env S) fun ds S1 => R (g ds S1) P := by unfold fCall; simp only [R_bind]
theorem wp_And : R (fAnd fa fb env S) P ↔ R (fa env S) fun d S1 => WB d fun b => if b = true then R (fb env S1) P else P (.bl false) S1 := by
  unfold fAnd
  simp only [R_bind]
  refine ⟨fun ⟨d, S1, e, q⟩ => ⟨d, S1, e, ?_⟩, fun ⟨d, S1, e, q⟩ => ⟨d, S1, e, ?_⟩⟩
  · cases d <;> first | exact (R_none.mp q).elim | skip
    rename_i b
    cases b
    · exact R_some.mp q
    · exact q
  · cases d <;> first | exact q.elim | skip
    rename_i b
    cases b
    · exact R_some.mpr q
    · exact q
theorem wp_Or : R (fOr fa fb env S) P ↔ R (fa env S) fun d S1 => WB d fun b => if b = true then P (.bl true) S1 else R (fb env S1) P := by
  unfold fOr
  simp only [R_bind]
  refine ⟨fun ⟨d, S1, e, q⟩ => ⟨d, S1, e, ?_⟩, fun ⟨d, S1, e, q⟩ => ⟨d, S1, e, ?_⟩⟩
  · cases d <;> first | exact (R_none.mp q).elim | skip
    rename_i b
    cases b
    · exact q
    · exact R_some.mp q
  · cases d <;> first | exact q.elim | skip
    rename_i b
    cases b
    · exact q
    · exact R_some.mpr q
theorem wp_Not : R (fNot fa env S) P ↔ R (fa env S) fun d S1 => WB d fun b => P (.bl (!b)) S1 := by
  unfold fNot
  simp only [R_bind]
  refine ⟨fun ⟨d, S1, e, q⟩ => ⟨d, S1, e, ?_⟩, fun ⟨d, S1, e, q⟩ => ⟨d, S1, e, ?_⟩⟩
  · cases d <;> first | exact (R_none.mp q).elim | exact R_some.mp q
  · cases d <;> first | exact q.elim | exact R_some.mpr q
theorem wp_Test : R (fTest f env S) PT ↔ R (f env S) fun d S1 => WB d fun b => PT b S1 := by
  unfold fTest
  simp only [R_bind]
  refine ⟨fun ⟨d, S1, e, q⟩ => ⟨d, S1, e, ?_⟩, fun ⟨d, S1, e, q⟩ => ⟨d, S1, e, ?_⟩⟩
  · cases d <;> first | exact (R_none.mp q).elim | exact R_some.mp q
  · cases d <;> first | exact q.elim | exact R_some.mpr q
theorem wp_tAnd : R (tAndD t u env S) PT ↔ R (t env S) fun b S1 => if b = true then R (u env S1) PT else PT false S1 := by unfold tAndD; simp only [R_bind, R_ite, R_some]
theorem wp_tOr : R (tOrD t u env S) PT ↔ R (t env S) fun b S1 => if b = true then PT true S1 else R (u env S1) PT := by unfold tOrD; simp only [R_bind, R_ite, R_some]
theorem wp_tNot : R (tNotD t env S) PT ↔ R (t env S) fun b S1 => PT (!b) S1 := by unfold tNotD; simp only [R_bind, R_some]
theorem wp_If : R (fIf t fa fb env S) P ↔ R (t env S) fun b S1 => if b = true then R (fa env S1) P else R (fb env S1) P := by unfold fIf; simp only [R_bind, R_ite]
theorem wp_Chain {g g' : D → D → Sto → Option (D × Sto)} : R (fChain g g' fa fb fc env S) P ↔ R (fa env S) fun x S1 => R (fb env S1) fun y S2 => R (g x y S2) fun z S3 => WB z fun b => if b = true then R (fc env S3) fun w S4 => R (g' y w S4) P else P (.bl false) S3 := by
  unfold fChain
  simp only [R_bind]
  refine ⟨fun ⟨x, S1, e, y, S2, e2, z, S3, e3, q⟩ => ⟨x, S1, e, y, S2, e2, z, S3, e3, ?_⟩, fun ⟨x, S1, e, y, S2, e2, z, S3, e3, q⟩ => ⟨x, S1, e, y, S2, e2, z, S3, e3, ?_⟩⟩
  · cases z <;> first | exact (R_none.mp q).elim | skip
    rename_i b
    cases b
    · exact R_some.mp q
    · exact R_bind.mp q
  · cases z <;> first | exact q.elim | skip
    rename_i b
    cases b
    · exact R_some.mpr q
    · exact R_bind.mpr q
theorem wp_Skip : R (sSkip env S) PS ↔ PS (.nx env) S := R_some
theorem wp_Break : R (sBreak env S) PS ↔ PS (.bk env) S := R_some
theorem wp_Cont : R (sCont env S) PS ↔ PS (.ct env) S := R_some
theorem wp_Never : R (sNever env S) PS ↔ False := R_none
theorem wp_fNever : R (fNever env S) P ↔ False := R_none
theorem wp_Seq : R (sSeq f1 f2 env S) PS ↔ R (f1 env S) (PFl PS f2) := by
  refine ⟨fun ⟨a, S', e, p⟩ => ?_, r_seq⟩
  unfold sSeq at e
  obtain ⟨⟨fl, S1⟩, h1, h⟩ := bind_some e
  refine ⟨fl, S1, h1, ?_⟩
  cases fl <;> first | exact ⟨_, _, h, p⟩ | (cases h; exact p)
theorem wp_pfl_nx {e : DEnv} : PFl PS f2 (.nx e) S ↔ R (f2 e S) PS := Iff.rfl
theorem wp_pfl_rt {d : D} : PFl PS f2 (.rt d) S ↔ PS (.rt d) S := Iff.rfl
theorem wp_pfl_bk {e : DEnv} : PFl PS f2 (.bk e) S ↔ PS (.bk e) S := Iff.rfl
theorem wp_pfl_ct {e : DEnv} : PFl PS f2 (.ct e) S ↔ PS (.ct e) S := Iff.rfl
theorem wp_Expr : R (sExpr f env S) PS ↔ R (f env S) fun _ S1 => PS (.nx env) S1 := by unfold sExpr; simp only [R_bind, R_some]
theorem wp_Ret : R (sRet f env S) PS ↔ R (f env S) fun d S1 => PS (.rt d) S1 := by unfold sRet; simp only [R_bind, R_some]
theorem wp_sIf : R (sIf t f1 f2 env S) PS ↔ R (t env S) fun b S1 => if b = true then R (f1 env S1) PS else R (f2 env S1) PS := by unfold sIf; simp only [R_bind, R_ite]
theorem R_map {o : Option (α × Sto)} {k : α × Sto → β × Sto} {P : β → Sto → Prop} : R (o.map k) P ↔ R o fun a S => P (k (a, S)).1 (k (a, S)).2 := by
  cases o with
  | none => simp only [Option.map_none, R_none]
  | some a => obtain ⟨a, S'⟩ := a; simp only [Option.map_some]; rw [R_some (P := fun a S => P (k (a, S)).1 (k (a, S)).2)]; exact R_some
theorem wp_Asg {g : FG} : R (sAsg f g env S) PS ↔ R (f env S) fun d S1 => R (g d env S1) fun e S2 => PS (.nx e) S2 := by unfold sAsg; simp only [R_bind, R_map]
theorem wp_N {i : Nat} {d : D} : R (gN i d env S) PG ↔ PG (env.set i (some d)) S := R_some
theorem wp_gNil : R (gNil [] env S) PG ↔ PG env S := R_some
theorem wp_gCons {g : FG} {gs : FGs} {d : D} {ds : List D} : R (gCons g gs (d :: ds) env S) PG ↔ R (g d env S) fun e S1 => R (gs ds e S1) PG := R_bind
theorem wp_gTup {n : Nat} {gs : FGs} {ds : List D} : R (gTup n gs (.tup ds) env S) PG ↔ ds.length = n ∧ R (gs ds env S) PG := by
  show R (if ds.length = n then gs ds env S else none) PG ↔ _
  by_cases h : ds.length = n
  · rw [if_pos h]; exact ⟨fun p => ⟨h, p⟩, fun p => p.2⟩
  · rw [if_neg h, R_none]; exact ⟨False.elim, fun p => h p.1⟩
/-- o[i] = v -/
def RU (o : Option Sto) (Q : Sto → Prop) : Prop := ∃ S, o = some S ∧ Q S
theorem wp_gSub {g : D → D → D → Sto → Option Sto} {d : D} : R (gSub g fa fb d env S) PG ↔ R (fa env S) fun x S1 => R (fb env S1) fun y S2 => RU (g x y d S2) (PG env) := by
  unfold gSub
  simp only [R_bind]
  refine ⟨fun ⟨x, S1, e, y, S2, e2, q⟩ => ⟨x, S1, e, y, S2, e2, ?_⟩, fun ⟨x, S1, e, y, S2, e2, q⟩ => ⟨x, S1, e, y, S2, e2, ?_⟩⟩
  · obtain ⟨a, S3, e3, p⟩ := q
    obtain ⟨S4, h1, h2⟩ := map_some e3
    cases h2
    exact ⟨_, h1, p⟩
  · obtain ⟨S3, e3, p⟩ := q
    exact ⟨_, _, by rw [e3]; rfl, p⟩
theorem wp_Par {i j : Nat} : R (sPar i j fas env S) PS ↔ R (fas env S) fun ds S1 => ∃ v w, ds = [v, w] ∧ PS (.nx ((env.set i (some v)).set j (some w))) S1 := by
  refine ⟨fun h => ?_, r_par⟩
  unfold sPar at h
  rw [R_bind] at h
  obtain ⟨ds, S1, e, q⟩ := h
  refine ⟨ds, S1, e, ?_⟩
  match ds, q with
  | [v, w], q => exact ⟨v, w, rfl, R_some.mp q⟩
  | [], q => exact (R_none.mp q).elim
  | [_], q => exact (R_none.mp q).elim
  | _ :: _ :: _ :: _, q => exact (R_none.mp q).elim
theorem wp_two {v w : D} {Q : D → D → Prop} : (∃ a b, [v, w] = [a, b] ∧ Q a b) ↔ Q v w := ⟨fun ⟨a, b, e, q⟩ => by cases e; exact q, fun q => ⟨v, w, rfl, q⟩⟩
theorem wp_Run {n : Nat} {g : FS} {ds : List D} : R (runD n g ds S) P ↔ R (g (ds.map some ++ List.replicate (n - ds.length) none) S) (PRun P) := by
  unfold runD
  simp only [R_bind]
  refine ⟨fun ⟨x, S1, e, q⟩ => ⟨x, S1, e, ?_⟩, fun ⟨x, S1, e, q⟩ => ⟨x, S1, e, ?_⟩⟩
  · cases x <;> first | exact (R_some (P := P)).mp q | exact (R_none (P := P)).mp q
  · cases x <;> first | exact (R_some (P := P)).mpr q | exact (R_none (P := P)).mpr q
theorem wp_run_rt {d : D} : PRun P (.rt d) S ↔ P d S := Iff.rfl
theorem wp_run_nx {e : DEnv} : PRun P (.nx e) S ↔ P .non S := Iff.rfl
theorem wp_bk_nx {I : DEnv → Sto → Prop} {e : DEnv} : PBk I PS (.nx e) S ↔ I e S := Iff.rfl
theorem wp_bk_ct {I : DEnv → Sto → Prop} {e : DEnv} : PBk I PS (.ct e) S ↔ I e S := Iff.rfl
theorem wp_bk_bk {I : DEnv → Sto → Prop} {e : DEnv} : PBk I PS (.bk e) S ↔ PS (.nx e) S := Iff.rfl
theorem wp_bk_rt {I : DEnv → Sto → Prop} {d : D} : PBk I PS (.rt d) S ↔ PS (.rt d) S := Iff.rfl
theorem wp_For {fi : FA} {g : FG} : R (sFor fi g f1 env S) PS ↔ R (fi env S) fun xs S1 => R (forD g f1 xs env S1) PS := by unfold sFor; simp only [R_bind]
theorem wp_iLst : R (iLst f env S) PA ↔ R (f env S) fun d S1 => WLst d fun ds => PA ds S1 := by
  unfold iLst
  simp only [R_bind]
  refine ⟨fun ⟨d, S1, e, q⟩ => ⟨d, S1, e, ?_⟩, fun ⟨d, S1, e, q⟩ => ⟨d, S1, e, ?_⟩⟩
  · cases d <;> first | exact (R_none.mp q).elim | exact R_some.mp q
  · cases d <;> first | exact q.elim | exact R_some.mpr q
theorem wp_iTup : R (iTup f env S) PA ↔ R (f env S) fun d S1 => WTup d fun ds => PA ds S1 := by
  unfold iTup
  simp only [R_bind]
  refine ⟨fun ⟨d, S1, e, q⟩ => ⟨d, S1, e, ?_⟩, fun ⟨d, S1, e, q⟩ => ⟨d, S1, e, ?_⟩⟩
  · cases d <;> first | exact (R_none.mp q).elim | exact R_some.mp q
  · cases d <;> first | exact q.elim | exact R_some.mpr q
theorem wp_iR1 : R (iRange1 fas env S) PA ↔ R (fas env S) fun ds S1 => ∃ j, ds = [.int j] ∧ okR j = true ∧ PA (rangeD 0 j) S1 := by
  unfold iRange1
  simp only [R_bind]
  refine ⟨fun ⟨d, S1, e, q⟩ => ⟨d, S1, e, ?_⟩, fun ⟨d, S1, e, q⟩ => ⟨d, S1, e, ?_⟩⟩
  · dsimp only at q
    split at q
    · rename_i j
      rw [R_cond] at q
      exact ⟨j, rfl, q.1, q.2⟩
    · exact (R_none.mp q).elim
  · obtain ⟨j, rfl, h1, h2⟩ := q
    exact R_cond.mpr ⟨h1, h2⟩
theorem wp_iR2 : R (iRange2 fas env S) PA ↔ R (fas env S) fun ds S1 => ∃ i j, ds = [.int i, .int j] ∧ (okR i = true ∧ okR j = true) ∧ PA (rangeD i j) S1 := by
  unfold iRange2
  simp only [R_bind]
  refine ⟨fun ⟨d, S1, e, q⟩ => ⟨d, S1, e, ?_⟩, fun ⟨d, S1, e, q⟩ => ⟨d, S1, e, ?_⟩⟩
  · dsimp only at q
    split at q
    · rename_i i j
      rw [R_cond] at q
      exact ⟨i, j, rfl, q.1, q.2⟩
    · exact (R_none.mp q).elim
  · obtain ⟨i, j, rfl, h1, h2⟩ := q
    exact R_cond.mpr ⟨h1, h2⟩
theorem wp_r1 {i : Int} {Q : Int → Prop} : (∃ j, [D.int i] = [D.int j] ∧ Q j) ↔ Q i := ⟨fun ⟨a, e, q⟩ => by cases e; exact q, fun q => ⟨i, rfl, q⟩⟩
theorem wp_r2 {i j : Int} {Q : Int → Int → Prop} : (∃ a b, [D.int i, D.int j] = [D.int a, D.int b] ∧ Q a b) ↔ Q i j := ⟨fun ⟨a, b, e, q⟩ => by cases e; exact q, fun q => ⟨i, j, rfl, q⟩⟩
theorem wp_add {i j : Int} : R (gAdd (.int i) (.int j) S) P ↔ P (.int (i + j)) S := R_some
theorem wp_addL {a b : List D} : R (gAdd (.lst a) (.lst b) S) P ↔ a.length + b.length ≤ 16777216 ∧ P (.lst (a ++ b)) S := R_cond
theorem wp_addS {a b : Str} : R (gAdd (.str a) (.str b) S) P ↔ a.length + b.length ≤ 16777216 ∧ P (.str (a ++ b)) S := R_cond
theorem wp_I0 {k : Int → Int → D} {i j : Int} : R (gI0 k (.int i) (.int j) S) P ↔ P (k i j) S := R_some
theorem wp_mul {i j : Int} : R (gI (fun i j => smallI i && smallI j) (fun i j => .int (i * j)) (.int i) (.int j) S) P ↔ (smallI i = true ∧ smallI j = true) ∧ P (.int (i * j)) S := by
  rw [← Bool.and_eq_true]
  exact R_cond
def lgI (j : Int) : Prop := j.natAbs.log2 < 9000
theorem wp_fdiv {i j : Int} : R (gI (fun _ j => decide (0 < j) && decide (j.natAbs.log2 < 9000)) (fun i j => .int (i / j)) (.int i) (.int j) S) P ↔ (0 < j ∧ lgI j) ∧ P (.int (i / j)) S := by
  have e : ((decide (0 < j) && decide (j.natAbs.log2 < 9000)) = true) ↔ (0 < j ∧ lgI j) := by simp [lgI]
  rw [← e]
  exact R_cond
theorem wp_mod {i j : Int} : R (gI (fun _ j => decide (0 < j)) (fun i j => .int (i % j)) (.int i) (.int j) S) P ↔ 0 < j ∧ P (.int (i % j)) S := by
  have e : (decide (0 < j) = true) ↔ 0 < j := by simp
  rw [← e]
  exact R_cond
theorem wp_eqI {i j : Int} : R (gEq (.int i) (.int j) S) P ↔ P (.bl (decide (i = j))) S := R_some
theorem wp_eqS {i j : Str} : R (gEq (.str i) (.str j) S) P ↔ P (.bl (decide (i = j))) S := R_some
theorem wp_eqB {i j : Bool} : R (gEq (.bl i) (.bl j) S) P ↔ P (.bl (decide (i = j))) S := R_some
theorem wp_neI {i j : Int} : R (gNe (.int i) (.int j) S) P ↔ P (.bl (!decide (i = j))) S := R_some
theorem wp_neS {i j : Str} : R (gNe (.str i) (.str j) S) P ↔ P (.bl (!decide (i = j))) S := R_some
theorem wp_neB {i j : Bool} : R (gNe (.bl i) (.bl j) S) P ↔ P (.bl (!decide (i = j))) S := R_some
theorem wp_isN {x : D} : R (gIsN x .non S) P ↔ P (.bl (isNonD x)) S := by cases x <;> exact R_some
theorem wp_notN {x : D} : R (gNotN x .non S) P ↔ P (.bl (!isNonD x)) S := by cases x <;> exact R_some
theorem isn_int {i : Int} : isNonD (.int i) = false := rfl
theorem isn_non : isNonD .non = true := rfl
theorem isn_str {i : Str} : isNonD (.str i) = false := rfl
theorem isn_tup {i : List D} : isNonD (.tup i) = false := rfl
theorem isn_lst {i : List D} : isNonD (.lst i) = false := rfl
theorem isn_ref {i : Nat} : isNonD (.ref i) = false := rfl
theorem isn_bl {i : Bool} : isNonD (.bl i) = false := rfl
theorem wp_isi {T : String} : R (fIsi T f env S) P ↔ R (f env S) fun d S1 => ∃ b, isiT T d = some b ∧ P (.bl b) S1 := by
  unfold fIsi
  simp only [R_bind]
  refine ⟨fun ⟨d, S1, e, q⟩ => ⟨d, S1, e, ?_⟩, fun ⟨d, S1, e, q⟩ => ⟨d, S1, e, ?_⟩⟩
  · obtain ⟨a, S3, e3, p⟩ := q
    obtain ⟨b, h1, h2⟩ := map_some e3
    cases h2
    exact ⟨b, h1, p⟩
  · obtain ⟨b, e3, p⟩ := q
    exact ⟨_, _, by rw [e3]; rfl, p⟩
theorem wp_someB {b : Bool} {Q : Bool → Prop} : (∃ c, some b = some c ∧ Q c) ↔ Q b := ⟨fun ⟨a, e, q⟩ => by cases e; exact q, fun q => ⟨b, rfl, q⟩⟩
theorem isi_str_str {k : Str} : isiT "str" (.str k) = some true := rfl
theorem isi_int_int {k : Int} : isiT "int" (.int k) = some true := rfl
theorem isi_int_bl {k : Bool} : isiT "int" (.bl k) = some true := rfl
theorem isi_bool_int {k : Int} : isiT "bool" (.int k) = some false := rfl
theorem isi_bool_bl {k : Bool} : isiT "bool" (.bl k) = some true := rfl
theorem isi_int_non : isiT "int" .non = some false := rfl
theorem isi_int_str {k : Str} : isiT "int" (.str k) = some false := rfl
theorem isi_tuple_tup {k : List D} : isiT "tuple" (.tup k) = some true := rfl
theorem wp_abs {i : Int} : R (cAbs [.int i] S) P ↔ P (.int (if i < 0 then -i else i)) S := R_some
theorem wp_max2 {i j : Int} : R (cMax2 [.int i, .int j] S) P ↔ P (.int (if j > i then j else i)) S := R_some
theorem wp_min2 {i j : Int} : R (cMin2 [.int i, .int j] S) P ↔ P (.int (if j < i then j else i)) S := R_some
theorem wp_maxT {i j : Int} : R (cMaxT [.tup [.int i, .int j]] S) P ↔ P (.int (if j > i then j else i)) S := R_some
theorem wp_intI {i : Int} : R (cInt [.int i] S) P ↔ P (.int i) S := R_some
theorem wp_intB {i : Bool} : R (cInt [.bl i] S) P ↔ P (.int (if i then 1 else 0)) S := R_some
theorem wp_lenS {x : Str} : R (cLen [.str x] S) P ↔ x.length ≤ 16777216 ∧ P (.int x.length) S := R_cond
theorem wp_lenT {x : List D} : R (cLen [.tup x] S) P ↔ P (.int x.length) S := R_some
theorem wp_lenL {x : List D} : R (cLen [.lst x] S) P ↔ P (.int x.length) S := R_some
theorem wp_lenC {x : List Int} : R (cLen [.scr x] S) P ↔ P (.int x.length) S := R_some
theorem wp_divmod {i j : Int} : R (cDivmod [.int i, .int j] S) P ↔ (0 < j ∧ lgI j) ∧ P (.tup [.int (i / j), .int (i % j)]) S := R_cond
theorem wp_listL {x : List D} : R (cList [.lst x] S) P ↔ P (.lst x) S := R_some
theorem wp_listT {x : List D} : R (cList [.tup x] S) P ↔ P (.lst x) S := R_some
theorem wp_tupL {x : List D} : R (cTuple [.lst x] S) P ↔ P (.tup x) S := R_some
theorem wp_tupT {x : List D} : R (cTuple [.tup x] S) P ↔ P (.tup x) S := R_some
theorem wp_KIn {neg : Bool} {tab : List (Str × Int)} : R (fKIn neg tab f env S) P ↔ R (f env S) fun d S1 => ∃ s, d = .str s ∧ P (.bl (if neg then !(tab.lookup s).isSome else (tab.lookup s).isSome)) S1 := by
  unfold fKIn
  simp only [R_bind]
  refine ⟨fun ⟨d, S1, e, q⟩ => ⟨d, S1, e, ?_⟩, fun ⟨d, S1, e, q⟩ => ⟨d, S1, e, ?_⟩⟩
  · cases d <;> first | exact (R_none.mp q).elim | exact ⟨_, rfl, R_some.mp q⟩
  · obtain ⟨s, rfl, q⟩ := q
    exact R_some.mpr q
theorem wp_strE {s : Str} {Q : Str → Prop} : (∃ z, D.str s = D.str z ∧ Q z) ↔ Q s := ⟨fun ⟨a, e, q⟩ => by cases e; exact q, fun q => ⟨s, rfl, q⟩⟩
theorem wp_Fld {c x : Str} : R (fFld c x f env S) P ↔ R (f env S) fun d S1 => ∃ q, insOf c d S1 = some q ∧ ∃ v, getF q.1 q.2 x = some v ∧ P v S1 := by
  unfold fFld
  simp only [R_bind]
  refine ⟨fun ⟨d, S1, e, q⟩ => ⟨d, S1, e, ?_⟩, fun ⟨d, S1, e, q⟩ => ⟨d, S1, e, ?_⟩⟩
  · obtain ⟨a, S3, e3, p⟩ := q
    obtain ⟨q1, h1, h2⟩ := bind_some e3
    obtain ⟨v, h3, h4⟩ := map_some h2
    cases h4
    exact ⟨q1, h1, _, h3, p⟩
  · obtain ⟨q1, h1, v, h3, p⟩ := q
    exact ⟨_, _, by rw [h1]; show ((getF q1.1 q1.2 x).map _) = _; rw [h3]; rfl, p⟩
theorem wp_FldO {c c' x : Str} {fs : List Str} {ds : List D} {Q : D → Prop} : (∃ q, insOf c (.obj c' fs ds) S = some q ∧ ∃ v, getF q.1 q.2 x = some v ∧ Q v) ↔ c' = c ∧ ∃ v, getF fs ds x = some v ∧ Q v := by
  show (∃ q, (if c' = c then some (fs, ds) else none) = some q ∧ _) ↔ _
  by_cases h : c' = c
  · rw [if_pos h]
    exact ⟨fun ⟨q, e, z⟩ => by cases e; exact ⟨h, z⟩, fun ⟨_, z⟩ => ⟨_, rfl, z⟩⟩
  · rw [if_neg h]
    exact ⟨fun ⟨q, e, z⟩ => (by cases e), fun ⟨z, _⟩ => absurd z h⟩
theorem wp_Meth {c x : Str} {g : FD} : R (fMeth c x g fo fas env S) P ↔ R (fo env S) fun d S1 => (∃ q, insOf c d S1 = some q ∧ hasF q.1 x = false) ∧ R (fas env S1) fun ds S2 => R (g (d :: ds) S2) P := by
  unfold fMeth
  simp only [R_bind]
  refine ⟨fun ⟨d, S1, e, q⟩ => ⟨d, S1, e, ?_⟩, fun ⟨d, S1, e, q⟩ => ⟨d, S1, e, ?_⟩⟩
  · obtain ⟨a, S3, e3, p⟩ := q
    obtain ⟨q1, h1, h2⟩ := bind_some e3
    split at h2
    · rename_i hh
      obtain ⟨⟨ds, S4⟩, h3, h4⟩ := bind_some h2
      exact ⟨⟨q1, h1, hh⟩, ds, S4, h3, a, S3, h4, p⟩
    · cases h2
  · obtain ⟨⟨q1, h1, hh⟩, ds, S4, h3, a, S3, h4, p⟩ := q
    refine ⟨a, S3, ?_, p⟩
    rw [h1]
    show (if hasF q1.1 x = false then _ else _) = _
    rw [if_pos hh, h3]
    exact h4
theorem wp_MakeF {c : Str} {fs : List Str} {g' : List D → Option (List D)} {dds : List D} : R (fMakeF c fs g' dds fas env S) P ↔ R (fas env S) fun ds S1 => ∃ vals, g' (ds ++ dds) = some vals ∧ P (.obj c fs vals) S1 := by
  unfold fMakeF
  simp only [R_bind]
  refine ⟨fun ⟨d, S1, e, q⟩ => ⟨d, S1, e, ?_⟩, fun ⟨d, S1, e, q⟩ => ⟨d, S1, e, ?_⟩⟩
  · obtain ⟨a, S3, e3, p⟩ := q
    obtain ⟨b, h1, h2⟩ := map_some e3
    cases h2
    exact ⟨b, h1, p⟩
  · obtain ⟨b, e3, p⟩ := q
    exact ⟨_, _, by rw [e3]; rfl, p⟩
theorem wp_someL {b : List D} {Q : List D → Prop} : (∃ c, some b = some c ∧ Q c) ↔ Q b := ⟨fun ⟨a, e, q⟩ => by cases e; exact q, fun q => ⟨b, rfl, q⟩⟩
end
def Bd (k : Nat) (i : Int) : Prop := i.natAbs < 2 ^ k
theorem small_bd {a : Nat} {i : Int} (h : Bd a i) (g : a ≤ 400000) (g0 : 0 < a) : smallI i = true := by
  unfold smallI
  refine decide_eq_true ?_
  by_cases e : i.natAbs = 0
  · rw [e]; decide
  · exact Nat.lt_of_lt_of_le ((Nat.log2_lt e).mpr h) g
theorem lg_bd {a : Nat} {i : Int} (h : Bd a i) (g : a ≤ 9000) : lgI i := by
  unfold lgI
  by_cases e : i.natAbs = 0
  · rw [e]; decide
  · exact Nat.lt_of_lt_of_le ((Nat.log2_lt e).mpr h) g
end DL
namespace DL
open PySem PySem.Spec PyProof.Rows L2
section
variable {α β : Type} {env : DEnv} {S S1 : Sto} {f1 f2 : FS} {t u : FT} {f fa fb fc fo fe fv fk fx : FE} {fas : FA} {P : D → Sto → Prop} {PA : List D → Sto → Prop} {PT : Bool → Sto → Prop} {PS : Fl → Sto → Prop} {PG : DEnv → Sto → Prop}
theorem wp_sFld {c x : Str} : R (sFldD c x fo fv env S) PS ↔ R (fv env S) fun v S1 => R (fo env S1) fun d S2 => ∃ i, d = .ref i ∧ ∃ c' fs ds, S2[i]? = some (.ins c' fs ds) ∧ (c' = c ∧ fs.length < 900) ∧ PS (.nx env) (S2.set i (.ins c (putN fs x) (putD fs ds x v))) := by
  unfold sFldD
  simp only [R_bind]
  refine ⟨fun ⟨v, S1, e, d, S2, e2, q⟩ => ⟨v, S1, e, d, S2, e2, ?_⟩, fun ⟨v, S1, e, d, S2, e2, q⟩ => ⟨v, S1, e, d, S2, e2, ?_⟩⟩
  · cases d with
    | ref i =>
      dsimp only at q
      split at q
      · rename_i c' fs ds hc
        rw [R_cond] at q
        exact ⟨i, rfl, c', fs, ds, hc, q.1, q.2⟩
      · exact (R_none.mp q).elim
    | _ => exact (R_none.mp q).elim
  · obtain ⟨i, rfl, c', fs, ds, h1, h2, h3⟩ := q
    dsimp only
    rw [h1]
    exact R_cond.mpr ⟨h2, h3⟩
theorem wp_last {c0 : Str} {f0 : List Str} {d0 : List D} {Q : Nat → Str → List Str → List D → Prop} : (∃ i, D.ref S.length = .ref i ∧ ∃ c' fs ds, (S ++ [Cell.ins c0 f0 d0])[i]? = some (.ins c' fs ds) ∧ Q i c' fs ds) ↔ Q S.length c0 f0 d0 := by
  have h : (S ++ [Cell.ins c0 f0 d0])[S.length]? = some (.ins c0 f0 d0) := by simp
  refine ⟨fun ⟨i, e, c', fs, ds, h1, q⟩ => ?_, fun q => ⟨_, rfl, _, _, _, h, q⟩⟩
  cases e
  rw [h] at h1
  cases h1
  exact q
theorem wp_KIx {tab : List (Str × Int)} : R (fKIx tab f env S) P ↔ R (f env S) fun d S1 => ∃ s, d = .str s ∧ ∃ v, tab.lookup s = some v ∧ P (.int v) S1 := by
  unfold fKIx
  simp only [R_bind]
  refine ⟨fun ⟨d, S1, e, q⟩ => ⟨d, S1, e, ?_⟩, fun ⟨d, S1, e, q⟩ => ⟨d, S1, e, ?_⟩⟩
  · cases d with
    | str s =>
      obtain ⟨a, S3, e3, p⟩ := q
      obtain ⟨b, h1, h2⟩ := map_some e3
      cases h2
      exact ⟨s, rfl, b, h1, p⟩
    | _ => exact (R_none.mp q).elim
  · obtain ⟨s, rfl, v, h1, p⟩ := q
    exact ⟨_, _, by show ((tab.lookup s).map _) = _; rw [h1]; rfl, p⟩
theorem wp_someX {b : α} {Q : α → Prop} : (∃ c, some b = some c ∧ Q c) ↔ Q b := ⟨fun ⟨a, e, q⟩ => by cases e; exact q, fun q => ⟨b, rfl, q⟩⟩
theorem wp_inT {neg : Bool} {k : Str} {ds : List D} : R (gInB neg (.str k) (.tup ds) S) P ↔ ds.all flatD = true ∧ P (.bl (if neg then !ds.any (fun z => eqF z (.str k)) else ds.any (fun z => eqF z (.str k)))) S := by
  show R (if flatD (.str k) = true ∧ ds.all flatD = true then _ else _) P ↔ _
  rw [R_cond]
  exact ⟨fun ⟨⟨_, h⟩, q⟩ => ⟨h, q⟩, fun ⟨h, q⟩ => ⟨⟨rfl, h⟩, q⟩⟩
theorem wp_inL {neg : Bool} {k : Str} {ds : List D} : R (gInB neg (.str k) (.lst ds) S) P ↔ ds.all flatD = true ∧ P (.bl (if neg then !ds.any (fun z => eqF z (.str k)) else ds.any (fun z => eqF z (.str k)))) S := by
  show R (if flatD (.str k) = true ∧ ds.all flatD = true then _ else _) P ↔ _
  rw [R_cond]
  exact ⟨fun ⟨⟨_, h⟩, q⟩ => ⟨h, q⟩, fun ⟨h, q⟩ => ⟨⟨rfl, h⟩, q⟩⟩
theorem wp_inS {neg : Bool} {k y : Str} : R (gInB neg (.str k) (.str y) S) P ↔ P (.bl (if neg then !(!(Builtin.Str.occurrences y k 0 y.length 1).isEmpty) else !(Builtin.Str.occurrences y k 0 y.length 1).isEmpty)) S := by
  cases neg <;> exact R_some
theorem eqF_str {a b : Str} : eqF (.str a) (.str b) = decide (a = b) := by
  by_cases h : a = b
  · subst h; simp [eqF]
  · simp [eqF, h]
theorem flat_str {a : Str} : flatD (.str a) = true := rfl
theorem flat_int {a : Int} : flatD (.int a) = true := rfl
theorem flat_non : flatD .non = true := rfl
theorem R_eq {o : Option (α × Sto)} {a : α} : (R o fun x S' => x = a ∧ S' = S) ↔ o = some (a, S) := ⟨R.eq, fun h => ⟨a, S, h, rfl, rfl⟩⟩
theorem wp_ixR {k : Nat} {i : Int} {ds : List D} (h : S[k]? = some (.lst ds)) : R (gIx (.ref k) (.int i) S) P ↔ ∃ d, L2.atI ds i = some d ∧ P d S := by
  unfold gIx
  simp only [h]
  rw [R]
  refine ⟨fun ⟨a, S', e, p⟩ => ?_, fun ⟨d, e, p⟩ => ⟨d, S, by rw [e]; rfl, p⟩⟩
  obtain ⟨d, h1, h2⟩ := map_some e
  cases h2
  exact ⟨_, h1, p⟩
theorem wp_ixL {i : Int} {ds : List D} : R (gIx (.lst ds) (.int i) S) P ↔ ∃ d, L2.atI ds i = some d ∧ P d S := by
  rw [R]
  refine ⟨fun ⟨a, S', e, p⟩ => ?_, fun ⟨d, e, p⟩ => ⟨d, S, by show (L2.atI ds i).map _ = _; rw [e]; rfl, p⟩⟩
  obtain ⟨d, h1, h2⟩ := map_some (show (L2.atI ds i).map _ = _ from e)
  cases h2
  exact ⟨_, h1, p⟩
theorem wp_ixT {i : Int} {ds : List D} : R (gIx (.tup ds) (.int i) S) P ↔ ∃ d, L2.atI ds i = some d ∧ P d S := by
  rw [R]
  refine ⟨fun ⟨a, S', e, p⟩ => ?_, fun ⟨d, e, p⟩ => ⟨d, S, by show (L2.atI ds i).map _ = _; rw [e]; rfl, p⟩⟩
  obtain ⟨d, h1, h2⟩ := map_some (show (L2.atI ds i).map _ = _ from e)
  cases h2
  exact ⟨_, h1, p⟩
theorem wp_ixC {i : Int} {ns : List Int} : R (gIx (.scr ns) (.int i) S) P ↔ ∃ d, L2.atI ns i = some d ∧ P (.int d) S := by
  rw [R]
  refine ⟨fun ⟨a, S', e, p⟩ => ?_, fun ⟨d, e, p⟩ => ⟨.int d, S, by show (L2.atI ns i).map _ = _; rw [e]; rfl, p⟩⟩
  obtain ⟨d, h1, h2⟩ := map_some (show (L2.atI ns i).map _ = _ from e)
  cases h2
  exact ⟨_, h1, p⟩
theorem wp_setR {k : Nat} {i : Int} {v : D} {ds : List D} {Q : Sto → Prop} (h : S[k]? = some (.lst ds)) : RU (gSetA (.ref k) (.int i) v S) Q ↔ ∃ j, ixN ds.length i = some j ∧ Q (S.set k (.lst (ds.set j v))) := by
  unfold gSetA
  simp only [h]
  rw [RU]
  refine ⟨fun ⟨a, e, p⟩ => ?_, fun ⟨d, e, p⟩ => ⟨_, by rw [e]; rfl, p⟩⟩
  obtain ⟨d, h1, h2⟩ := map_some e
  cases h2
  exact ⟨_, h1, p⟩
theorem atI0 {α : Type} {a : α} {r : List α} : L2.atI (a :: r) 0 = some a := by
  unfold L2.atI ixN
  rw [if_pos (by decide), if_pos (by rw [List.length_cons]; omega)]
  rfl
theorem atI1 {α : Type} {a b : α} {r : List α} : L2.atI (a :: b :: r) 1 = some b := by
  unfold L2.atI ixN
  rw [if_pos (by decide), if_pos (by rw [List.length_cons, List.length_cons]; omega)]
  rfl
theorem atI2 {α : Type} {a b c : α} {r : List α} : L2.atI (a :: b :: c :: r) 2 = some c := by
  unfold L2.atI ixN
  rw [if_pos (by decide), if_pos (by rw [List.length_cons, List.length_cons, List.length_cons]; omega)]
  rfl
theorem ixN0 {n : Nat} : ixN (n + 1) 0 = some 0 := by
  unfold ixN
  rw [if_pos (by decide), if_pos (by omega)]
  rfl
theorem ixN1 {n : Nat} : ixN (n + 1 + 1) 1 = some 1 := by
  unfold ixN
  rw [if_pos (by decide), if_pos (by omega)]
  rfl
theorem atI_in {α : Type} {xs : List α} {i : Int} (h0 : 0 ≤ i) (h1 : i < xs.length) : ∃ x, L2.atI xs i = some x ∧ x ∈ xs := by
  refine ⟨xs[i.toNat]'(by omega), ?_, List.getElem_mem _⟩
  unfold L2.atI ixN
  rw [if_pos h0, if_pos h1]
  exact List.getElem?_eq_getElem _
theorem wp_Lc {fi : FA} {g : FG} {vs : List Nat} : R (fLc fi g t f vs env S) P ↔ R (fi env S) fun xs S1 => xs.length ≤ 1000000 ∧ R (lcD g t f (wipeD env vs) xs S1) fun ds S2 => P (.lst ds) S2 := by
  unfold fLc
  simp only [R_bind]
  refine ⟨fun ⟨x, S1, e, q⟩ => ⟨x, S1, e, ?_⟩, fun ⟨x, S1, e, q⟩ => ⟨x, S1, e, ?_⟩⟩
  · dsimp only at q
    split at q
    · rename_i h
      rw [R_bind] at q
      simp only [R_some] at q
      exact ⟨h, q⟩
    · exact (R_none.mp q).elim
  · obtain ⟨h, q⟩ := q
    rw [if_pos h, R_bind]
    simp only [R_some]
    exact q
theorem wp_Yes : R (tYesD env S) PT ↔ PT true S := R_some
theorem bools_true : ∀ {ds : List D}, (∀ d ∈ ds, d = .bl true) → ∃ bs, asBools ds = some bs ∧ bs.all id = true
  | [], _ => ⟨[], rfl, rfl⟩
  | d :: ds, h => by
    obtain ⟨bs, h1, h2⟩ := bools_true (ds := ds) fun z hz => h z (by simp [hz])
    have := h d (by simp)
    subst this
    exact ⟨true :: bs, by show (asBools ds).map _ = _; rw [h1]; rfl, by simpa using h2⟩
theorem all_true {ds : List D} (h : ∀ d ∈ ds, d = .bl true) : cAll [.lst ds] S = some (.bl true, S) := by
  obtain ⟨bs, h1, h2⟩ := bools_true h
  show (asBools ds).map _ = _
  rw [h1, ← h2]
  rfl
theorem mem_range {a b : Int} {d : D} (h : d ∈ rangeD a b) : ∃ i, d = .int i ∧ a ≤ i ∧ i < b := by
  unfold rangeD at h
  obtain ⟨k, hk, rfl⟩ := List.mem_map.mp h
  have := List.mem_range.mp hk
  exact ⟨_, rfl, by omega, by omega⟩
theorem len_range {a b : Int} : (rangeD a b).length = (b - a).toNat := by simp [rangeD]
/-- the other cells are as they were -/
def Apart (S S' : Sto) (i : Nat) : Prop := S'.length = S.length ∧ ∀ j, j ≠ i → S'[j]? = S[j]?
theorem Apart.refl (S : Sto) (i : Nat) : Apart S S i := ⟨rfl, fun _ _ => rfl⟩
theorem Apart.trans {S S1 S2 : Sto} {i : Nat} (a : Apart S S1 i) (b : Apart S1 S2 i) : Apart S S2 i := ⟨b.1.trans a.1, fun j h => (b.2 j h).trans (a.2 j h)⟩
theorem Apart.set (S : Sto) (i : Nat) (c : Cell) : Apart S (S.set i c) i := ⟨by simp, fun j h => by rw [List.getElem?_set_ne (fun e => h e.symm)]⟩
theorem set_at {S : Sto} {i : Nat} {c c' : Cell} (h : S[i]? = some c) : (S.set i c')[i]? = some c' := List.getElem?_set_self (List.getElem?_eq_some_iff.mp h).1
theorem wp_pow10_9 : R (gI (fun i j => decide (0 ≤ j) && decide (j ≤ 1000000) && decide (i.natAbs < 18446744073709551616)) (fun i j => .int (i ^ j.toNat)) (.int 10) (.int 9) S) P ↔ P (.int 1000000000) S := R_some
theorem wp_pow10_18 : R (gI (fun i j => decide (0 ≤ j) && decide (j ≤ 1000000) && decide (i.natAbs < 18446744073709551616)) (fun i j => .int (i ^ j.toNat)) (.int 10) (.int 18) S) P ↔ P (.int 1000000000000000000) S := R_some
theorem wp_pow10_40 : R (gI (fun i j => decide (0 ≤ j) && decide (j ≤ 1000000) && decide (i.natAbs < 18446744073709551616)) (fun i j => .int (i ^ j.toNat)) (.int 10) (.int 40) S) P ↔ P (.int 10000000000000000000000000000000000000000) S := R_some
theorem wp_Sl {lo hi : FO} : R (fSl fa lo hi env S) P ↔ R (fa env S) fun x S1 => R (lo env S1) fun i S2 => R (hi env S2) fun j S3 => R (gSl x i j S3) P := by unfold fSl; simp only [R_bind]
theorem wp_oNone {Q : Option Int → Sto → Prop} : R (oNone env S) Q ↔ Q none S := R_some
theorem wp_oSome {Q : Option Int → Sto → Prop} : R (oSome f env S) Q ↔ R (f env S) fun d S1 => WI d fun i => Q (some i) S1 := by
  unfold oSome
  simp only [R_bind]
  refine ⟨fun ⟨d, S1, e, q⟩ => ⟨d, S1, e, ?_⟩, fun ⟨d, S1, e, q⟩ => ⟨d, S1, e, ?_⟩⟩
  · cases d <;> first | exact (R_none.mp q).elim | exact R_some.mp q
  · cases d <;> first | exact q.elim | exact R_some.mpr q
theorem wp_slC {ns : List Int} {lo hi : Option Int} : R (gSl (.scr ns) lo hi S) P ↔ P (.lst ((cutD ns lo hi).map .int)) S := R_some
theorem wp_slL {ds : List D} {lo hi : Option Int} : R (gSl (.lst ds) lo hi S) P ↔ P (.lst (cutD ds lo hi)) S := R_some
theorem wp_slS {x : Str} {lo hi : Option Int} : R (gSl (.str x) lo hi S) P ↔ x.length ≤ 16777216 ∧ P (.str (cutS x lo hi)) S := R_cond
theorem map_inj_nat : ∀ {a b : List Char}, a.map Char.toNat = b.map Char.toNat → a = b
  | [], [], _ => rfl
  | [], _ :: _, h => by cases h
  | _ :: _, [], h => by cases h
  | x :: a, y :: b, h => by
    simp only [List.map_cons, List.cons.injEq] at h
    rw [map_inj_nat h.2, Char.ext (UInt32.toNat_inj.mp h.1)]
theorem str_eq {a b : String} : (Str.ofString a = Str.ofString b) ↔ a = b := by
  refine ⟨fun h => ?_, fun h => by rw [h]⟩
  rw [Str.ofString_eq_toList, Str.ofString_eq_toList] at h
  have h1 : (a.toList.map Char.toNat).toArray.toList = (b.toList.map Char.toNat).toArray.toList := congrArg (fun z : Str => z.cps.toList) h
  exact String.toList_inj.mp (map_inj_nat h1)
theorem in_ring_crowd : R (gInB false (.str "ring") (.str "crowd") S) P ↔ P (.bl false) S := by
  rw [wp_inS, show (Builtin.Str.occurrences ("crowd" : Str) "ring" 0 ("crowd" : Str).length 1).isEmpty = true by decide +kernel]
  exact Iff.rfl
theorem in_ring_star : R (gInB false (.str "ring") (.str "star") S) P ↔ P (.bl false) S := by
  rw [wp_inS, show (Builtin.Str.occurrences ("star" : Str) "ring" 0 ("star" : Str).length 1).isEmpty = true by decide +kernel]
  exact Iff.rfl
theorem in_ring_pairs : R (gInB false (.str "ring") (.str "pairs") S) P ↔ P (.bl false) S := by
  rw [wp_inS, show (Builtin.Str.occurrences ("pairs" : Str) "ring" 0 ("pairs" : Str).length 1).isEmpty = true by decide +kernel]
  exact Iff.rfl
theorem in_ring_row : R (gInB false (.str "ring") (.str "row") S) P ↔ P (.bl false) S := by
  rw [wp_inS, show (Builtin.Str.occurrences ("row" : Str) "ring" 0 ("row" : Str).length 1).isEmpty = true by decide +kernel]
  exact Iff.rfl
theorem in_ring_ring : R (gInB false (.str "ring") (.str "ring") S) P ↔ P (.bl true) S := by
  rw [wp_inS, show (Builtin.Str.occurrences ("ring" : Str) "ring" 0 ("ring" : Str).length 1).isEmpty = false by decide +kernel]
  exact Iff.rfl
theorem in_ring_core : R (gInB false (.str "ring") (.str "core") S) P ↔ P (.bl false) S := by
  rw [wp_inS, show (Builtin.Str.occurrences ("core" : Str) "ring" 0 ("core" : Str).length 1).isEmpty = true by decide +kernel]
  exact Iff.rfl
theorem in_ring_linked : R (gInB false (.str "ring") (.str "linked") S) P ↔ P (.bl false) S := by
  rw [wp_inS, show (Builtin.Str.occurrences ("linked" : Str) "ring" 0 ("linked" : Str).length 1).isEmpty = true by decide +kernel]
  exact Iff.rfl
theorem in_ring_odd_ring : R (gInB false (.str "ring") (.str "odd ring") S) P ↔ P (.bl true) S := by
  rw [wp_inS, show (Builtin.Str.occurrences ("odd ring" : Str) "ring" 0 ("odd ring" : Str).length 1).isEmpty = false by decide +kernel]
  exact Iff.rfl
theorem in_ring_even_ring : R (gInB false (.str "ring") (.str "even ring") S) P ↔ P (.bl true) S := by
  rw [wp_inS, show (Builtin.Str.occurrences ("even ring" : Str) "ring" 0 ("even ring" : Str).length 1).isEmpty = false by decide +kernel]
  exact Iff.rfl
end
end DL
namespace DL
open PySem PySem.Spec PyProof.Rows L2
section
variable {K : PySem.W.Frag} {ct : CT} {m : List Addr} {F : Hp}
theorem Reps.kwG {idx : List Nat} {ds es : List D} {vs us : List V} (h : Reps K ct m F ds vs) (g : Reps K ct m F es us) : Reps K ct m F (kwG idx ds es) (kwG idx vs us) := by
  refine h.append ?_
  induction idx with
  | nil => exact rfl
  | cons i r ih =>
    by_cases hi : i < es.length
    · obtain ⟨v, h1, h2⟩ := g.get (List.getElem?_eq_getElem hi)
      rw [List.filterMap_cons_some (b := es[i]) (List.getElem?_eq_getElem hi), List.filterMap_cons_some h1]
      exact ⟨_, _, rfl, h2, ih⟩
    · rw [List.filterMap_cons_none (List.getElem?_eq_none (by omega)), List.filterMap_cons_none (List.getElem?_eq_none (by rw [← g.length]; omega))]
      exact ih
theorem kwG_vals {idx : List Nat} {vs zs : List V} {us ws : List Value} (h : Vals vs us) (g : Vals zs ws) : Vals (kwG idx vs zs) (kwG idx us ws) := by
  refine h.append ?_
  induction idx with
  | nil => exact .nil
  | cons i r ih =>
    have key : ∀ {zs : List V} {ws : List Value} {i : Nat}, Vals zs ws → (∃ z w, zs[i]? = some z ∧ ws[i]? = some w ∧ RelV z w) ∨ (zs[i]? = none ∧ ws[i]? = none) := by
      intro zs ws i g
      induction g generalizing i with
      | nil => exact .inr ⟨rfl, rfl⟩
      | cons a _ ih =>
        cases i with
        | zero => exact .inl ⟨_, _, rfl, rfl, a⟩
        | succ i => simpa using ih (i := i)
    rcases key (i := i) g with ⟨z, w, h1, h2, h3⟩ | ⟨h1, h2⟩
    · rw [List.filterMap_cons_some h1, List.filterMap_cons_some h2]
      exact .cons h3 ih
    · rw [List.filterMap_cons_none h1, List.filterMap_cons_none h2]
      exact ih
end
section
variable {ct : CT} {X : Cx} {C : Addr} {c x : Str} {e o : Expr} {fe fo : FE} {fas : FA} {kws : List Keyword} {pos apos p : Pos} {k n : Nat} {g : FD} {kwb : KWB} {ks : List Str} {idx : List Nat}
def SK (ct : CT) (X : Cx) (kws : List Keyword) (f : FA) : Prop := ∃ t, PK X kws t ∧ ∀ m F S σ H env ds S' Q, Sim X.K ct m F S H → EnvR X.K ct m F env σ → f env S = some (ds, S') → PostA ct X.K m F H S' ds Q → t σ H Q
theorem sk_nil : SK ct X [] fNil := ⟨_, pk_nil, fun m F S σ H env d S' Q s en h p => by
  cases h
  exact p m F [] H (Ext.refl _ _ _) s rfl⟩
theorem sk_cons {nm : Option Str} {kpos : Pos} (ha : SE ct X e fe) (hr : SK ct X kws fas) : SK ct X (⟨nm, e, kpos⟩ :: kws) (fCons fe fas) := by
  obtain ⟨ta, pa, ra⟩ := ha
  obtain ⟨tb, pb, rb⟩ := hr
  refine ⟨_, pk_cons pa pb, fun m F S σ H env d S' Q s en h p => ?_⟩
  obtain ⟨⟨y, S1⟩, h1, h⟩ := bind_some h
  obtain ⟨⟨ys, S2⟩, h2, h⟩ := bind_some h
  cases h
  refine ra m F S σ H env y S1 _ s en h1 fun m1 F1 v1 H1 x1 s1 r1 => ?_
  refine rb m1 F1 S1 σ H1 env ys S2 _ s1 (en.mono x1) h2 fun m2 F2 v2 H2 x2 s2 r2 => ?_
  exact p m2 F2 (v1 :: v2) H2 (x1.trans x2) s2 ⟨v1, v2, rfl, r1.mono x2, r2⟩
def fMethK (c x : Str) (g : FD) (idx : List Nat) (fo : FE) (fks : FA) : FE := fun env S => (fo env S).bind fun p => (insOf c p.1 p.2).bind fun q => if hasF q.1 x = false then (fks env p.2).bind fun r => g (kwG idx [p.1] r.1) r.2 else none
theorem se_methK {pl : Sem Bool} (kc : Klass X.K ct c C) (M : CalleeM X.prog X.w X.K X.mg X.base ct k C x n g kwb) (hmem : (ks, idx) ∈ kwb) (hr : RoomG k X.A) (ho : SE ct X o fo) (ha : SK ct X kws fas) (hn : ∀ env S ds S', fas env S = some (ds, S') → ds.length = ks.length)
    (hlen : ∀ (v : V) (zs : List V), zs.length = ks.length → (kwG idx [v] zs).length = n) (hall : (backToKw pos (keywordEach kws X.env)).all (·.1.isSome) = true := by rfl) (hks : (backToKw pos (keywordEach kws X.env)).filterMap (·.1) = ks := by rfl)
    (hpl : ((backTo pos (starEach [] X.env)).any (·.1) || (backToKw pos (keywordEach kws X.env)).any (·.1.isNone)) = false := by rfl)
    (ht : eval (.Call (.Attribute o x apos) [] kws pos) X.env = (eval o X.env >>= fun ov => standAt apos.atName >>= fun _ => holding [ov] (getMethod ov x pl) >>= fun q =>
      callWith pos q.1 q.2 (backTo pos (starEach [] X.env)) (backToKw pos (keywordEach kws X.env))) := by rfl) : SE ct X (.Call (.Attribute o x apos) [] kws pos) (fMethK c x g idx fo fas) := by
  obtain ⟨f, fd, ps, me, bi, fn⟩ := M
  obtain ⟨ta, pa, ra⟩ := ho
  obtain ⟨tb, pb, rb⟩ := ha
  refine ⟨_, pe_methGK (E := fun _ _ _ => False) pa kc.cls me fn hr (bi.2 _ hmem) pb hall hks hpl ht, fun m F S σ H env d S' Q s en h p => ?_⟩
  obtain ⟨⟨z, S1⟩, h1, h⟩ := bind_some h
  obtain ⟨⟨fs, ds⟩, h2, h⟩ := bind_some h
  dsimp only at h
  split at h
  · rename_i hh
    obtain ⟨⟨xs, S2⟩, h3, h⟩ := bind_some h
    refine ra m F S σ H env z S1 _ s en h1 fun m1 F1 v1 H1 x1 s1 r1 => ?_
    obtain ⟨a, dx, vs, e1, e2, e3, e4⟩ := insOf_rep kc s1 r1 h2
    refine ⟨a, dx, _, e1, e2, hasF_none hh, ?_⟩
    refine rb m1 F1 S1 σ H1 env xs S2 _ s1 (en.mono x1) h3 fun m2 F2 us H2 x2 s2 r2 => ?_
    have hl : us.length = ks.length := by rw [← r2.length, hn _ _ _ _ h3]
    exact ⟨hl, hlen v1 us hl, m2, F2, S2, kwG idx [z] xs, d, S', s2, Reps.kwG (Reps.mk1 (r1.mono x2)) r2, h, p.ext (x1.trans x2)⟩
  · cases h
def fCallK (g : FD) (idx : List Nat) (fks : FA) : FE := fun env S => (fks env S).bind fun r => g (kwG idx [] r.1) r.2
def cRepr : FD
  | [d], S => (toP d).bind fun p => if p.showable = true ∧ p.hasDict = false ∧ p.depth ≤ 50 ∧ p.shown.length ≤ 16777216 then some (.str p.shown, S) else none
  | _, _ => none
variable {env : DEnv} {S : Sto} {P : D → Sto → Prop}
theorem wp_MethK {fks : FA} : R (fMethK c x g idx fo fks env S) P ↔ R (fo env S) fun d S1 => (∃ q, insOf c d S1 = some q ∧ hasF q.1 x = false) ∧ R (fks env S1) fun ds S2 => R (g (kwG idx [d] ds) S2) P := by
  unfold fMethK
  simp only [R_bind]
  refine ⟨fun ⟨d, S1, e, q⟩ => ⟨d, S1, e, ?_⟩, fun ⟨d, S1, e, q⟩ => ⟨d, S1, e, ?_⟩⟩
  · obtain ⟨a, S3, e3, p⟩ := q
    obtain ⟨q1, h1, h2⟩ := bind_some e3
    split at h2
    · rename_i hh
      obtain ⟨⟨ds, S4⟩, h3, h4⟩ := bind_some h2
      exact ⟨⟨q1, h1, hh⟩, ds, S4, h3, a, S3, h4, p⟩
    · cases h2
  · obtain ⟨⟨q1, h1, hh⟩, ds, S4, h3, a, S3, h4, p⟩ := q
    refine ⟨a, S3, ?_, p⟩
    rw [h1]
    show (if hasF q1.1 x = false then _ else _) = _
    rw [if_pos hh, h3]
    exact h4
theorem wp_CallK {fks : FA} : R (fCallK g idx fks env S) P ↔ R (fks env S) fun ds S1 => R (g (kwG idx [] ds) S1) P := by unfold fCallK; simp only [R_bind]
theorem wp_Repr {d : D} : R (cRepr [d] S) P ↔ ∃ p, toP d = some p ∧ (p.showable = true ∧ p.hasDict = false ∧ p.depth ≤ 50 ∧ p.shown.length ≤ 16777216) ∧ P (.str p.shown) S := by
  show R ((toP d).bind _) P ↔ _
  refine ⟨fun ⟨a, S3, e3, p⟩ => ?_, fun ⟨p, e, h, q⟩ => ?_⟩
  · obtain ⟨pd, h1, h2⟩ := bind_some e3
    split at h2
    · rename_i hc
      cases h2
      exact ⟨pd, h1, hc, p⟩
    · cases h2
  · rw [e]
    exact R_cond.mpr ⟨h, q⟩
end
end DL
namespace DL
open PySem PySem.Spec PyProof.Rows L2
section
variable {ct : CT} {X : Cx} {a b e : Expr} {fa fb f : FE} {fas : FA} {env : DEnv} {S : Sto} {P : D → Sto → Prop}
def fDispF (ks : List Str) (fas : FA) : FE := fun env S => (fas env S).bind fun p => if ks.length ≤ 15 ∧ ks.Nodup ∧ p.1.length = ks.length then some (.dct (ks.map Sum.inr) p.1, p.2) else none
theorem se_dispF {pos : Pos} {keys : List (Option Expr)} {values : List Expr} {ks : List Str} (h : SDs ct X pos keys values ks fas) (hall : keys.all (·.isSome) = true) (hl : keys.length = values.length) (h0 : keys ≠ []) (h16 : keys.length ≤ 15 := by decide) : SE ct X (.Dict keys values pos) (fDispF ks fas) := by
  obtain ⟨trs, pp, rp⟩ := h
  refine ⟨_, pe_disp pp hall hl h0 h16, fun m F S σ H env d S' Q s en h p => ?_⟩
  obtain ⟨⟨xs, S1⟩, h1, h⟩ := bind_some h
  split at h
  case isFalse => cases h
  rename_i hk
  cases h
  intro q hq
  have nq : q ∉ m := fun hm => by
    obtain ⟨o, z⟩ := s.there hm
    rw [hq] at z; cases z
  have fq : F q = none := by
    cases z : F q with
    | none => rfl
    | some o => rw [s.same _ _ z] at hq; cases hq
  refine rp m F S σ (upd H q (.dK [])) env xs S1 _ (s.hidden nq fq _) en h1 fun m1 F1 vs H1 x1 s1 r1 hlen => ?_
  obtain ⟨hH, nq1, fq1⟩ := x1.hid upd_same nq fq
  have x0 : Ext m F H m1 F1 H1 := ((Ext.refl m F H).put hq (.dK [])).trans x1
  refine ⟨hH, (ks.map Sum.inr).zip vs, ?_, by simp [← r1.length, hlen, hk.1], ?_⟩
  · exact zip_kV ks vs
  · have hn : (((ks.map Sum.inr : List Key).zip vs).map (·.1)).Nodup := by
      rw [List.map_fst_zip (by simp [← r1.length, hlen])]
      exact nodup_inr hk.2.1
    rw [merge_nodup _ [] hn (fun _ _ => rfl), List.nil_append]
    exact p m1 (upd F1 q (.dK ((ks.map Sum.inr).zip vs))) (.ref q) _ ((x0.put hq _).freeze hq fq1 _) ((s1.hidden nq1 fq1 _).freeze nq1 fq1 upd_same)
      ⟨q, vs, rfl, upd_same, by rw [List.length_map, ← r1.length]; exact hk.2.2.symm, Reps.mono' (fun _ _ z => z) (same_upd fq1 _) _ _ r1⟩
def fDIx (fa fb : FE) : FE := fun env S => (fa env S).bind fun p => (fb env p.2).bind fun q => (kvsOf p.1 q.2).bind fun kvs => (toKey q.1).bind fun key => (valA kvs key).map fun d => (d, q.2)
theorem se_dix {pos : Pos} {n : Nat} (hr : RoomG n X.A) (ha : SE ct X a fa) (hb : SE ct X b fb) (hs : NoSl b) : SE ct X (.Subscript a b pos) (fDIx fa fb) := by
  obtain ⟨ta, pa, ra⟩ := ha
  obtain ⟨tb, pb, rb⟩ := hb
  refine ⟨_, pe_dget (hu_of hr.room) pa pb hs, fun m F S σ H env d S' Q s en h p => ?_⟩
  obtain ⟨⟨z, S1⟩, h1, h⟩ := bind_some h
  obtain ⟨⟨y, S2⟩, h2, h⟩ := bind_some h
  obtain ⟨kvs, h4, h⟩ := bind_some h
  obtain ⟨key, h5, h⟩ := bind_some h
  obtain ⟨dv, hv, h6⟩ := map_some h
  cases h6
  refine ra m F S σ H env z S1 _ s en h1 fun m1 F1 v1 H1 x1 s1 r1 => ?_
  refine rb m1 F1 S1 σ H1 env y S2 _ s1 (en.mono x1) h2 fun m2 F2 v2 H2 x2 s2 r2 => ?_
  obtain ⟨w, us, e1, e2, pr⟩ := kvs_at s2 (r1.mono x2) h4
  have ek := r2.key h5
  subst ek
  obtain ⟨v, q1, q2⟩ := (PR.val pr key).1 _ hv
  have g := DGet.k (k := key) e2
  rw [q1] at g
  exact ⟨w, v, e1, g, ((p.ext x1).ext x2).now s2 q2⟩
theorem wp_DispF {ks : List Str} : R (fDispF ks fas env S) P ↔ R (fas env S) fun ds S1 => (ks.length ≤ 15 ∧ ks.Nodup ∧ ds.length = ks.length) ∧ P (.dct (ks.map Sum.inr) ds) S1 := by unfold fDispF; simp only [R_bind, R_cond]
theorem wp_DIx : R (fDIx fa fb env S) P ↔ R (fa env S) fun x S1 => R (fb env S1) fun y S2 => ∃ kvs, kvsOf x S2 = some kvs ∧ ∃ key, toKey y = some key ∧ ∃ d, valA kvs key = some d ∧ P d S2 := by
  unfold fDIx
  simp only [R_bind]
  refine ⟨fun ⟨x, S1, e, y, S2, e2, q⟩ => ⟨x, S1, e, y, S2, e2, ?_⟩, fun ⟨x, S1, e, y, S2, e2, q⟩ => ⟨x, S1, e, y, S2, e2, ?_⟩⟩
  · obtain ⟨d, S3, e3, p⟩ := q
    obtain ⟨kvs, h1, h⟩ := bind_some e3
    obtain ⟨key, h2, h⟩ := bind_some h
    obtain ⟨dv, h3, h4⟩ := map_some h
    cases h4
    exact ⟨kvs, h1, key, h2, _, h3, p⟩
  · obtain ⟨kvs, h1, key, h2, d, h3, p⟩ := q
    exact ⟨d, S2, by rw [h1]; show ((toKey y).bind _) = _; rw [h2]; show ((valA kvs key).map _) = _; rw [h3]; rfl, p⟩
end
end DL
namespace DL
open PySem PySem.Spec PyProof.Rows L2
def gRep : D → D → Sto → Option (D × Sto)
  | .lst ds, .int k, S => if 0 ≤ k ∧ k ≤ 1000 ∧ ds.length ≤ 1000 then some (.lst (List.replicate k.toNat ds).flatten, S) else none
  | _, _, _ => none
theorem wp_rep {ds : List D} {k : Int} {S : Sto} {P : D → Sto → Prop} : R (gRep (.lst ds) (.int k) S) P ↔ (0 ≤ k ∧ k ≤ 1000 ∧ ds.length ≤ 1000) ∧ P (.lst (List.replicate k.toNat ds).flatten) S := R_cond
end DL
namespace DL
open PySem PySem.Spec PyProof.Rows L2
def CalleeP (P : Program) (w : World) (K : PySem.W.Frag) (mg : Str → Option Value) (base : Heap) (ct : CT) (k : Nat) (C : Addr) (x : Str) (gd : FD) : Prop :=
  ∃ (j : Nat) (p g : Addr) (fd : FuncData) (ps : List Str), j + 1 ≤ k ∧ PropOf K C x p g ∧ Binds K fd ps [] ∧ FnG P w K mg base j g fd ps (spD K ct 1 gd)
theorem CalleeP.mono {P : Program} {w : World} {K : PySem.W.Frag} {mg : Str → Option Value} {base : Heap} {ct : CT} {j k : Nat} {C : Addr} {x : Str} {gd : FD} (c : CalleeP P w K mg base ct j C x gd) (h : j ≤ k) : CalleeP P w K mg base ct k C x gd := by
  obtain ⟨i, p, g, fd, ps, h1, h2⟩ := c
  exact ⟨i, p, g, fd, ps, by omega, h2⟩
section
variable {ct : CT} {X : Cx} {C : Addr} {c x : Str} {a b e o k : Expr} {fe fo fa fb fk : FE} {fas : FA} {pos apos cpos : Pos} {n : Nat} {g : FD} {env : DEnv} {S : Sto} {P : D → Sto → Prop}
def fProp (c : Str) (g : FD) (fe : FE) : FE := fun env S => (fe env S).bind fun p => (insOf c p.1 p.2).bind fun _ => g [p.1] p.2
theorem wp_Prop {g : FD} : R (fProp c g fe env S) P ↔ R (fe env S) fun d S1 => (∃ q, insOf c d S1 = some q) ∧ R (g [d] S1) P := by
  unfold fProp
  simp only [R_bind]
  refine ⟨fun ⟨d, S1, e, q⟩ => ⟨d, S1, e, ?_⟩, fun ⟨d, S1, e, q⟩ => ⟨d, S1, e, ?_⟩⟩
  · obtain ⟨y, S3, e3, p⟩ := q
    obtain ⟨q1, h1, h2⟩ := bind_some e3
    exact ⟨⟨q1, h1⟩, y, S3, h2, p⟩
  · obtain ⟨⟨q1, h1⟩, y, S3, h2, p⟩ := q
    exact ⟨y, S3, by rw [h1]; exact h2, p⟩
def fIsC (c : Str) (fe : FE) : FE := fun env S => (fe env S).bind fun p => (insOf c p.1 p.2).map fun _ => (.bl true, p.2)
theorem wp_IsC : R (fIsC c fe env S) P ↔ R (fe env S) fun d S1 => (∃ q, insOf c d S1 = some q) ∧ P (.bl true) S1 := by
  unfold fIsC
  simp only [R_bind]
  refine ⟨fun ⟨d, S1, e, q⟩ => ⟨d, S1, e, ?_⟩, fun ⟨d, S1, e, q⟩ => ⟨d, S1, e, ?_⟩⟩
  · obtain ⟨y, S3, e3, p⟩ := q
    obtain ⟨q1, h1, h2⟩ := map_some e3
    cases h2
    exact ⟨⟨q1, h1⟩, p⟩
  · obtain ⟨⟨q1, h1⟩, p⟩ := q
    exact ⟨_, _, by rw [h1]; rfl, p⟩
def fDGet1 (fd fk : FE) : FE := fun env S => (fd env S).bind fun p => (kvsOf p.1 p.2).bind fun _ => (fk env p.2).bind fun q => (kvsOf p.1 q.2).bind fun kvs => (toKey q.1).map fun x => ((valA kvs x).getD .non, q.2)
def fDIn (neg : Bool) (fk fd : FE) : FE := fun env S => (fk env S).bind fun p => (fd env p.2).bind fun q => (kvsOf q.1 q.2).bind fun kvs => (toKey p.1).map fun x => (.bl (if neg then !(valA kvs x).isSome else (valA kvs x).isSome), q.2)
theorem wp_DGet1 : R (fDGet1 fo fk env S) P ↔ R (fo env S) fun x S1 => (∃ q, kvsOf x S1 = some q) ∧ R (fk env S1) fun y S2 => ∃ kvs, kvsOf x S2 = some kvs ∧ ∃ key, toKey y = some key ∧ P ((valA kvs key).getD .non) S2 := by
  unfold fDGet1
  simp only [R_bind]
  refine ⟨fun ⟨x, S1, e, q⟩ => ⟨x, S1, e, ?_⟩, fun ⟨x, S1, e, q⟩ => ⟨x, S1, e, ?_⟩⟩
  · obtain ⟨d, S3, e3, p⟩ := q
    obtain ⟨k0, h0, h⟩ := bind_some e3
    obtain ⟨⟨y, S2⟩, h1, h⟩ := bind_some h
    obtain ⟨kvs, h2, h⟩ := bind_some h
    obtain ⟨key, h3, h4⟩ := map_some h
    cases h4
    exact ⟨⟨k0, h0⟩, y, _, h1, kvs, h2, key, h3, p⟩
  · obtain ⟨⟨k0, h0⟩, y, S2, h1, kvs, h2, key, h3, p⟩ := q
    exact ⟨_, S2, by rw [h0]; show ((fk env S1).bind _) = _; rw [h1]; show ((kvsOf x S2).bind _) = _; rw [h2]; show ((toKey y).map _) = _; rw [h3]; rfl, p⟩
theorem wp_DIn {neg : Bool} : R (fDIn neg fk fo env S) P ↔ R (fk env S) fun y S1 => R (fo env S1) fun x S2 => ∃ kvs, kvsOf x S2 = some kvs ∧ ∃ key, toKey y = some key ∧ P (.bl (if neg then !(valA kvs key).isSome else (valA kvs key).isSome)) S2 := by
  unfold fDIn
  simp only [R_bind]
  refine ⟨fun ⟨x, S1, e, y, S2, e2, q⟩ => ⟨x, S1, e, y, S2, e2, ?_⟩, fun ⟨x, S1, e, y, S2, e2, q⟩ => ⟨x, S1, e, y, S2, e2, ?_⟩⟩
  · obtain ⟨d, S3, e3, p⟩ := q
    obtain ⟨kvs, h1, h⟩ := bind_some e3
    obtain ⟨key, h2, h3⟩ := map_some h
    cases h3
    exact ⟨kvs, h1, key, h2, p⟩
  · obtain ⟨kvs, h1, key, h2, p⟩ := q
    exact ⟨_, S2, by rw [h1]; show ((toKey x).map _) = _; rw [h2]; rfl, p⟩
def gUnlD (n : Nat) (gs : FGs) : FG := fun d env S => match d with
  | .lst ds => if ds.length = n then gs ds env S else none
  | _ => none
theorem wp_gUnl {n : Nat} {gs : FGs} {ds : List D} {PG : DEnv → Sto → Prop} : R (gUnlD n gs (.lst ds) env S) PG ↔ ds.length = n ∧ R (gs ds env S) PG := by
  show R (if ds.length = n then gs ds env S else none) PG ↔ _
  by_cases h : ds.length = n
  · rw [if_pos h]; exact ⟨fun p => ⟨h, p⟩, fun p => p.2⟩
  · rw [if_neg h, R_none]; exact ⟨False.elim, fun p => h p.1⟩
def tabD (tab : List (Str × Int)) : List (Key × D) := tab.map fun p => (Sum.inr p.1, D.int p.2)
def fDictK (tab : List (Str × Int)) : FE := fun _ S => some (.ref S.length, S ++ [.dct (tabD tab)])
theorem wp_DictK {tab : List (Str × Int)} : R (fDictK tab env S) P ↔ P (.ref S.length) (S ++ [.dct (tabD tab)]) := R_some
end
end DL
namespace DL
open PySem PySem.Spec PyProof.Rows L2
def gRepM : D → D → Sto → Option (D × Sto)
  | .lst ds, .int k, S => if 0 ≤ k ∧ k ≤ 2000 ∧ ds.length ≤ 1000 then some (.ref S.length, S ++ [.lst (List.replicate k.toNat ds).flatten]) else none
  | _, _, _ => none
theorem wp_repM {ds : List D} {k : Int} {S : Sto} {P : D → Sto → Prop} : R (gRepM (.lst ds) (.int k) S) P ↔ (0 ≤ k ∧ k ≤ 2000 ∧ ds.length ≤ 1000) ∧ P (.ref S.length) (S ++ [.lst (List.replicate k.toNat ds).flatten]) := R_cond
end DL
set_option maxHeartbeats 6000000
namespace DL
open PySem PySem.Spec
open PyProof.Rows L2
/-- nothing is handled, or an error whose context is None, and that stands as it is -/
def HotP (A : Around) (H : Hp) : Prop := A.handled = none ∨ ∃ (x1 : Addr) (o : Obj) (u : HO) (vs : Array Value), A.handled = some (.ref x1) ∧ H x1 = some (.frz o u) ∧ o.data = .fields vs ∧ vs[2]? = some .none
abbrev HotC (X : Cx) : Prop := HotP X.A X.H_0
theorem HotC.now {X : Cx} {pins : List (Addr × Obj)} {σ : L2.St} {H : Hp} {s : Shared} (c : HotC X) (I : Inv X pins σ H s) : HotP X.A H :=
  c.imp id fun ⟨x1, o, u, vs, h1, h2, h3, h4⟩ => ⟨x1, o, u, vs, h1, I.base.frzs _ _ _ h2, h3, h4⟩
/-- at a heap that stands for H -/
theorem HotP.at {A : Around} {P : Program} {w : World} {H : Hp} {g : Heap} (c : HotP A H) (ok : HOk P w H g) : A.handled = none ∨ ∃ x1, HotX.HotAt A x1 g ∧ H x1 ≠ none :=
  c.imp id fun ⟨x1, o, u, vs, h1, h2, h3, h4⟩ => ⟨x1, ⟨h1, o, vs, (ok _ _ h2).1, h3, h4⟩, by rw [h2]; exact fun k => by cases k⟩
end DL
namespace DL
open PySem PySem.Spec PyProof.Rows L2
def refsB (tl : List Value) : List Value → Bool
  | .ref _ :: r => refsB tl r
  | l => l == tl
structure BaseX (B newId initId : String) (tl : List Value) : Prop where
  facts : ExcBaseFacts B newId initId tl
  pass : ∀ self, refuseLoop self "__setattr__" tl = pure ()
  obj : tl.contains (.type "object") = true
/-- what is written of such a class -/
structure OexB (K : PySem.W.Frag) (C : Addr) : Prop where
  cls : ∃ B newId initId tl nm q N bs bm sn sub ab col dd k0 k1 k2 k3 k5, BaseX B newId initId tl ∧ K.lookup C = some (excClassObj nm q C N bs bm true sn sub ab col dd k0 k1 k2 k3 k5 newId) ∧ refsB tl bm = true
  sa : PySem.W.findIn K (.ref C) "__setattr__" = some (some (.builtin "object.__setattr__"))
  exC : PySem.W.subIn K (.ref C) (.type "BaseException") = some true
  tyC : PySem.W.typeIn K (.ref C) = some (.type "type")
  kC : PySem.W.keepIn K (.ref C) = true
def spI1 (K : PySem.W.Frag) (f : Str) : Sp := fun vs H Q _ => ∃ a C x, vs = [.ref a, x] ∧ OexB K C ∧ PySem.W.findIn K (.ref C) f = some none ∧ H a = some (exo a C none) ∧ ∀ dx, H dx = none → dx ≠ a → Q .non (upd (upd H dx (exd dx [(f, x)])) a (exo a C (some dx)))
def spI2 (K : PySem.W.Frag) (f g : Str) : Sp := fun vs H Q _ => ∃ a C x y, vs = [.ref a, x, y] ∧ OexB K C ∧ PySem.W.findIn K (.ref C) f = some none ∧ PySem.W.findIn K (.ref C) g = some none ∧ H a = some (exo a C none) ∧
  ∀ dx, H dx = none → dx ≠ a → Q .non (upd (upd (upd H dx (exd dx [(f, x)])) a (exo a C (some dx))) dx (exd dx [(g, y), (f, x)]))
end DL
namespace DL
open PySem PySem.Spec PyProof.Rows L2
abbrev Er := Str × List Str × List D
abbrev XD := List D → Sto → Option (Er × Sto)
def ErrR (K : PySem.W.Frag) (ct : CT) (m : List Addr) (F : Hp) (er : Er) (cls : Value) (d : Option Addr) : Prop :=
  ∃ C vs, ct er.1 = some C ∧ cls = .ref C ∧ ((d = none ∧ er.2.1 = []) ∨ ∃ dx, d = some dx ∧ F dx = some (.xd (er.2.1.zip vs))) ∧ er.2.1.length = vs.length ∧ Reps K ct m F er.2.2 vs
def PostX (ct : CT) (K : PySem.W.Frag) (m : List Addr) (F H : Hp) (S' : Sto) (er : Er) (E : XK) : Prop := ∀ m' F' H' cls d, Ext m F H m' F' H' → Sim K ct m' F' S' H' → ErrR K ct m' F' er cls d → E cls d H'
theorem PostX.ext {ct : CT} {K : PySem.W.Frag} {m m1 : List Addr} {F F1 H H1 : Hp} {S' : Sto} {er : Er} {E : XK} (p : PostX ct K m F H S' er E) (e : Ext m F H m1 F1 H1) : PostX ct K m1 F1 H1 S' er E := fun m' F' H' c d x s r => p m' F' H' c d (e.trans x) s r
structure FnX (P : Program) (w : World) (K : PySem.W.Frag) (mg : Str → Option Value) (base : Heap) (k : Nat) (f : Addr) (fd : FuncData) (ps : List Str) (sp : List V → Hp → XK → Prop) : Prop where
  len : ∀ vs H E, sp vs H E → vs.length = ps.length
  run : ∀ (A : Around) (outer : List Env) (s : Shared) (H : Hp) (args : Args) (us : List Value) (vs : List V) (E : XK), RoomG k A → Env0 P w K mg base A outer s H →
    BindsTo s fd args (ps.zip us) → Vals vs us → sp vs H E → codeAny (model P w) A (.call (.ref f) args) (CR (L2N.CX P w) outer P w H s (fun _ _ => False) E) s
theorem FnX.mono {P : Program} {w : World} {K : PySem.W.Frag} {mg : Str → Option Value} {base : Heap} {j k : Nat} {f : Addr} {fd : FuncData} {ps : List Str} {sp : List V → Hp → XK → Prop} (F : FnX P w K mg base j f fd ps sp) (h : j ≤ k) : FnX P w K mg base k f fd ps sp := ⟨F.len, fun A o s H ar us vs E r => F.run A o s H ar us vs E (r.mono h)⟩
def spX (K : PySem.W.Frag) (ct : CT) (n : Nat) (g : XD) : List V → Hp → XK → Prop := fun vs H E => vs.length = n ∧ ∃ m F S ds er S', Sim K ct m F S H ∧ Reps K ct m F ds vs ∧ g ds S = some (er, S') ∧ PostX ct K m F H S' er E
end DL
namespace DL
open PySem PySem.Spec PyProof.Rows L2
/-- what is known of a class of errors whose __init__ keeps its arguments -/
def Raiser (P : Program) (w : World) (K : PySem.W.Frag) (mg : Str → Option Value) (base : Heap) (ct : CT) (k : Nat) (c : Str) (fs : List Str) : Prop :=
  ∃ (C fI : Addr) (fd : FuncData) (ps : List Str), mg c = some (.ref C) ∧ ct c = some C ∧ OexB K C ∧ PySem.W.findIn K (.ref C) "__init__" = some (some (.ref fI)) ∧ PySem.W.typeIn K (.ref fI) = some (.type "function") ∧ Binds K fd ps [] ∧
    ((∃ f, fs = [f] ∧ PySem.W.findIn K (.ref C) f = some none ∧ FnG P w K mg base k fI fd ps (spI1 K f)) ∨ ∃ f g, fs = [g, f] ∧ PySem.W.findIn K (.ref C) f = some none ∧ PySem.W.findIn K (.ref C) g = some none ∧ FnG P w K mg base k fI fd ps (spI2 K f g))
theorem Raiser.mono {P : Program} {w : World} {K : PySem.W.Frag} {mg : Str → Option Value} {base : Heap} {ct : CT} {j k : Nat} {c : Str} {fs : List Str} (r : Raiser P w K mg base ct j c fs) (h : j ≤ k) : Raiser P w K mg base ct k c fs := by
  obtain ⟨C, fI, fd, ps, h1, h2, h3, h4, h5, h6, h7⟩ := r
  refine ⟨C, fI, fd, ps, h1, h2, h3, h4, h5, h6, ?_⟩
  rcases h7 with ⟨f, a, b, c⟩ | ⟨f, g, a, b, c, d⟩
  · exact .inl ⟨f, a, b, c.mono h⟩
  · exact .inr ⟨f, g, a, b, c, d.mono h⟩
end DL
namespace DL
open PySem PySem.Spec PyProof.Rows L2
section
variable {P : Program} {w : World} {K : PySem.W.Frag} {mg : Str → Option Value} {base : Heap} {ct : CT}
def CalleeX (P : Program) (w : World) (K : PySem.W.Frag) (mg : Str → Option Value) (base : Heap) (ct : CT) (k : Nat) (x : Str) (n : Nat) (g : XD) (kwb : KWB := []) : Prop :=
  ∃ (f : Addr) (fd : FuncData) (ps : List Str), mg x = some (.ref f) ∧ PySem.W.keepIn K (.ref f) = true ∧ (Binds K fd ps [] ∧ KwOk K fd ps 0 kwb) ∧ FnX P w K mg base k f fd ps (spX K ct n g)
theorem CalleeX.mono {j k n : Nat} {x : Str} {g : XD} {kwb : KWB} (c : CalleeX P w K mg base ct j x n g kwb) (h : j ≤ k) : CalleeX P w K mg base ct k x n g kwb := by
  obtain ⟨f, fd, ps, h1, h2, h3, h4⟩ := c
  exact ⟨f, fd, ps, h1, h2, h3, h4.mono h⟩
def CalleeMX (P : Program) (w : World) (K : PySem.W.Frag) (mg : Str → Option Value) (base : Heap) (ct : CT) (k : Nat) (C : Addr) (x : Str) (n : Nat) (g : XD) (kwb : KWB := []) : Prop :=
  ∃ (f : Addr) (fd : FuncData) (ps : List Str), Meth K C x f ∧ (Binds K fd ps [] ∧ KwOk K fd ps 1 kwb) ∧ FnX P w K mg base k f fd ps (spX K ct n g)
theorem CalleeMX.mono {C : Addr} {j k n : Nat} {x : Str} {g : XD} {kwb : KWB} (c : CalleeMX P w K mg base ct j C x n g kwb) (h : j ≤ k) : CalleeMX P w K mg base ct k C x n g kwb := by
  obtain ⟨f, fd, ps, h1, h3, h4⟩ := c
  exact ⟨f, fd, ps, h1, h3, h4.mono h⟩
end
end DL
namespace DL
open PySem PySem.Spec PyProof.Rows L2
end DL
namespace DL
open PySem PySem.Spec PyProof.Rows L2
structure RoomQ (k : Nat) (A : Around) : Prop where
  dp : A.depth + 3 * k + 5 < recursionLimit
  un : A.units + 16 * k + 200 < cLine
  gd : A.guards = some []
theorem RoomQ.mono {j k : Nat} {A : Around} (r : RoomQ k A) (h : j ≤ k) : RoomQ j A := ⟨by have := r.dp; omega, by have := r.un; omega, r.gd⟩
theorem RoomQ.deeper {k : Nat} {A : Around} (r : RoomQ (k + 1) A) (env : Env) : RoomQ k (A.deeper env) := ⟨by have := r.dp; show A.depth + 1 + 3 * k + 5 < _; omega, by have := r.un; show A.units + 3 + 16 * k + 200 < _; omega, r.gd⟩
theorem RoomQ.units {k : Nat} {A : Around} (r : RoomQ k A) : A.units + 64 < cLine := by have := r.un; omega
structure FnQ (P : Program) (w : World) (K : PySem.W.Frag) (mg : Str → Option Value) (base : Heap) (k : Nat) (f : Addr) (fd : FuncData) (ps : List Str) (sp : Sp) : Prop where
  len : ∀ vs H Q E, sp vs H Q E → vs.length = ps.length
  run : ∀ (A : Around) (outer : List Env) (s : Shared) (H : Hp) (args : Args) (us : List Value) (vs : List V) (Q : VK) (E : XK), RoomQ k A → HotP A H → Env0 P w K mg base A outer s H →
    BindsTo s fd args (ps.zip us) → Vals vs us → sp vs H Q E → codeAny (model P w) A (.call (.ref f) args) (CR CX0 outer P w H s Q E) s
section
variable {P : Program} {w : World} {K : PySem.W.Frag} {mg : Str → Option Value} {base : Heap} {ct : CT}
def CalleeQ (P : Program) (w : World) (K : PySem.W.Frag) (mg : Str → Option Value) (base : Heap) (ct : CT) (k : Nat) (x : Str) (n : Nat) (g : FD) : Prop :=
  ∃ (f : Addr) (fd : FuncData) (ps : List Str), mg x = some (.ref f) ∧ PySem.W.keepIn K (.ref f) = true ∧ Binds K fd ps [] ∧ FnQ P w K mg base k f fd ps (spD K ct n g)
end
end DL
namespace DL
open PySem PySem.Spec PyProof.Rows L2
end DL
namespace DL
open PySem PySem.Spec PyProof.Rows L2
end DL
namespace DL
open PySem PySem.Spec PyProof.Rows L2
abbrev NgT : List Str := ["_law_act", "_law_gave", "_law_e", "_law_word"]
structure TShape (sg : Scope) (bg : List Stmt) : Prop where
  body : ∃ (p1 p2 p3 p4 q1 q2 q3 r1 r2 r3 r4 r5 r6 r7 r8 r9 r10 r11 r12 r13 r14 u1 u2 u3 u4 : Pos) (k1 k2 k3 j : Nat), bg = [.Try [.Assign [.Name "_law_gave" p1] (.Call (.Name "_law_act" p2) [] [] p3) p4]
    [.ExceptHandler (some (.Tuple [.Name "WrongValue" q1, .Name "NoAnswer" q2] k1 q3)) (some "_law_e") [.Assign [.Name "_law_word" r1] (.Call (.Name "_law_sort" r2) [.Name "_law_e" r3] [] r4) r5,
      .Return (some (.Tuple [.Name "_law_word" r6, .Call (.Name "_law_attribute" r7) [.Name "_law_e" r8, .Name "_law_word" r9] [] r10] k2 r11)) r12] r13] [] [] r14, .Return (some (.Tuple [.Constant (.str "returned") j u1, .Name "_law_gave" u2] k3 u3)) u4]
  n0 : sg.names.lookup ("_law_act" : Str) = some .local
  n1 : sg.names.lookup ("_law_gave" : Str) = some .local
  n2 : sg.names.lookup ("_law_e" : Str) = some .local
  n3 : sg.names.lookup ("_law_word" : Str) = some .local
  g0 : sg.names.lookup ("_law_sort" : Str) = some .globalImplicit
  g1 : sg.names.lookup ("_law_attribute" : Str) = some .globalImplicit
  g2 : sg.names.lookup ("WrongValue" : Str) = some .globalImplicit
  g3 : sg.names.lookup ("NoAnswer" : Str) = some .globalImplicit
  sc : FnScope NgT ["_law_act"] sg
def ErrTab (K : PySem.W.Frag) (mg : Str → Option Value) (ct : CT) (c1 c2 : Addr) (cs : List Str) : Prop := ∀ c ∈ cs, ∃ C, ct c = some C ∧ PySem.W.exmAny K (.ref C) [.ref c1, .ref c2] = some true
def ToldOk (P : Program) (w : World) (K : PySem.W.Frag) (mg : Str → Option Value) (base : Heap) (ct : CT) (k : Nat) (tn : Str) (cs : List Str) (gs ga : FD) : Prop :=
  ∃ (st : Stmt) (g : Addr) (fd : FuncData) (c1 c2 : Addr), Fun K tn tn st g fd ∧ mg tn = some (.ref g) ∧ Binds K fd ["_law_act"] [] ∧ TShape (defScope st) (defBody st) ∧ mg "WrongValue" = some (.ref c1) ∧ mg "NoAnswer" = some (.ref c2) ∧ ErrTab K mg ct c1 c2 cs ∧
    CalleeQ P w K mg base ct k "_law_sort" 1 gs ∧ CalleeQ P w K mg base ct k "_law_attribute" 2 ga
end DL
namespace DL
open PySem PySem.Spec PyProof.Rows L2
end DL
namespace DL
open PySem PySem.Spec PyProof.Rows L2
def RaiserM (P : Program) (w : World) (K : PySem.W.Frag) (mg : Str → Option Value) (base : Heap) (ct : CT) (k : Nat) (c : Str) (fs : List Str) : Prop := ∃ j, j + 1 ≤ k ∧ Raiser P w K mg base ct j c fs
section
variable {P : Program} {w : World} {K : PySem.W.Frag} {mg : Str → Option Value} {base : Heap} {ct : CT} {c : Str} {st : Stmt} {p1 p2 p3 p4 p5 p6 p7 p8 : Pos}
theorem RaiserM.mono {j k : Nat} {fs : List Str} (r : RaiserM P w K mg base ct j c fs) (h : j ≤ k) : RaiserM P w K mg base ct k c fs := by
  obtain ⟨i, h1, h2⟩ := r
  exact ⟨i, by omega, h2⟩
end
theorem CalleeQ.mono {P : Program} {w : World} {K : PySem.W.Frag} {mg : Str → Option Value} {base : Heap} {ct : CT} {j k n : Nat} {x : Str} {g : FD} (c : CalleeQ P w K mg base ct j x n g) (h : j ≤ k) : CalleeQ P w K mg base ct k x n g := by
  obtain ⟨f, fd, ps, h1, h2, h3, h4⟩ := c
  exact ⟨f, fd, ps, h1, h2, h3, h4.len, fun A o s H ar us vs Q E r => h4.run A o s H ar us vs Q E (r.mono h)⟩
theorem ToldOk.mono {P : Program} {w : World} {K : PySem.W.Frag} {mg : Str → Option Value} {base : Heap} {ct : CT} {j k : Nat} {tn : Str} {cs : List Str} {gs ga : FD} (c : ToldOk P w K mg base ct j tn cs gs ga) (h : j ≤ k) : ToldOk P w K mg base ct k tn cs gs ga := by
  obtain ⟨st, g, fd, c1, c2, h1, h2, h3, h4, h5, h6, h7, h8, h9⟩ := c
  exact ⟨st, g, fd, c1, c2, h1, h2, h3, h4, h5, h6, h7, h8.mono h, h9.mono h⟩
end DL
namespace DL
open PySem PySem.Spec PyProof.Rows L2
end DL
namespace DL
open PySem PySem.Spec PyProof.Rows L2
def enumD : Nat → List D → List D
  | _, [] => []
  | i, d :: ds => .tup [.int (i : Nat), d] :: enumD (i + 1) ds
def iEnum (fi : FA) : FA := fun env S => (fi env S).bind fun p => some (enumD 0 p.1, p.2)
end DL
namespace DL
open PySem PySem.Spec PyProof.Rows L2
theorem EnvR.mono0 {K : PySem.W.Frag} {ct : CT} {m m' : List Addr} {F F' : Hp} {env : DEnv} {σ : L2.St} (h : EnvR K ct m F env σ) (x : Ext0 m F m' F') : EnvR K ct m' F' env σ :=
  ⟨h.1, fun i d q => let ⟨v, h1, h2⟩ := h.2 i d q; ⟨v, h1, h2.mono0 x⟩⟩
theorem Ext0.refl (m : List Addr) (F : Hp) : Ext0 m F m F := ⟨fun _ _ h => h, Same.refl _⟩
end DL
namespace DL
open PySem PySem.Spec PyProof.Rows L2
def mapO (f : D → Option D) : List D → Option (List D)
  | [] => some []
  | d :: ds => (f d).bind fun e => (mapO f ds).map fun es => e :: es
def thaw (S : Sto) : Nat → D → Option D
  | 0, d => if noRef d = true then some d else none
  | n + 1, .ref k => match S[k]? with
    | some (.lst es) => (mapO (thaw S n) es).map .lst
    | some (.dct kvs) => (mapO (thaw S n) (kvs.map (·.2))).map (.dct (kvs.map (·.1)))
    | some (.ins c fs es) => (mapO (thaw S n) es).map (.obj c fs)
    | _ => none
  | n + 1, .tup ds => (mapO (thaw S n) ds).map .tup
  | n + 1, .lst ds => (mapO (thaw S n) ds).map .lst
  | n + 1, d => if noRef d = true then some d else none
/-- what is handed back, the cells within it as they stand -/
def thawD (S : Sto) (d : D) : Option D := if noRef d = true then some d else thaw S 5 d
def over (F H : Hp) (m : List Addr) : Hp := fun a => if a ∈ m then H a else F a
section
variable {K : PySem.W.Frag} {ct : CT} {m m' : List Addr} {F H : Hp} {S : Sto}
theorem over_same (s : Sim K ct m F S H) (hm : ∀ a ∈ m', a ∈ m) : Same F (over F H m') := fun b o h => by
  unfold over
  by_cases hb : b ∈ m'
  · rw [s.off b (hm b hb)] at h; cases h
  · rw [if_neg hb]; exact h
theorem over_at {a : Addr} (h : a ∈ m') : over F H m' a = H a := if_pos h
theorem mapO_rep {f : D → Option D} {F' : Hp} {m2 : List Addr} (hf : ∀ d v d', Rep K ct m F d v → f d = some d' → Rep K ct m2 F' d' v) : ∀ {ds : List D} {vs : List V} {ds' : List D}, Reps K ct m F ds vs → mapO f ds = some ds' → Reps K ct m2 F' ds' vs
  | [], _, _, h, e => by cases e; exact h
  | d :: ds, _, _, h, e => by
    obtain ⟨v, r, e1, e2, e3⟩ := h
    obtain ⟨d', h1, e⟩ := bind_some e
    obtain ⟨ds', h2, rfl⟩ := map_some e
    exact ⟨v, r, e1, hf d v d' e2 h1, mapO_rep hf e3 h2⟩
theorem dct_rep {kvs : List (Key × D)} {us : List (Key × V)} (h : Paired (fun (p : Key × D) (q : Key × V) => p.1 = q.1 ∧ Rep K ct m F p.2 q.2) kvs us) : Reps K ct m F (kvs.map (·.2)) (us.map (·.2)) ∧ us = (kvs.map (·.1)).zip (us.map (·.2)) ∧ (kvs.map (·.1)).length = (us.map (·.2)).length := by
  induction h with
  | nil => exact ⟨rfl, rfl, rfl⟩
  | @cons p q ps qs hh _ ih =>
    obtain ⟨i1, i2, i3⟩ := ih
    refine ⟨⟨_, _, rfl, hh.2, i1⟩, ?_, by simpa using i3⟩
    obtain ⟨qa, qb⟩ := q
    obtain ⟨pa, pb⟩ := p
    have e1 : pa = qa := hh.1
    subst e1
    exact congrArg ((pa, qb) :: ·) i2
/-- m' : the cells that S tells of, but for those that are left out -/
theorem thaw_rep {S' : Sto} {m2 : List Addr} (s : Sim K ct m F S H) (hm : ∀ a ∈ m', a ∈ m) (hS : ∀ (k : Nat) (c : Cell), S'[k]? = some c → isTab c = none → ∃ a, m[k]? = some a ∧ a ∈ m' ∧ S[k]? = some c) :
    ∀ (n : Nat) (d : D) (v : V) (d' : D), Rep K ct m F d v → thaw S' n d = some d' → Rep K ct m2 (over F H m') d' v := by
  have base : ∀ (d : D) (v : V) (d' : D), Rep K ct m F d v → (if noRef d = true then some d else none) = some d' → Rep K ct m2 (over F H m') d' v := fun d v d' r e => by
    split at e
    · rename_i hn
      cases e
      exact Rep.noref _ _ hn (Rep.mono' (fun _ _ h => h) (over_same s hm) _ _ r)
    · cases e
  intro n
  induction n with
  | zero => exact base
  | succ n ih =>
    intro d v d' r e
    cases d with
    | ref k =>
      obtain ⟨a, h1, rfl⟩ := r
      have e : (match S'[k]? with
        | some (.lst es) => (mapO (thaw S' n) es).map .lst
        | some (.dct kvs) => (mapO (thaw S' n) (kvs.map (·.2))).map (.dct (kvs.map (·.1)))
        | some (.ins c fs es) => (mapO (thaw S' n) es).map (.obj c fs)
        | _ => none) = some d' := e
      split at e
      · rename_i es hk
        obtain ⟨es', h2, rfl⟩ := map_some e
        obtain ⟨a', g1, g2, g3⟩ := hS k _ hk rfl
        rw [h1] at g1; cases g1
        obtain ⟨vs, c1, c2⟩ := s.cell k a _ h1 g3
        exact ⟨a, vs, rfl, by rw [over_at g2]; exact c1, mapO_rep ih c2 h2⟩
      · rename_i kvs hk
        obtain ⟨es', h2, rfl⟩ := map_some e
        obtain ⟨a', g1, g2, g3⟩ := hS k _ hk rfl
        rw [h1] at g1; cases g1
        obtain ⟨us, c1, c2⟩ := s.cell k a _ h1 g3
        obtain ⟨i1, i2, i3⟩ := dct_rep c2
        exact ⟨a, us.map (·.2), rfl, by rw [over_at g2, ← i2]; exact c1, i3, mapO_rep ih i1 h2⟩
      · rename_i c fs es hk
        obtain ⟨es', h2, rfl⟩ := map_some e
        obtain ⟨a', g1, g2, g3⟩ := hS k _ hk rfl
        rw [h1] at g1; cases g1
        obtain ⟨C, dx, vs, c1, c3, c4, c2⟩ := s.cell k a _ h1 g3
        exact ⟨a, C, dx, vs, rfl, c3, by rw [over_at g2]; exact c1, c4, mapO_rep ih c2 h2⟩
      · cases e
    | tup ds =>
      obtain ⟨ds', h2, rfl⟩ := map_some (show (mapO (thaw S' n) ds).map .tup = some d' from e)
      obtain ⟨a, vs, e1, e2, e3⟩ := r
      exact ⟨a, vs, e1, sqT_mono (over_same s hm) e2, mapO_rep ih e3 h2⟩
    | lst ds =>
      obtain ⟨ds', h2, rfl⟩ := map_some (show (mapO (thaw S' n) ds).map .lst = some d' from e)
      obtain ⟨a, vs, e1, e2, e3⟩ := r
      exact ⟨a, vs, e1, over_same s hm _ _ e2, mapO_rep ih e3 h2⟩
    | _ => exact base _ v d' r e
theorem thawD_rep {S' : Sto} {m2 : List Addr} (s : Sim K ct m F S H) (hm : ∀ a ∈ m', a ∈ m) (hS : ∀ (k : Nat) (c : Cell), S'[k]? = some c → isTab c = none → ∃ a, m[k]? = some a ∧ a ∈ m' ∧ S[k]? = some c)
    {d : D} {v : V} {d' : D} (r : Rep K ct m F d v) (e : thawD S' d = some d') : Rep K ct m2 (over F H m') d' v := by
  unfold thawD at e
  split at e
  · rename_i hn
    cases e
    exact Rep.noref _ _ hn (Rep.mono' (fun _ _ h => h) (over_same s hm) _ _ r)
  · exact thaw_rep s hm hS _ _ _ _ r e
end
/-- a def that is handed plain data alone: told over no cells -/
def pureD (g : FD) : FD := fun ds S => if noRefs ds = true then (g ds []).bind fun q => (thawD q.2 q.1).map fun d => (d, S) else none
section
variable {P : Program} {w : World} {K : PySem.W.Frag} {mg : Str → Option Value} {base : Heap} {ct : CT}
theorem pure_ok {k n : Nat} {f : Addr} {fd : FuncData} {ps : List Str} {g : FD} (G : FnG P w K mg base k f fd ps (spD K ct n g)) : FnG P w K mg base k f fd ps (spD K ct n (pureD g)) := by
  refine G.imp fun vs H Q E hs => ?_
  obtain ⟨hl, m, F, S, ds, d', S1, s, reps, hg, post⟩ := hs
  unfold pureD at hg
  split at hg
  case isFalse => cases hg
  rename_i hn
  obtain ⟨⟨d, S2⟩, h1, hg⟩ := bind_some hg
  obtain ⟨d2, h2, e⟩ := map_some hg
  cases e
  refine ⟨hl, [], F, [], ds, d, S2, ⟨s.same, rfl, List.nodup_nil, fun a h => (nomatch h), fun i a c h _ => (by simp at h), fun i a c q h _ _ => (by simp at h)⟩, Reps.noref _ _ hn reps, h1, ?_⟩
  intro m' F' v H' x s' r
  have h2 : thawD S2 d = some d' := h2
  have rr : Rep K ct m (over F' H' m') d' v := thawD_rep s' (fun a h => h) (fun k c hk _ => by
    have hi : k < m'.length := by rw [s'.len]; exact (List.getElem?_eq_some_iff.mp hk).1
    exact ⟨m'[k], List.getElem?_eq_getElem hi, List.getElem_mem hi, hk⟩) r h2
  have out : ∀ a ∈ m, a ∉ m' := fun a ha hm => by
    obtain ⟨o, ho⟩ := s.there ha
    rcases x.new a hm with q | q
    · cases q
    · rw [ho] at q; cases q
  have fo : ∀ a ∈ m, F' a = none := fun a ha => by
    obtain ⟨o, ho⟩ := s.there ha
    cases e : F' a with
    | none => rfl
    | some z =>
      rcases x.fnew a z e with q | q
      · rw [s.off a ha] at q; cases q
      · rw [ho] at q; cases q
  have sm : Same F (over F' H' m') := x.same.trans (over_same s' fun a h => h)
  refine post m (over F' H' m') v H' ⟨fun _ _ h => h, sm, fun b o h _ => x.keep b o h (by simp), fun a h => .inl h, fun b o h => ?_, x.grow⟩ ⟨fun b o h => ?_, s.len, s.nd, fun a ha => ?_, fun i a c h1 h2 => ?_, s.tab⟩ rr
  · unfold over at h
    split at h
    · rename_i hb
      rcases x.new b hb with q | q
      · cases q
      · exact .inr q
    · exact x.fnew b o h
  · unfold over at h
    split at h
    · exact h
    · exact s'.same _ _ h
  · unfold over
    rw [if_neg (out a ha)]
    exact fo a ha
  · have hm : a ∈ m := List.mem_iff_getElem?.mpr ⟨i, h1⟩
    obtain ⟨o, ho⟩ := s.there hm
    have cr := s.cell i a c h1 h2
    rw [x.keep a o ho (by simp), ← ho]
    exact cr.mono' (fun _ _ h => h) sm
theorem Callee.pure {k n : Nat} {x : Str} {g : FD} {kwb : KWB} (c : Callee P w K mg base ct k x n g kwb) : Callee P w K mg base ct k x n (pureD g) kwb := by
  obtain ⟨f, fd, ps, h1, h2, h3, h4⟩ := c
  exact ⟨f, fd, ps, h1, h2, h3, pure_ok h4⟩
end
end DL
namespace DL
open PySem PySem.Spec PyProof.Rows L2
theorem walkE {l : PySem.W.OpenLaw} {k : Nat} {q : Program} {loose : List Str} {XP : (Str → Option Value) → Heap → Prop} {YP : World → Heap → Prop} {d : DefRec} {x : Str}
    (hn : l.most = some 63) (hdf : d.params.defaults = []) (hr : Room k callerA)
    (F : ∀ (w : World) (mg : Str → Option Value) (fa : Addr) (h : Heap), YP w h → h.Ns mainGlobals mg → mg d.name = some (.ref fa) →
      ∃ (K : Fr) (fd : FuncData), K.In h ∧ (∀ (z : Shared) (u : Value), BindsTo z fd ⟨[u], []⟩ [(x, u)]) ∧ ∀ base : Heap, K.In base → base.Ns mainGlobals mg → FnG l.prog w K mg base k fa fd [x] (spScr K)) :
    PySem.W.WalkO q loose XP YP l.row.toRowW d [] (fun f vs => PySem.call f vs) := by
  refine Att.attach_call hn hdf fun w s₀ s₁ mg mb fa o pm cd doc a vs ns G Y ho hd hcd hmg hobj hints hlen hg => ?_
  obtain ⟨K, fd, KX, hb, hF⟩ := F w mg fa _ Y G.T.g hmg
  exact lawG KX G.T.g G.T.b G.T.builtins G.T.nolimit hg hobj hints (Nat.le_trans hlen (by decide)) hr hF hb fun H hS => ⟨a, ns, rfl, hS, hlen, fun _ => rfl⟩
end DL
namespace DL
open PySem PySem.Spec PyProof.Rows L2
theorem RoomG.units65 {k : Nat} {A : Around} (r : RoomG k A) : A.units + 65 < cLine := by have := r.room.un; omega
/-- the items of a list, a cell's among them -/
def lstOf (S : Sto) : D → Option (List D)
  | .lst ds => some ds
  | .ref k => match S[k]? with
    | some (.lst ds) => some ds
    | _ => none
  | _ => none
section
variable {ct : CT} {K : PySem.W.Frag}
theorem lst_at {m : List Addr} {F H : Hp} {S : Sto} {d : D} {v : V} {ds : List D} (s : Sim K ct m F S H) (r : Rep K ct m F d v) (h : lstOf S d = some ds) : ∃ a vs, v = .ref a ∧ H a = some (.lst vs) ∧ Reps K ct m F ds vs := by
  cases d with
  | lst es =>
    cases h
    obtain ⟨a, vs, e1, e2, e3⟩ := r
    exact ⟨a, vs, e1, s.same _ _ e2, e3⟩
  | ref k =>
    obtain ⟨a, h1, rfl⟩ := r
    have h : (match S[k]? with
      | some (.lst ds) => some ds
      | _ => none) = some ds := h
    split at h
    · rename_i es hk
      cases h
      obtain ⟨vs, c1, c2⟩ := s.cell k a _ h1 hk
      exact ⟨a, vs, rfl, c1, c2⟩
    · cases h
  | _ => cases h
def gAddX : D → D → Sto → Option (D × Sto)
  | .int i, .int j, S => some (.int (i + j), S)
  | .str x, .str y, S => if x.length + y.length ≤ 16777216 then some (.str (x ++ y), S) else none
  | .tup a, .tup b, S => if a.length + b.length ≤ 1000000 then some (.tup (a ++ b), S) else none
  | x, y, S => (lstOf S x).bind fun a => (lstOf S y).bind fun b => if a.length + b.length ≤ 1000000 then some (.lst (a ++ b), S) else none
def rAddX (K : PySem.W.Frag) : R2 := fun x y H Q => rAddAll x y H Q ∨ rCatA K x y H Q
theorem op_addX {X : Cx} : OpR X (binaryOp .Add) (rAddX X.K) := op_addAll.or op_catA
theorem cat_lists {m : List Addr} {F H : Hp} {S S' : Sto} {x y : V} {dx dy d : D} {Q : VK} (s : Sim K ct m F S H) (rx : Rep K ct m F dx x) (ry : Rep K ct m F dy y)
    (h : ((lstOf S dx).bind fun a => (lstOf S dy).bind fun b => if a.length + b.length ≤ 1000000 then some (D.lst (a ++ b), S) else none) = some (d, S')) (p : PostE ct K m F H S' d Q) : rAddX K x y H Q := by
  obtain ⟨as, h1, h⟩ := bind_some h
  obtain ⟨bs, h2, h⟩ := bind_some h
  split at h
  case isFalse => cases h
  rename_i hl
  cases h
  obtain ⟨a, vs, e1, e2, e3⟩ := lst_at s rx h1
  obtain ⟨b, us, f1, f2, f3⟩ := lst_at s ry h2
  refine .inl (.inr (.inr ⟨a, b, vs, us, e1, f1, e2, f2, by rw [line_eq, ← e3.length, ← f3.length]; omega, fun q hq => ?_⟩))
  obtain ⟨s2, x2⟩ := s.frozen hq (.lst (vs ++ us))
  exact p m _ (.ref q) _ x2 s2 ⟨q, _, rfl, upd_same, (e3.append f3).mono x2⟩
theorem od_addX : OpD ct K (rAddX K) gAddX := by
  intro m F S H x y dx dy d S' Q s rx ry h p
  unfold gAddX at h
  split at h
  · rename_i i j
    cases h
    exact .inl (.inl ⟨i, j, rx, ry, p.now s rfl⟩)
  · rename_i u v
    split at h
    · rename_i hl
      cases h
      exact .inl (.inr (.inl ⟨u, v, rx, ry, by rw [line_eq]; exact hl, p.now s rfl⟩))
    · cases h
  · rename_i as bs
    split at h
    · rename_i hl
      cases h
      obtain ⟨a, vs, e1, e2, e3⟩ := id rx
      obtain ⟨b, us, f1, f2, f3⟩ := id ry
      refine .inr ⟨a, b, vs, us, e1, f1, sqT_mono s.same e2, sqT_mono s.same f2, by rw [line_eq, ← e3.length, ← f3.length]; omega, fun hx => ?_, fun _ hy => ?_, fun _ _ q hq => ?_⟩
      · have : as = [] := List.length_eq_zero_iff.mp (by rw [e3.length, hx]; rfl)
        subst this
        exact p.now s ⟨b, us, rfl, f2, f3⟩
      · have : bs = [] := List.length_eq_zero_iff.mp (by rw [f3.length, hy]; rfl)
        subst this
        rw [List.append_nil] at p
        exact p.now s ⟨a, vs, rfl, e2, e3⟩
      · obtain ⟨s2, x2⟩ := s.frozen hq (.tup (vs ++ us))
        exact p m _ (.ref q) _ x2 s2 ⟨q, _, rfl, SqT.of upd_same, (e3.append f3).mono x2⟩
    · cases h
  · exact cat_lists s rx ry h p
/-- the sum of two lists as a cell -/
def gAddM : D → D → Sto → Option (D × Sto) := fun x y S => (lstOf S x).bind fun a => (lstOf S y).bind fun b => if a.length + b.length ≤ 1000000 then some (.ref S.length, S ++ [.lst (a ++ b)]) else none
def tupI : D → Option (List Int)
  | .tup ds => asInts ds
  | _ => none
theorem tupI_at {m : List Addr} {F H : Hp} {S : Sto} {d : D} {v : V} {ns : List Int} (s : Sim K ct m F S H) (r : Rep K ct m F d v) (h : tupI d = some ns) : ∃ a, v = .ref a ∧ SqT K H a (ns.map V.int) := by
  cases d with
  | tup ds =>
    obtain ⟨a, vs, e1, e2, e3⟩ := r
    have := e3.asInts h
    subst this
    exact ⟨a, e1, sqT_mono s.same e2⟩
  | _ => cases h
def isNoneP : PyData → Bool
  | .none => true
  | _ => false
def rLtDp (K : PySem.W.Frag) : R2 := fun x y H Q => ∃ p q, Dp K H x p ∧ Dp K H y q ∧ PySem.W.alike p q = true ∧ p.depth ≤ 60 ∧ isNoneP p = false ∧ Q (.bl (PySem.W.dataLt p q)) H
theorem op_ltDp {X : Cx} (hu : X.A.units + 64 < cLine) : OpR X (compareOp .Lt) (rLtDp X.K) := fun pins s σ H x y v u Q I rx ry ⟨p, q, hp, hq, al, dp, hn, k⟩ =>
  let ⟨_, r1⟩ := Dp.reads I p x v hp rx
  let ⟨_, r2⟩ := Dp.reads I q y u hq ry
  PySem.W.rcLt_alike p q X.A s v u _ _ r1 r2 al (fun e => by rw [e] at hn; cases hn) (by omega) X.prog X.w X.xe (EP X pins σ Q) ⟨.bl _, H, I, rfl, k⟩
/-- < of lists of alike data -/
def ltDeep (x y : D) : Option D := (toP x).bind fun p => (toP y).bind fun q => if PySem.W.alike p q = true ∧ p.depth ≤ 60 ∧ isNoneP p = false then some (.bl (PySem.W.dataLt p q)) else none
def gLtX : D → D → Sto → Option (D × Sto)
  | .int i, .int j, S => some (.bl (decide (i < j)), S)
  | .lst xs, .lst ys, S => (ltDeep (.lst xs) (.lst ys)).map fun d => (d, S)
  | x, y, S => (tupI x).bind fun ns => (tupI y).bind fun ms => some (.bl (HT.lexLt ns ms), S)
def leL : List Int → List Int → Bool
  | [], _ => true
  | _ :: _, [] => false
  | x :: xs, y :: ys => if x = y then leL xs ys else decide (x ≤ y)
def gLeX : D → D → Sto → Option (D × Sto)
  | .int i, .int j, S => some (.bl (decide (i ≤ j)), S)
  | x, y, S => (tupI x).bind fun ns => (tupI y).bind fun ms => some (.bl (leL ns ms), S)
theorem lexAt_shift {e r : Nat → Bool} {z : Bool} : ∀ (k i : Nat), Ob.lexAt e r z (i + 1) k = Ob.lexAt (fun j => e (j + 1)) (fun j => r (j + 1)) z i k
  | 0, i => rfl
  | k + 1, i => by
    rw [Ob.lexAt_succ, Ob.lexAt_succ, lexAt_shift k (i + 1)]
theorem leL_eq : ∀ ns ms : List Int, Ob.lexAt (fun j => decide (ns.getD j 0 = ms.getD j 0)) (fun j => decide (ns.getD j 0 ≤ ms.getD j 0)) (decide (ns.length ≤ ms.length)) 0 (min ns.length ms.length) = leL ns ms
  | [], ms => by simp [Ob.lexAt, leL]
  | x :: xs, [] => by simp [Ob.lexAt, leL]
  | x :: xs, y :: ys => by
    have ih := leL_eq xs ys
    rw [show min (x :: xs).length (y :: ys).length = min xs.length ys.length + 1 by simp [Nat.succ_min_succ], Ob.lexAt_succ, lexAt_shift]
    simp only [List.getD_cons_zero, List.getD_cons_succ, List.length_cons, Nat.add_le_add_iff_right]
    rw [ih]
    simp only [leL, decide_eq_true_eq]
def rLtX (K : PySem.W.Frag) : R2 := fun x y H Q => rI0 (fun i j => .bl (decide (i < j))) x y H Q ∨ rLtT K x y H Q ∨ rLtDp K x y H Q
def rLeX (K : PySem.W.Frag) : R2 := fun x y H Q => rI0 (fun i j => .bl (decide (i ≤ j))) x y H Q ∨ rLeT K x y H Q
theorem op_ltX {X : Cx} {k : Nat} (hr : RoomG k X.A) : OpR X (compareOp .Lt) (rLtX X.K) := op_lt.or ((op_ltT (Nat.lt_of_le_of_lt (Nat.le_add_right _ 64) hr.units)).or (op_ltDp hr.units))
theorem op_leX {X : Cx} {k : Nat} (hr : RoomG k X.A) : OpR X (compareOp .LtE) (rLeX X.K) := op_le.or (op_leT (Nat.lt_of_le_of_lt (Nat.le_add_right _ 64) hr.units))
theorem od_ltX : OpD ct K (rLtX K) gLtX := by
  intro m F S H x y dx dy d S' Q s rx ry h p
  unfold gLtX at h
  split at h
  · rename_i i j
    cases h
    exact .inl ⟨i, j, rx, ry, p.now s rfl⟩
  · obtain ⟨z, h2, e⟩ := map_some h
    cases e
    unfold ltDeep at h2
    obtain ⟨dp, g1, h2⟩ := bind_some h2
    obtain ⟨dq, g2, h2⟩ := bind_some h2
    split at h2
    case isFalse => cases h2
    rename_i hs
    cases h2
    exact .inr (.inr ⟨dp, dq, Rep.dp s.same _ _ _ rx g1, Rep.dp s.same _ _ _ ry g2, hs.1, hs.2.1, hs.2.2, p.now s rfl⟩)
  · obtain ⟨ns, h1, h⟩ := bind_some h
    obtain ⟨ms, h2, h⟩ := bind_some h
    cases h
    obtain ⟨a, e1, e2⟩ := tupI_at s rx h1
    obtain ⟨b, f1, f2⟩ := tupI_at s ry h2
    exact .inr (.inl ⟨a, b, ns, ms, e1, f1, e2, f2, p.now s rfl⟩)
theorem od_leX : OpD ct K (rLeX K) gLeX := by
  intro m F S H x y dx dy d S' Q s rx ry h p
  unfold gLeX at h
  split at h
  · rename_i i j
    cases h
    exact .inl ⟨i, j, rx, ry, p.now s rfl⟩
  · obtain ⟨ns, h1, h⟩ := bind_some h
    obtain ⟨ms, h2, h⟩ := bind_some h
    cases h
    obtain ⟨a, e1, e2⟩ := tupI_at s rx h1
    obtain ⟨b, f1, f2⟩ := tupI_at s ry h2
    refine .inr ⟨a, b, ns, ms, e1, f1, e2, f2, ?_⟩
    rw [leL_eq]
    exact p.now s rfl
def inDeep (neg : Bool) (x : D) (ds : List D) : Option D := (toP x).bind fun p => (toPs ds).bind fun qs => if SeqAt.shaped p = true ∧ SeqAt.shaped (.list qs) = true then some (.bl (if neg then !qs.any (fun z => PyData.eqv z p) else qs.any fun z => PyData.eqv z p)) else none
def gInX (neg : Bool) : D → D → Sto → Option (D × Sto) := fun x y S => match gInB neg x y S with
  | some r => some r
  | none => match y with
    | .tup ds => (inDeep neg x ds).map fun d => (d, S)
    | y => (lstOf S y).bind fun ds => (inDeep neg x ds).map fun d => (d, S)
def rInDT (K : PySem.W.Frag) (neg : Bool) : R2 := fun x y H Q => ∃ d ds, Dp K H x d ∧ Dp K H y (.tuple ds) ∧ SeqAt.shaped d = true ∧ SeqAt.shaped (.tuple ds) = true ∧ Q (.bl (if neg then !ds.any (fun z => PyData.eqv z d) else ds.any fun z => PyData.eqv z d)) H
theorem op_inDT {X : Cx} (hu : X.A.units + 65 < cLine) : OpR X (compareOp .In) (rInDT X.K false) := fun pins s σ H x y v u Q I rx ry ⟨d, ds, hd, he, sd, se, q⟩ =>
  let ⟨_, r1⟩ := Dp.reads I d x v hd rx
  let ⟨_, r2⟩ := Dp.reads I (.tuple ds) y u he ry
  SeqAt.in_tuple_reads r2 r1 (SeqAt.canLay_of_shaped se) (SeqAt.canLay_of_shaped sd) (room_in_shaped (xs := ds) sd hu) ⟨.bl _, H, I, rfl, q⟩
theorem op_notInDT {X : Cx} (hu : X.A.units + 65 < cLine) : OpR X (compareOp .NotIn) (rInDT X.K true) := fun pins s σ H x y v u Q I rx ry ⟨d, ds, hd, he, sd, se, q⟩ =>
  let ⟨_, r1⟩ := Dp.reads I d x v hd rx
  let ⟨_, r2⟩ := Dp.reads I (.tuple ds) y u he ry
  SeqAt.notIn_tuple_reads r2 r1 (SeqAt.canLay_of_shaped se) (SeqAt.canLay_of_shaped sd) (room_in_shaped (xs := ds) sd hu) ⟨.bl _, H, I, rfl, q⟩
def rInX (K : PySem.W.Frag) : R2 := fun x y H Q => rInAll K x y H Q ∨ rInD K x y H Q ∨ rInDT K false x y H Q
def rNotInX (K : PySem.W.Frag) : R2 := fun x y H Q => rNotInAll K x y H Q ∨ rNotInD K x y H Q ∨ rInDT K true x y H Q
theorem op_inX {X : Cx} {k : Nat} (hr : RoomG k X.A) : OpR X (compareOp .In) (rInX X.K) := op_inAll.or ((op_inD hr.units65).or (op_inDT hr.units65))
theorem op_notInX {X : Cx} {k : Nat} (hr : RoomG k X.A) : OpR X (compareOp .NotIn) (rNotInX X.K) := op_notInAll.or ((op_notInD hr.units65).or (op_notInDT hr.units65))
theorem in_deep {neg : Bool} {m : List Addr} {F H : Hp} {S S' : Sto} {x y : V} {dx dy d : D} {Q : VK} (s : Sim K ct m F S H) (rx : Rep K ct m F dx x) (ry : Rep K ct m F dy y)
    (h : ((lstOf S dy).bind fun ds => (inDeep neg dx ds).map fun d => (d, S)) = some (d, S')) (p : PostE ct K m F H S' d Q) : ∃ dp ds, Dp K H x dp ∧ Dp K H y (.list ds) ∧ SeqAt.shaped dp = true ∧ SeqAt.shaped (.list ds) = true ∧ Q (.bl (if neg then !ds.any (fun z => PyData.eqv z dp) else ds.any fun z => PyData.eqv z dp)) H := by
  obtain ⟨ds, h1, h⟩ := bind_some h
  obtain ⟨z, h2, e⟩ := map_some h
  cases e
  unfold inDeep at h2
  obtain ⟨dp, g1, h2⟩ := bind_some h2
  obtain ⟨qs, g2, h2⟩ := bind_some h2
  split at h2
  case isFalse => cases h2
  rename_i hs
  cases h2
  obtain ⟨a, vs, e1, e2, e3⟩ := lst_at s ry h1
  subst e1
  exact ⟨dp, qs, Rep.dp s.same _ _ _ rx g1, .lst (SqL.of e2) (Reps.dp s.same _ _ _ e3 g2), hs.1, hs.2, p.now s rfl⟩
theorem in_deepT {neg : Bool} {m : List Addr} {F H : Hp} {S S' : Sto} {x y : V} {dx d : D} {ds : List D} {Q : VK} (s : Sim K ct m F S H) (rx : Rep K ct m F dx x) (ry : Rep K ct m F (.tup ds) y)
    (h : ((inDeep neg dx ds).map fun d => (d, S)) = some (d, S')) (p : PostE ct K m F H S' d Q) : rInDT K neg x y H Q := by
  obtain ⟨z, h2, e⟩ := map_some h
  cases e
  unfold inDeep at h2
  obtain ⟨dp, g1, h2⟩ := bind_some h2
  obtain ⟨qs, g2, h2⟩ := bind_some h2
  split at h2
  case isFalse => cases h2
  rename_i hs
  cases h2
  obtain ⟨a, vs, e1, e2, e3⟩ := ry
  subst e1
  exact ⟨dp, qs, Rep.dp s.same _ _ _ rx g1, .tup (sqT_mono s.same e2) (Reps.dp s.same _ _ _ e3 g2), hs.1, hs.2, p.now s rfl⟩
theorem od_inX : OpD ct K (rInX K) (gInX false) := by
  intro m F S H x y dx dy d S' Q s rx ry h p
  unfold gInX at h
  split at h
  · rename_i r hr
    cases h
    exact .inl (od_in m F S H x y dx dy d S' Q s rx ry hr p)
  · split at h
    · exact .inr (.inr (in_deepT (neg := false) s rx ry h p))
    · exact .inr (.inl (in_deep (neg := false) s rx ry h p))
theorem od_notInX : OpD ct K (rNotInX K) (gInX true) := by
  intro m F S H x y dx dy d S' Q s rx ry h p
  unfold gInX at h
  split at h
  · rename_i r hr
    cases h
    exact .inl (od_notIn m F S H x y dx dy d S' Q s rx ry hr p)
  · split at h
    · exact .inr (.inr (in_deepT (neg := true) s rx ry h p))
    · exact .inr (.inl (in_deep (neg := true) s rx ry h p))
end
def gSlX : D → Option Int → Option Int → Sto → Option (D × Sto)
  | .lst ds, lo, hi, S => some (.lst (cutD ds lo hi), S)
  | .scr ns, lo, hi, S => some (.lst ((cutD ns lo hi).map .int), S)
  | .tup ds, lo, hi, S => some (.tup (cutD ds lo hi), S)
  | .str z, lo, hi, S => if z.length ≤ 16777216 then some (.str (cutS z lo hi), S) else none
  | .ref k, lo, hi, S => match S[k]? with
    | some (.lst ds) => some (.lst (cutD ds lo hi), S)
    | _ => none
  | _, _, _, _ => none
def rSlX (K : PySem.W.Frag) : V → Option Int → Option Int → Hp → VK → Prop := fun x lo hi H Q => rSlL K x lo hi H Q ∨ (rSlA K x lo hi H Q ∨ rSlS x lo hi H Q)
def fSlX (fa : FE) (lo hi : FO) : FE := fun env S => (fa env S).bind fun p => (lo env p.2).bind fun q => (hi env q.2).bind fun r => gSlX p.1 q.1 r.1 r.2
section
variable {ct : CT} {X : Cx} {a : Expr} {fa : FE}
theorem sl_allX : SlR X (rSlX X.K) := sl_list.or (sl_tupA.or sl_str)
theorem cut_whole {α : Type} {xs : List α} {lo hi : Option Int} (h : HT.sIx xs.length 0 lo = 0 ∧ HT.sIx xs.length xs.length hi = xs.length) : cutD xs lo hi = xs := by
  unfold cutD
  rw [h.1, h.2]
  simp
theorem se_sliceX {lo hi : Option Expr} {fl fh : FO} {p2 pos : Pos} (he : SE ct X a fa) (hl : SO ct X lo fl) (hh : SO ct X hi fh) : SE ct X (.Subscript a (.Slice lo hi none p2) pos) (fSlX fa fl fh) := by
  obtain ⟨ta, pa, ra⟩ := he
  obtain ⟨tb, pb, rb⟩ := hl
  obtain ⟨tc, pc, rc⟩ := hh
  refine ⟨_, pe_slice sl_allX pa pb pc, fun m F S σ H env d S' Q s en h p => ?_⟩
  obtain ⟨⟨z, S1⟩, h1, h⟩ := bind_some h
  obtain ⟨⟨i, S2⟩, h2, h⟩ := bind_some h
  obtain ⟨⟨j, S3⟩, h3, h⟩ := bind_some h
  refine ra m F S σ H env z S1 _ s en h1 fun m1 F1 v1 H1 x1 s1 r1 => ?_
  refine rb m1 F1 S1 σ H1 env i S2 _ s1 (en.mono x1) h2 fun m2 F2 H2 x2 s2 => ?_
  refine rc m2 F2 S2 σ H2 env j S3 _ s2 ((en.mono x1).mono x2) h3 fun m3 F3 H3 x3 s3 => ?_
  have p3 := ((p.ext x1).ext x2).ext x3
  have r3 := (r1.mono x2).mono x3
  have lists : ∀ (q : Addr) (vs : List V) (ds : List D), v1 = .ref q → H3 q = some (.lst vs) → Reps X.K ct m3 F3 ds vs → d = .lst (cutD ds i j) → S' = S3 → rSlX X.K v1 i j H3 Q := fun q vs ds e1 e2 e3 ed es => by
    subst ed es
    refine .inl ⟨q, vs, e1, SqL.of e2, fun w hw => ?_⟩
    obtain ⟨s4, x4⟩ := s3.frozen hw (.lst (cutV vs i j))
    exact p3 _ _ (.ref w) _ x4 s4 ⟨w, _, rfl, upd_same, (cutD_reps e3 i j).mono x4⟩
  cases z with
  | lst ds =>
    cases h
    obtain ⟨q, vs, e1, e2, e3⟩ := r3
    exact lists q vs ds e1 (s3.same _ _ e2) e3 rfl rfl
  | ref k =>
    have h : (match S3[k]? with
      | some (.lst ds) => some (D.lst (cutD ds i j), S3)
      | _ => none) = some (d, S') := h
    split at h
    · rename_i ds hk
      cases h
      obtain ⟨q, g1, g2⟩ := r3
      obtain ⟨vs, c1, c2⟩ := s3.cell k q _ g1 hk
      exact lists q vs ds g2 c1 c2 rfl rfl
    · cases h
  | scr ns =>
    cases h
    obtain ⟨q, e1, e2⟩ := r3
    refine .inl ⟨q, _, e1, s3.same.seq e2, fun w hw => ?_⟩
    obtain ⟨s4, x4⟩ := s3.frozen hw (.lst (cutV (ns.map V.int) i j))
    refine p3 _ _ (.ref w) _ x4 s4 ⟨w, _, rfl, upd_same, ?_⟩
    have := cutD_reps (K := X.K) (ct := ct) (m := m3) (F := upd F3 w (.lst (cutV (ns.map V.int) i j))) (Reps.ints ns) i j
    have e : cutD (ns.map D.int) i j = (cutD ns i j).map D.int := by
      unfold cutD
      rw [List.length_map, List.map_take, List.map_drop]
    rw [e] at this
    exact this
  | tup ds =>
    cases h
    obtain ⟨q, vs, e1, e2, e3⟩ := r3
    refine .inr (.inl ⟨q, vs, e1, sqT_mono s3.same e2, fun hw => ?_, fun _ w hw => ?_⟩)
    · rw [← e3.length] at hw
      rw [cut_whole hw] at p3
      exact p3.now s3 ⟨q, vs, rfl, e2, e3⟩
    · obtain ⟨s4, x4⟩ := s3.frozen hw (.tup (cutV vs i j))
      exact p3 _ _ (.ref w) _ x4 s4 ⟨w, _, rfl, SqT.of upd_same, (cutD_reps e3 i j).mono x4⟩
  | str z =>
    have h : (if z.length ≤ 16777216 then some (D.str (cutS z i j), S3) else none) = some (d, S') := h
    split at h
    · rename_i hl
      cases h
      exact .inr (.inr ⟨_, r3, by rw [line_eq]; exact hl, p3.now s3 rfl⟩)
    · cases h
  | _ => cases h
end
def asStrs : List D → Option (List Str)
  | [] => some []
  | .str x :: ds => (asStrs ds).map fun r => x :: r
  | _ :: _ => none
def fJoin (fo fe : FE) : FE := fun env S => (fo env S).bind fun p => match p.1 with
  | .str a => (fe env p.2).bind fun q => (lstOf q.2 q.1).bind fun ds => (asStrs ds).bind fun ys => if (ys.map (·.length)).sum + ys.length * a.length ≤ 16777216 then some (.str (Txt.join a ys), q.2) else none
  | _ => none
end DL
namespace PySem.W
open PySem PySem.Calls PyProof.Rows
section
variable {prog : Program} {w : World} {A : Around} {E : Value → Shared → Prop} {s : Shared}
/-- the items of a tuple, gathered -/
theorem collectTup {t : Addr} {us : List Value} {Q : List Value → Shared → Prop} (ht : s.heap.IsTuple t us.toArray)
    (h : Q us { s with heap := (s.heap.push (seqObj "list" #[] 0)).update s.heap.objs.size (Obj.mapSeq (· ++ us.toArray)) }) (hsz : us.length ≤ sizeLine) :
    wpAny (model prog w) A (collect (.ref t)) Q E s := by
  obtain ⟨o, ho, hc, n, hd⟩ := id ht
  unfold collect
  refine wpAny_bind (wpAny_runValue (codeAny_builtin entry_proto_collect' ?_))
  show wpAny _ _ (do again (.builtin "list.__iadd__" ⟨[← newList [], .ref t], []⟩)) _ _ s
  refine wpAny_bind (wpAny_newList (wpAny_pure ⟨Code.quiet_builtin _ (by decide +kernel), codeAny_builtin entry_list_iadd' ?_⟩))
  show wpAny _ _ (Builtin.List.listExtendWith (.ref s.heap.objs.size) (.ref t) (.ref s.heap.objs.size)) _ _ { s with heap := s.heap.push (seqObj "list" #[] 0) }
  unfold Builtin.List.listExtendWith
  have ho' : (s.heap.push (seqObj "list" #[] 0)).get? t = some o := Heap.get?_push_of_some _ ho
  refine wpAny_bind (wpAny_typeOf (T := "tuple") ⟨o, ho', hc⟩ ?_)
  have hty : (Value.type "tuple" == Value.type "tuple") = true := by rfl
  rw [if_pos (by rw [hty]; simp)]
  refine wpAny_bind (listItems_at ho' hd ?_)
  refine wpAny_bind (listItems_at (xs := #[]) (n := 0) (Heap.get?_push_size _ rfl) rfl ?_)
  rw [if_neg (by simp)]
  refine wpAny_bind (listUpdate_at (xs := #[]) (n := 0) (Heap.get?_push_size _ rfl) rfl ?_ (Nat.zero_le _) (by show (#[] ++ us.toArray).size ≤ sizeLine + 1; simp only [Array.size_append, List.size_toArray, List.length_nil]; omega))
  refine wpAny_pure ?_
  show wpAny (model prog w) A (do
      let o ← load s.heap.objs.size
      match o.data with
      | .seq xs _ => pure xs.toList
      | _ => unsupported "internal:collect") Q E { s with heap := (s.heap.push (seqObj "list" #[] 0)).update s.heap.objs.size (Obj.mapSeq (· ++ us.toArray)) }
  refine wpAny_bind (wpAny_load (get?_update_seq (Heap.get?_push_size _ rfl) _) ?_)
  show wpAny _ _ (pure ((#[] : Array Value) ++ us.toArray).toList) Q E _
  rw [show ((#[] : Array Value) ++ us.toArray).toList = us by simp]
  exact wpAny_pure h
theorem sortedTup {β : Type} {R : Value → β → Prop} {enc : β → PyData} {t : Addr} {us : List Value} {bs : List β} {Q : Value → Shared → Prop} (ht : s.heap.IsTuple t us.toArray) (e : EachIs R us bs) (er : EachIs (fun v b => ∃ as, Reads s.heap v (enc b) as) us bs) (hal : AllAlike (bs.map enc)) (hk : Sortable (bs.map enc)) (hL : bs.length ≤ sizeLine)
    (hu : ∀ b, b ∈ bs → A.units + 2 + (enc b).depth < cLine) (h : ∀ out, out.length = bs.length → EachIs R out (bs.mergeSort (dataLe false enc)) → Q (.ref (s.heap.objs.size + 1)) { s with heap := sortedAll s.heap us (List.toArray out) }) :
    wpAny (model prog w) A (call (.builtin "sorted") [.ref t]) Q E s := by
  have hL' : us.length ≤ sizeLine := by rw [e.length]; exact hL
  have er' : EachIs (fun v b => ∃ as, Reads (sortingHeap (copyHeap s.heap us) (s.heap.objs.size + 1) us) v (enc b) as) us bs := er.mono fun _ _ ⟨as, r⟩ => ⟨as, PyProof.Rows.Reads.keeps (fun _ _ => sorting_copy_old) r⟩
  refine call_function_entry_kw (kw := []) kind_sorted plain_sorted entry_sorted (args_sorted1 _) ?_
  unfold Builtin.«sorted»
  refine wpAny_bind (m := checkCount "sorted" 1 1 _) (wpAny_pure ?_)
  refine wpAny_bind (collectTup ht ?_ hL')
  refine wpAny_bind (wpAny_newList ?_ hL')
  have hsz : ((s.heap.push (seqObj "list" #[] 0)).update s.heap.objs.size (Obj.mapSeq (· ++ us.toArray))).objs.size = s.heap.objs.size + 1 := by
    rw [Heap.size_update, size_push']
  show wpAny _ _ _ _ _ { s with heap := copyHeap s.heap us }
  rw [hsz]
  refine wpAny_bind (wpAny_holding (wpAny_call_entry_kw slot_list_sort ⟨_, copyHeap_at s.heap us, rfl⟩ entry_list_sort ?body (args_list_sort _)))
  case body =>
    show wpAny (model prog w) A.in1.in1 (Builtin.«list.sort» ⟨[.ref (s.heap.objs.size + 1)], []⟩) _ _ _
    refine wpAny_mono (list_sort_vals (A := A.in1.in1) (s := { s with heap := copyHeap s.heap us }) (P := fun f s' => f = .done (.ret .none) ∧ Q (.ref (s.heap.objs.size + 1)) s') (copyHeap_at s.heap us) (SortsAt.data (s := { s with heap := sortingHeap (copyHeap s.heap us) (s.heap.objs.size + 1) us }) (each_map (R := fun v d => ∃ as, Reads (sortingHeap (copyHeap s.heap us) (s.heap.objs.size + 1) us) v d as) enc er') hal hk (bound_map hu)) hL' ⟨rfl, h _ (by rw [sortVals_length false rfl]; exact e.length) (sortVals_data false e er' hal)⟩) (fun f s' hf => ?_) fun _ _ e => e
    obtain ⟨rfl, hq⟩ := hf
    exact ⟨_, rfl, wpAny_pure ⟨_, rfl, hq⟩⟩
end
end PySem.W
namespace DL
open PySem PySem.Spec PyProof.Rows L2
def rSortX (K : PySem.W.Frag) : List V → Hp → VK → Prop := fun xs H Q => ∃ (a : Addr) (vs : List V) (ps : List PyData), xs = [.ref a] ∧ (SqL K H a vs ∨ SqT K H a vs) ∧ DpAll K H vs ps ∧ PySem.W.AllAlike ps ∧ PySem.W.Sortable ps ∧ (∀ p ∈ ps, p.depth ≤ 40) ∧ vs.length ≤ 1000000 ∧
  ∀ q, H q = none → Q (.ref q) (upd H q (.lst (((vs.zip ps).mergeSort (PySem.W.dataLe false fun b => b.2)).map (·.1))))
theorem each_rel {vs : List V} {us : List Value} (r : Vals vs us) : ∀ (ps : List PyData), vs.length = ps.length → PySem.W.EachIs (fun u (b : V × PyData) => RelV b.1 u) us (vs.zip ps) := by
  induction r with
  | nil => intro ps h; exact .nil
  | cons hh _ ih =>
    intro ps h
    match ps, h with
    | p :: ps, h => exact .cons hh (ih ps (by simpa using h))
theorem each_reads {hp : Heap} : ∀ {us : List Value} {ps : List PyData} {as : List Addr} (vs : List V), vs.length = ps.length → ReadsAll hp us ps as → PySem.W.EachIs (fun u (b : V × PyData) => ∃ as, Reads hp u b.2 as) us (vs.zip ps)
  | [], [], _, vs, h, r => by
    have : vs = [] := List.length_eq_zero_iff.mp h
    subst this
    exact .nil
  | _ :: us, _ :: ps, _, [], h, r => by cases h
  | u :: us, p :: ps, _, v :: vs, h, r => by
    cases r with
    | cons r1 r2 => exact .cons ⟨_, r1⟩ (each_reads vs (by simpa using h) r2)
theorem DpAll_len {K : PySem.W.Frag} {H : Hp} : ∀ {vs : List V} {ps : List PyData}, DpAll K H vs ps → vs.length = ps.length
  | [], [], _ => rfl
  | _ :: _, _ :: _, h => by
    cases h with
    | cons _ h2 => simp [DpAll_len h2]
  | [], _ :: _, h => by cases h
  | _ :: _, [], h => by cases h
theorem vals_each {us : List Value} {bs : List (V × PyData)} (h : PySem.W.EachIs (fun u (b : V × PyData) => RelV b.1 u) us bs) : Vals (bs.map (·.1)) us := by
  induction h with
  | nil => exact .nil
  | cons hh _ ih => exact .cons hh ih
theorem cr_sortX {X : Cx} {k : Nat} (hr : RoomG k X.A) : CallR X (.builtin "sorted") (rSortX X.K) := by
  intro pins s σ H xs us Q I r h
  obtain ⟨a, vs, ps, rfl, hs, hd, hal, hk, hdep, hlen, q⟩ := h
  rw [Vals.ref1 r]
  have hlp := DpAll_len hd
  have hzl : (vs.zip ps).length = vs.length := by rw [List.length_zip, hlp]; simp
  have hmap : (vs.zip ps).map (fun b => b.2) = ps := List.map_snd_zip (by omega)
  have hu : ∀ b, b ∈ vs.zip ps → X.A.units + 2 + (b.2).depth < cLine := fun b hb => by
    have := hdep b.2 (by rw [← hmap]; exact List.mem_map.mpr ⟨b, hb, rfl⟩)
    have := hr.units
    omega
  have hL : (vs.zip ps).length ≤ sizeLine := by rw [hzl, line_eq]; omega
  have key : ∀ (its : List Value), Vals vs its → ∀ out : List Value, out.length = (vs.zip ps).length → PySem.W.EachIs (fun u (b : V × PyData) => RelV b.1 u) out ((vs.zip ps).mergeSort (PySem.W.dataLe false fun b => b.2)) →
      EP X pins σ Q (.ref (s.heap.objs.size + 1)) { s with heap := sortedAll s.heap its out.toArray } := fun its rv out ho e => by
    obtain ⟨ep, he'⟩ := PyProof.Rows.sortedAll_at s.heap its out.toArray
    have v2 := vals_each e
    have hl2 : (((vs.zip ps).mergeSort (PySem.W.dataLe false fun b => b.2)).map (·.1)).length ≤ sizeLine := by
      rw [v2.length, ho]
      exact hL
    exact ⟨.ref _, upd H (s.heap.objs.size + 1) (.lst (((vs.zip ps).mergeSort (PySem.W.dataLe false fun b => b.2)).map (·.1))), I.laid (t' := s.toks) (fun _ _ => PyProof.Rows.sortedAll_old) (Nat.le_succ _) ⟨hl2, out, ep, v2, he'⟩, rfl, q _ (I.hok.fresh (Nat.le_succ _))⟩
  rcases hs with hs | hs
  · obtain ⟨its, rv, hl, hz⟩ := I.list hs
    obtain ⟨as, hra⟩ := Dp.readsAll I ps _ its hd rv
    exact PySem.W.sorted_data (R := fun u (b : V × PyData) => RelV b.1 u) (enc := fun b => b.2) hl.isList (each_rel rv ps hlp) (each_reads vs hlp hra) (by rw [hmap]; exact hal) (by rw [hmap]; exact hk) hL hu (key its rv)
  · obtain ⟨its, rv, ht, hz⟩ := I.tuple hs
    obtain ⟨as, hra⟩ := Dp.readsAll I ps _ its hd rv
    exact PySem.W.sortedTup (R := fun u (b : V × PyData) => RelV b.1 u) (enc := fun b => b.2) ht (each_rel rv ps hlp) (each_reads vs hlp hra) (by rw [hmap]; exact hal) (by rw [hmap]; exact hk) hL hu (key its rv)
def seqOf (S : Sto) : D → Option (List D)
  | .tup ds => some ds
  | d => lstOf S d
def insB {α : Type} (le : α → α → Bool) (x : α) : List α → List α
  | [] => [x]
  | y :: ys => if le x y = true then x :: y :: ys else y :: insB le x ys
def isort {α : Type} (le : α → α → Bool) : List α → List α
  | [] => []
  | x :: xs => insB le x (isort le xs)
def leI (a b : Int) : Bool := decide (a ≤ b)
def leP (a b : Int × Int) : Bool := decide (a.1 < b.1 ∨ (a.1 = b.1 ∧ a.2 ≤ b.2))
def pairD (p : Int × Int) : D := .tup [.int p.1, .int p.2]
def asPair : D → Option (Int × Int)
  | .tup [.int a, .int b] => some (a, b)
  | _ => none
def asPairs : List D → Option (List (Int × Int))
  | [] => some []
  | d :: ds => (asPair d).bind fun p => (asPairs ds).map fun r => p :: r
def cSorted : FD
  | [d], S => (seqOf S d).bind fun ds => if ds.length ≤ 1000000 then (match asInts ds with
    | some ns => some (.lst ((isort leI ns).map .int), S)
    | none => (asPairs ds).map fun ps => (.lst ((isort leP ps).map pairD), S)) else none
  | _, _ => none
theorem asPair_eq {d : D} {p : Int × Int} (h : asPair d = some p) : d = pairD p := by
  unfold asPair at h
  split at h
  · cases h; rfl
  · cases h
theorem asPairs_eq : ∀ {ds : List D} {ps : List (Int × Int)}, asPairs ds = some ps → ds = ps.map pairD
  | [], _, h => by cases h; rfl
  | d :: ds, _, h => by
    obtain ⟨p, h1, h⟩ := bind_some h
    obtain ⟨r, h2, rfl⟩ := map_some h
    rw [asPair_eq h1, asPairs_eq h2]
    rfl
theorem ins_perm {α : Type} (le : α → α → Bool) (x : α) : ∀ l : List α, (insB le x l).Perm (x :: l)
  | [] => .refl _
  | y :: ys => by
    unfold insB
    split
    · exact .refl _
    · exact ((ins_perm le x ys).cons y).trans (.swap x y ys)
theorem isort_perm {α : Type} (le : α → α → Bool) : ∀ l : List α, (isort le l).Perm l
  | [] => .refl _
  | x :: xs => (ins_perm le x _).trans ((isort_perm le xs).cons x)
theorem ins_sorted {α : Type} {le : α → α → Bool} (h : PySem.W.TotalLe le) (x : α) : ∀ {l : List α}, l.Pairwise (fun a b => le a b = true) → (insB le x l).Pairwise (fun a b => le a b = true)
  | [], _ => by simp [insB]
  | y :: ys, hp => by
    have hp' := List.pairwise_cons.mp hp
    unfold insB
    split
    · rename_i hxy
      refine List.pairwise_cons.mpr ⟨fun z hz => ?_, hp⟩
      rcases List.mem_cons.mp hz with rfl | hz
      · exact hxy
      · exact h.trans _ _ _ hxy (hp'.1 z hz)
    · rename_i hxy
      refine List.pairwise_cons.mpr ⟨fun z hz => ?_, ins_sorted h x hp'.2⟩
      rcases List.mem_cons.mp ((ins_perm le x ys).mem_iff.mp hz) with rfl | hz
      · rcases h.total z y with q | q
        · exact absurd q hxy
        · exact q
      · exact hp'.1 z hz
theorem isort_sorted {α : Type} {le : α → α → Bool} (h : PySem.W.TotalLe le) : ∀ l : List α, (isort le l).Pairwise (fun a b => le a b = true)
  | [] => List.Pairwise.nil
  | x :: xs => ins_sorted h x (isort_sorted h xs)
theorem merge_isort {α : Type} {le : α → α → Bool} (h : PySem.W.TotalLe le) (ha : ∀ a b, le a b = true → le b a = true → a = b) (l : List α) : l.mergeSort le = isort le l := by
  refine (PySem.W.sort_unique h (isort_sorted h l) fun c => ?_).symm
  have hc : ∀ z ∈ l, PySem.W.sameRank le c z = true → z = c := fun z _ hz => by
    unfold PySem.W.sameRank at hz
    simp only [Bool.and_eq_true] at hz
    exact ha z c hz.2 hz.1
  have rep : ∀ m : List α, (m.filter (PySem.W.sameRank le c)) = List.replicate (m.filter (PySem.W.sameRank le c)).length c := fun m => by
    refine List.eq_replicate_iff.mpr ⟨rfl, fun z hz => ?_⟩
    have := (List.mem_filter.mp hz).2
    unfold PySem.W.sameRank at this
    simp only [Bool.and_eq_true] at this
    exact ha z c this.2 this.1
  rw [rep (isort le l), rep l, ((isort_perm le l).filter _).length_eq]
theorem tot_leI : PySem.W.TotalLe leI := ⟨fun a b c => by simp only [leI, decide_eq_true_eq]; omega, fun a b => by simp only [leI, decide_eq_true_eq]; omega⟩
theorem tot_leP : PySem.W.TotalLe leP := ⟨fun a b c => by simp only [leP, decide_eq_true_eq]; omega, fun a b => by simp only [leP, decide_eq_true_eq]; omega⟩
theorem anti_leI (a b : Int) (h : leI a b = true) (g : leI b a = true) : a = b := by simp only [leI, decide_eq_true_eq] at h g; omega
theorem anti_leP (a b : Int × Int) (h : leP a b = true) (g : leP b a = true) : a = b := by
  simp only [leP, decide_eq_true_eq] at h g
  obtain ⟨a1, a2⟩ := a
  obtain ⟨b1, b2⟩ := b
  simp only [Prod.mk.injEq]
  simp only at h g
  omega
section
variable {ct : CT} {K : PySem.W.Frag}
theorem seq_of {m : List Addr} {F H : Hp} {S : Sto} {d : D} {v : V} {ds : List D} (s : Sim K ct m F S H) (r : Rep K ct m F d v) (h : seqOf S d = some ds) : ∃ a vs, v = .ref a ∧ (SqL K H a vs ∨ SqT K H a vs) ∧ Reps K ct m F ds vs := by
  cases d with
  | tup es =>
    cases h
    obtain ⟨a, vs, e1, e2, e3⟩ := r
    exact ⟨a, vs, e1, .inr (sqT_mono s.same e2), e3⟩
  | lst es =>
    obtain ⟨a, vs, e1, e2, e3⟩ := lst_at s r h
    exact ⟨a, vs, e1, .inl (SqL.of e2), e3⟩
  | ref k =>
    obtain ⟨a, vs, e1, e2, e3⟩ := lst_at s r h
    exact ⟨a, vs, e1, .inl (SqL.of e2), e3⟩
  | _ => cases h
def pairP (p : Int × Int) : PyData := .tuple [.int p.1, .int p.2]
theorem toPs_pairP : ∀ ps : List (Int × Int), toPs (ps.map pairD) = some (ps.map pairP)
  | [] => rfl
  | p :: ps => by
    show ((some (pairP p) : Option PyData).bind fun a => (toPs (ps.map pairD)).map fun r => a :: r) = _
    rw [toPs_pairP ps]
    rfl
theorem reps_mem {m : List Addr} {F : Hp} : ∀ {L : List ((Int × Int) × V)}, (∀ e ∈ L, Rep K ct m F (pairD e.1) e.2) → Reps K ct m F (L.map fun e => pairD e.1) (L.map (·.2))
  | [], _ => rfl
  | e :: L, h => ⟨_, _, rfl, h e (List.mem_cons_self ..), reps_mem fun z hz => h z (List.mem_cons_of_mem _ hz)⟩
theorem reps_zip {m : List Addr} {F : Hp} : ∀ {ps : List (Int × Int)} {vs : List V}, Reps K ct m F (ps.map pairD) vs → ∀ e ∈ ps.zip vs, Rep K ct m F (pairD e.1) e.2
  | [], _, _, _, he => by simp at he
  | p :: ps, _, h, e, he => by
    obtain ⟨v, r, rfl, h1, h2⟩ := h
    rcases List.mem_cons.mp (show e ∈ (p, v) :: ps.zip r from he) with rfl | q
    · exact h1
    · exact reps_zip h2 e q
theorem zip_two {α β γ : Type} (f : α → β) (g : α → γ) : ∀ l : List α, (l.map f).zip (l.map g) = l.map fun x => (f x, g x)
  | [] => rfl
  | x :: l => by simp [zip_two f g l]
theorem zip_turn : ∀ {ps : List (Int × Int)} {vs : List V}, ps.length = vs.length → vs.zip (ps.map pairP) = (ps.zip vs).map fun e => (e.2, pairP e.1)
  | [], [], _ => rfl
  | p :: ps, v :: vs, h => by simp [zip_turn (ps := ps) (vs := vs) (by simpa using h)]
  | [], _ :: _, h => by cases h
  | _ :: _, [], h => by cases h
theorem cd_sorted : CallD ct K (rSortX K) cSorted := by
  intro m F S H xs ds0 d S' Q s r h p
  match ds0, h with
  | [d1], h =>
    obtain ⟨v, rfl, rv⟩ := reps1 r
    obtain ⟨ds, h1, h⟩ := bind_some (show (seqOf S d1).bind _ = some (d, S') from h)
    split at h
    case isFalse => cases h
    rename_i hlen
    obtain ⟨a, vs, e1, e2, e3⟩ := seq_of s rv h1
    subst e1
    split at h
    · rename_i ns hns
      cases h
      have hv := e3.asInts hns
      subst hv
      have hz : (ns.map V.int).zip (ns.map PyData.int) = ns.map fun n => (V.int n, PyData.int n) := zip_two _ _ ns
      refine ⟨a, _, ns.map PyData.int, rfl, e2, DpAll_ints ns, PySem.W.AllAlike.of fun _ _ => rfl, PySem.W.Sortable.others fun b => ⟨by simp, by simp⟩, fun q hq => ?_, by rw [List.length_map]; rw [e3.length, List.length_map] at hlen; exact hlen, fun q hq => ?_⟩
      · obtain ⟨n, _, rfl⟩ := List.mem_map.mp hq
        exact Nat.zero_le _
      · have e : (((ns.map V.int).zip (ns.map PyData.int)).mergeSort (PySem.W.dataLe false fun b => b.2)).map (·.1) = (isort leI ns).map V.int := by
          rw [hz, ← PySem.W.sort_maps (r := leI) (fun n => (V.int n, PyData.int n)), List.map_map, merge_isort tot_leI anti_leI]
          · rfl
          · intro x _ y _
            exact (congrFun (congrFun (PySem.W.dataLe_int (fun n : Int => n)) x) y).symm
        rw [e]
        obtain ⟨s2, x2⟩ := s.frozen hq (.lst ((isort leI ns).map V.int))
        exact p m _ (.ref q) _ x2 s2 ⟨q, _, rfl, upd_same, Reps.ints _⟩
    · obtain ⟨ps, h2, e⟩ := map_some h
      cases e
      have hds := asPairs_eq h2
      subst hds
      have hlv : ps.length = vs.length := by rw [← e3.length, List.length_map]
      refine ⟨a, vs, ps.map pairP, rfl, e2, Reps.dp s.same _ _ _ e3 (toPs_pairP ps), PySem.W.AllAlike.of fun _ _ => rfl, PySem.W.Sortable.tuples fun b => ⟨_, _, rfl⟩, fun q hq => ?_, by rw [e3.length] at hlen; exact hlen, fun q hq => ?_⟩
      · obtain ⟨n, _, rfl⟩ := List.mem_map.mp hq
        show max 0 (max 0 0) + 1 ≤ 40
        decide
      · have hz : vs.zip (ps.map pairP) = (ps.zip vs).map fun e => (e.2, pairP e.1) := zip_turn hlv
        have e : ((vs.zip (ps.map pairP)).mergeSort (PySem.W.dataLe false fun b => b.2)).map (·.1) = ((ps.zip vs).mergeSort fun x y => leP x.1 y.1).map (·.2) := by
          rw [hz, ← PySem.W.sort_maps (r := fun (x y : (Int × Int) × V) => leP x.1 y.1) (fun e : (Int × Int) × V => (e.2, pairP e.1)), List.map_map]
          · rfl
          · intro x _ y _
            exact (congrFun (congrFun (PySem.W.dataLe_ii (fun e : (Int × Int) × V => e.1.1) (fun e => e.1.2)) x) y).symm
        have e2' : ((ps.zip vs).mergeSort fun x y => leP x.1 y.1).map (fun z => pairD z.1) = (isort leP ps).map pairD := by
          rw [← merge_isort tot_leP anti_leP, ← List.map_fst_zip (l₁ := ps) (l₂ := vs) (by omega), ← PySem.W.sort_maps (r := fun (x y : (Int × Int) × V) => leP x.1 y.1) Prod.fst (fun _ _ _ _ => rfl), List.map_map]
          · rw [List.map_fst_zip (by omega)]
            rfl
        rw [e]
        have rr := reps_mem (K := K) (ct := ct) (m := m) (F := F) (L := (ps.zip vs).mergeSort fun x y => leP x.1 y.1) fun z hz => reps_zip e3 z ((List.mergeSort_perm _ _).mem_iff.mp hz)
        rw [e2'] at rr
        obtain ⟨s2, x2⟩ := s.frozen hq (.lst (((ps.zip vs).mergeSort fun x y => leP x.1 y.1).map (·.2)))
        exact p m _ (.ref q) _ x2 s2 ⟨q, _, rfl, upd_same, rr.mono x2⟩
  | [], h => cases h
  | _ :: _ :: _, h => cases h
end
end DL
namespace DL
open PySem PySem.Spec PyProof.Rows L2
def fRevT (f : FE) : FE := fun env S => (f env S).bind fun p => match p.1 with
  | .tup ds => some (.tup ds.reverse, p.2)
  | _ => none
section
variable {ct : CT} {X : Cx} {e : Expr} {f : FE}
theorem Reps.reverse {K : PySem.W.Frag} {m : List Addr} {F : Hp} : ∀ {ds : List D} {vs : List V}, Reps K ct m F ds vs → Reps K ct m F ds.reverse vs.reverse
  | [], _, h => by
    have h : _ = _ := h
    subst h
    exact rfl
  | d :: ds, _, h => by
    obtain ⟨v, r, rfl, h1, h2⟩ := h
    rw [List.reverse_cons, List.reverse_cons]
    exact (Reps.reverse h2).snoc h1
end
def fTupR1 (fa : FE) : FE := fun env S => (fa env S).bind fun p => match p.1 with
  | .int n => if okR n = true ∧ n ≤ 16777216 then some (.tup (rangeD 0 n), p.2) else none
  | _ => none
def cListM : FD
  | [d], S => (seqOf S d).map fun ds => (.ref S.length, S ++ [.lst ds])
  | _, _ => none
def cListX : FD
  | [d], S => (seqOf S d).map fun ds => (.lst ds, S)
  | _, _ => none
def cTupleX : FD
  | [d], S => (seqOf S d).map fun ds => (.tup ds, S)
  | _, _ => none
section
variable {ct : CT} {X : Cx} {a : Expr} {fa : FE} {K : PySem.W.Frag}
theorem se_tupR1 {p q pos pos' : Pos} (hc : X.calm = true) (hg : Gl X "tuple") (hm : X.mg "tuple" = none) (hg2 : Gl X "range") (hm2 : X.mg "range" = none) (ha : SE ct X a fa) (na : starEach [a] X.env = (false, eval a X.env) :: starEach [] X.env := by rfl)
    (nb : starEach [.Call (.Name "range" q) [a] [] pos'] X.env = (false, eval (.Call (.Name "range" q) [a] [] pos') X.env) :: starEach [] X.env := by rfl) : SE ct X (.Call (.Name "tuple" p) [.Call (.Name "range" q) [a] [] pos'] [] pos) (fTupR1 fa) := by
  obtain ⟨ta, pa, ra⟩ := ha
  refine ⟨_, pe_tupRg hc hg hm (prg_1 hg2 hm2 pa na) nb, fun m F S σ H env d S' Q s en h p => ?_⟩
  obtain ⟨⟨z, S1⟩, h1, h⟩ := bind_some h
  refine ra m F S σ H env z S1 _ s en h1 fun m1 F1 v1 H1 x1 s1 r1 => ?_
  cases z with
  | int n =>
    have h : (if okR n = true ∧ n ≤ 16777216 then some (D.tup (rangeD 0 n), S1) else none) = some (d, S') := h
    split at h
    · rename_i hn
      cases h
      refine ⟨n, r1, ⟨by decide, by decide, (okR_ok hn.1).1, (okR_ok hn.1).2, ?_⟩, fun q hq => ?_⟩
      · show (n - 0).toNat ≤ 2 ^ 24
        omega
      · obtain ⟨s2, x2⟩ := s1.frozen hq (.tup (rgV 0 n))
        exact p _ _ (.ref q) _ (x1.trans x2) s2 ⟨q, _, rfl, SqT.of upd_same, range_reps 0 n⟩
    · cases h
  | _ => cases h
theorem cd_listX : CallD ct K (fun xs H Q => ∃ p ys, xs = [.ref p] ∧ (SqL K H p ys ∨ SqT K H p ys) ∧ ∀ l, H l = none → Q (.ref l) (upd H l (.lst ys))) cListX := by
  intro m F S H xs ds0 d S' Q s r h p
  match ds0, h with
  | [d1], h =>
    obtain ⟨v, rfl, rv⟩ := reps1 r
    obtain ⟨ds, h1, e⟩ := map_some h
    cases e
    obtain ⟨a, vs, e1, e2, e3⟩ := seq_of s rv h1
    refine ⟨a, vs, by rw [e1], e2, fun q hq => ?_⟩
    obtain ⟨s2, x2⟩ := s.frozen hq (.lst vs)
    exact p _ _ (.ref q) _ x2 s2 ⟨q, _, rfl, upd_same, e3.mono x2⟩
  | [], h => cases h
  | _ :: _ :: _, h => cases h
theorem cd_tupleX : CallD ct K (fun xs H Q => ∃ p ys, xs = [.ref p] ∧ ((SqL K H p ys ∧ ∀ l, H l = none → Q (.ref l) (upd H l (.tup ys))) ∨ (SqT K H p ys ∧ Q (.ref p) H))) cTupleX := by
  intro m F S H xs ds0 d S' Q s r h p
  match ds0, h with
  | [d1], h =>
    obtain ⟨v, rfl, rv⟩ := reps1 r
    obtain ⟨ds, h1, e⟩ := map_some h
    cases e
    have lists : ∀ a vs, v = V.ref a → H a = some (.lst vs) → Reps K ct m F ds vs → ∃ p ys, [v] = [V.ref p] ∧ ((SqL K H p ys ∧ ∀ l, H l = none → Q (.ref l) (upd H l (.tup ys))) ∨ (SqT K H p ys ∧ Q (.ref p) H)) := fun a vs e1 e2 e3 => by
      refine ⟨a, vs, by rw [e1], .inl ⟨SqL.of e2, fun q hq => ?_⟩⟩
      obtain ⟨s2, x2⟩ := s.frozen hq (.tup vs)
      exact p _ _ (.ref q) _ x2 s2 ⟨q, _, rfl, SqT.of upd_same, e3.mono x2⟩
    cases d1 with
    | tup es =>
      cases h1
      obtain ⟨a, vs, e1, e2, e3⟩ := rv
      exact ⟨a, vs, by rw [e1], .inr ⟨sqT_mono s.same e2, p.now s ⟨a, vs, rfl, e2, e3⟩⟩⟩
    | lst es =>
      obtain ⟨a, vs, e1, e2, e3⟩ := lst_at s rv h1
      exact lists a vs e1 e2 e3
    | ref k =>
      obtain ⟨a, vs, e1, e2, e3⟩ := lst_at s rv h1
      exact lists a vs e1 e2 e3
    | _ => cases h1
  | [], h => cases h
  | _ :: _ :: _, h => cases h
end
def sPar3 (i j l : Nat) (fas : FA) : FS := fun env S => (fas env S).bind fun p => match p.1 with
  | [u, v, w] => some (.nx (((env.set i (some u)).set j (some v)).set l (some w)), p.2)
  | _ => none
end DL
namespace DL
open PySem PySem.Spec PyProof.Rows L2
def isSeqD : D → Bool
  | .tup _ => true
  | .lst _ => true
  | _ => false
def cStrX : FD
  | [.int i], S => if i.natAbs.log2 < 1920 then some (.str (toString i), S) else none
  | [.str a], S => some (.str a, S)
  | [d], S => (toP d).bind fun p => if isSeqD d = true ∧ p.showable = true ∧ p.hasDict = false ∧ p.depth ≤ 50 ∧ p.shown.length ≤ 16777216 then some (.str p.shown, S) else none
  | _, _ => none
end DL
namespace DL
open PySem PySem.Spec PyProof.Rows L2
section
variable {S : Sto} {P : D → Sto → Prop} {PA : List D → Sto → Prop} {PS : Fl → Sto → Prop} {env : DEnv} {f fa fb fo fe : FE} {fas : FA}
theorem wp_aXi {i j : Int} : R (gAddX (.int i) (.int j) S) P ↔ P (.int (i + j)) S := R_some
theorem wp_aXs {x y : Str} : R (gAddX (.str x) (.str y) S) P ↔ x.length + y.length ≤ 16777216 ∧ P (.str (x ++ y)) S := R_cond
theorem wp_aXt {a b : List D} : R (gAddX (.tup a) (.tup b) S) P ↔ a.length + b.length ≤ 1000000 ∧ P (.tup (a ++ b)) S := R_cond
theorem wp_aXl {a b : List D} : R (gAddX (.lst a) (.lst b) S) P ↔ a.length + b.length ≤ 1000000 ∧ P (.lst (a ++ b)) S := R_cond
theorem wp_aMl {a b : List D} : R (gAddM (.lst a) (.lst b) S) P ↔ a.length + b.length ≤ 1000000 ∧ P (.ref S.length) (S ++ [.lst (a ++ b)]) := R_cond
theorem wp_ltX {i j : Int} : R (gLtX (.int i) (.int j) S) P ↔ P (.bl (decide (i < j))) S := R_some
theorem wp_leX {i j : Int} : R (gLeX (.int i) (.int j) S) P ↔ P (.bl (decide (i ≤ j))) S := R_some
theorem wp_leX2 {a b c d : Int} : R (gLeX (.tup [.int a, .int b]) (.tup [.int c, .int d]) S) P ↔ P (.bl (leL [a, b] [c, d])) S := R_some
theorem wp_SlX {lo hi : FO} : R (fSlX fa lo hi env S) P ↔ R (fa env S) fun x S1 => R (lo env S1) fun i S2 => R (hi env S2) fun j S3 => R (gSlX x i j S3) P := by unfold fSlX; simp only [R_bind]
theorem wp_sXc {ns : List Int} {lo hi : Option Int} : R (gSlX (.scr ns) lo hi S) P ↔ P (.lst ((cutD ns lo hi).map .int)) S := R_some
theorem wp_sXl {ds : List D} {lo hi : Option Int} : R (gSlX (.lst ds) lo hi S) P ↔ P (.lst (cutD ds lo hi)) S := R_some
theorem wp_sXt {ds : List D} {lo hi : Option Int} : R (gSlX (.tup ds) lo hi S) P ↔ P (.tup (cutD ds lo hi)) S := R_some
theorem wp_sXs {x : Str} {lo hi : Option Int} : R (gSlX (.str x) lo hi S) P ↔ x.length ≤ 16777216 ∧ P (.str (cutS x lo hi)) S := R_cond
theorem wp_RevT : R (fRevT f env S) P ↔ R (f env S) fun d S1 => WTup d fun ds => P (.tup ds.reverse) S1 := by
  unfold fRevT
  simp only [R_bind]
  refine ⟨fun ⟨d, S1, e, q⟩ => ⟨d, S1, e, ?_⟩, fun ⟨d, S1, e, q⟩ => ⟨d, S1, e, ?_⟩⟩
  · cases d <;> first | exact R_some.mp q | exact (R_none.mp q).elim
  · cases d <;> first | exact R_some.mpr q | exact (False.elim q)
theorem wp_sxI {i : Int} : R (cStrX [.int i] S) P ↔ i.natAbs.log2 < 1920 ∧ P (.str (toString i)) S := R_cond
theorem wp_sxS {a : Str} : R (cStrX [.str a] S) P ↔ P (.str a) S := R_some
theorem wp_lxT {ds : List D} : R (cListX [.tup ds] S) P ↔ P (.lst ds) S := R_some
theorem wp_lxL {ds : List D} : R (cListX [.lst ds] S) P ↔ P (.lst ds) S := R_some
theorem wp_txL {ds : List D} : R (cTupleX [.lst ds] S) P ↔ P (.tup ds) S := R_some
theorem wp_txT {ds : List D} : R (cTupleX [.tup ds] S) P ↔ P (.tup ds) S := R_some
theorem wp_lmT {ds : List D} : R (cListM [.tup ds] S) P ↔ P (.ref S.length) (S ++ [.lst ds]) := R_some
theorem wp_lmL {ds : List D} : R (cListM [.lst ds] S) P ↔ P (.ref S.length) (S ++ [.lst ds]) := R_some
theorem wp_Par3 {i j l : Nat} : R (sPar3 i j l fas env S) PS ↔ R (fas env S) fun ds S1 => ∃ u v w, ds = [u, v, w] ∧ PS (.nx (((env.set i (some u)).set j (some v)).set l (some w))) S1 := by
  unfold sPar3
  simp only [R_bind]
  refine ⟨fun ⟨d, S1, e, q⟩ => ⟨d, S1, e, ?_⟩, fun ⟨d, S1, e, q⟩ => ⟨d, S1, e, ?_⟩⟩
  · match d, q with
    | [u, v, w], q => exact ⟨u, v, w, rfl, R_some.mp q⟩
    | [], q => exact (R_none.mp q).elim
    | [_], q => exact (R_none.mp q).elim
    | [_, _], q => exact (R_none.mp q).elim
    | _ :: _ :: _ :: _ :: _, q => exact (R_none.mp q).elim
  · obtain ⟨u, v, w, rfl, q⟩ := q
    exact R_some.mpr q
theorem wp_three {u v w : D} {Q : D → D → D → Prop} : (∃ a b c, [u, v, w] = [a, b, c] ∧ Q a b c) ↔ Q u v w := ⟨fun ⟨a, b, c, e, q⟩ => by cases e; exact q, fun q => ⟨u, v, w, rfl, q⟩⟩
theorem wp_Join : R (fJoin fo fe env S) P ↔ R (fo env S) fun d S1 => WStr d fun a => R (fe env S1) fun x S2 => ∃ ds, lstOf S2 x = some ds ∧ ∃ ys, asStrs ds = some ys ∧ ((ys.map (·.length)).sum + ys.length * a.length ≤ 16777216 ∧ P (.str (Txt.join a ys)) S2) := by
  unfold fJoin
  simp only [R_bind]
  refine ⟨fun ⟨d, S1, e, q⟩ => ⟨d, S1, e, ?_⟩, fun ⟨d, S1, e, q⟩ => ⟨d, S1, e, ?_⟩⟩
  · cases d with
    | str a =>
      obtain ⟨x, S2, e2, q⟩ := R_bind.mp q
      refine ⟨x, S2, e2, ?_⟩
      obtain ⟨r, S3, e3, p⟩ := q
      obtain ⟨ds, h1, e3⟩ := bind_some e3
      obtain ⟨ys, h2, e3⟩ := bind_some e3
      split at e3
      case isFalse => cases e3
      rename_i hl
      cases e3
      exact ⟨ds, h1, ys, h2, hl, p⟩
    | _ => exact (R_none.mp q).elim
  · cases d with
    | str a =>
      obtain ⟨x, S2, e2, ds, h1, ys, h2, hl, p⟩ := q
      refine R_bind.mpr ⟨x, S2, e2, .str (Txt.join a ys), S2, ?_, p⟩
      show (lstOf S2 x).bind _ = _
      rw [h1]
      show (asStrs ds).bind _ = _
      rw [h2]
      exact if_pos hl
    | _ => exact (False.elim q)
end
end DL
namespace DL
open PySem PySem.Spec PyProof.Rows L2
inductive Tk
  | go
open Tk
def Qr {α : Type} (t : Tk) (o : Option (α × Sto)) (P : Tk → α → Sto → Prop) : Prop := R o (P t)
def QI (t : Tk) (b : Bool) (A B : Tk → Prop) : Prop := if b = true then A t else B t
def QFl (P : Tk → Fl → Sto → Prop) (f2 : FS) (t : Tk) (fl : Fl) (S : Sto) : Prop := PFl (P t) f2 fl S
def QBk (I : Tk → DEnv → Sto → Prop) (P : Tk → Fl → Sto → Prop) (t : Tk) (fl : Fl) (S : Sto) : Prop := PBk (I t) (P t) fl S
def QRun (P : Tk → D → Sto → Prop) (t : Tk) (fl : Fl) (S : Sto) : Prop := PRun (P t) fl S
theorem qi_t {A B : Tk → Prop} : QI go true A B ↔ A go := Iff.rfl
theorem qi_f {A B : Tk → Prop} : QI go false A B ↔ B go := Iff.rfl
theorem qi_mk {b : Bool} {A B : Tk → Prop} (h : b = true → A go) (g : b = false → B go) : QI go b A B := by
  cases b
  · exact g rfl
  · exact h rfl
theorem qi_dec {c : Prop} [Decidable c] {A B : Tk → Prop} (h : c → A go) (g : ¬ c → B go) : QI go (decide c) A B := qi_mk (fun e => h (of_decide_eq_true e)) fun e => g (of_decide_eq_false e)
theorem Qr_iff {α : Type} {o : Option (α × Sto)} {P : α → Sto → Prop} : R o P ↔ Qr go o fun _ => P := Iff.rfl
theorem q_pfl_nx {PS : Tk → Fl → Sto → Prop} {f2 : FS} {S : Sto} {e : DEnv} : QFl PS f2 go (.nx e) S ↔ Qr go (f2 e S) PS := Iff.rfl
theorem q_pfl_rt {PS : Tk → Fl → Sto → Prop} {f2 : FS} {S : Sto} {d : D} : QFl PS f2 go (.rt d) S ↔ PS go (.rt d) S := Iff.rfl
theorem q_pfl_bk {PS : Tk → Fl → Sto → Prop} {f2 : FS} {S : Sto} {e : DEnv} : QFl PS f2 go (.bk e) S ↔ PS go (.bk e) S := Iff.rfl
theorem q_pfl_ct {PS : Tk → Fl → Sto → Prop} {f2 : FS} {S : Sto} {e : DEnv} : QFl PS f2 go (.ct e) S ↔ PS go (.ct e) S := Iff.rfl
theorem q_run_rt {P : Tk → D → Sto → Prop} {S : Sto} {d : D} : QRun P go (.rt d) S ↔ P go d S := Iff.rfl
theorem q_run_nx {P : Tk → D → Sto → Prop} {S : Sto} {e : DEnv} : QRun P go (.nx e) S ↔ P go .non S := Iff.rfl
theorem q_bk_nx {I : Tk → DEnv → Sto → Prop} {PS : Tk → Fl → Sto → Prop} {S : Sto} {e : DEnv} : QBk I PS go (.nx e) S ↔ I go e S := Iff.rfl
theorem q_bk_ct {I : Tk → DEnv → Sto → Prop} {PS : Tk → Fl → Sto → Prop} {S : Sto} {e : DEnv} : QBk I PS go (.ct e) S ↔ I go e S := Iff.rfl
theorem q_bk_bk {I : Tk → DEnv → Sto → Prop} {PS : Tk → Fl → Sto → Prop} {S : Sto} {e : DEnv} : QBk I PS go (.bk e) S ↔ PS go (.nx e) S := Iff.rfl
theorem q_bk_rt {I : Tk → DEnv → Sto → Prop} {PS : Tk → Fl → Sto → Prop} {S : Sto} {d : D} : QBk I PS go (.rt d) S ↔ PS go (.rt d) S := Iff.rfl
section
variable {α β : Type} {env : DEnv} {S S1 : Sto} {f1 f2 : FS} {t u : FT} {f fa fb fc fo fe fv fk fx : FE} {fas : FA} {P : Tk → D → Sto → Prop} {PA : Tk → List D → Sto → Prop} {PT : Tk → Bool → Sto → Prop} {PS : Tk → Fl → Sto → Prop} {PG : Tk → DEnv → Sto → Prop}
theorem q_R_some {a : α} {P : Tk → α → Sto → Prop} : Qr go (some (a, S)) P ↔ P go a S := R_some
theorem q_R_none {P : Tk → α → Sto → Prop} : Qr go (none : Option (α × Sto)) P ↔ False := R_none
theorem q_R_cond {c : Prop} [Decidable c] {a : α} {P : Tk → α → Sto → Prop} : Qr go (if c then some (a, S) else none) P ↔ c ∧ P go a S := R_cond
theorem q_var0 {d : D} {r : DEnv} : Qr go (fVar 0 (some d :: r) S) P ↔ P go d S := wp_var0
theorem q_varS {n : Nat} {x : Option D} {r : DEnv} : Qr go (fVar (n + 1) (x :: r) S) P ↔ Qr go (fVar n r S) P := wp_varS
theorem q_C {d : D} : Qr go (fC d env S) P ↔ P go d S := wp_C
theorem q_Bin {g : D → D → Sto → Option (D × Sto)} : Qr go (fBin g fa fb env S) P ↔ Qr go (fa env S) fun tk x S1 => Qr tk (fb env S1) fun tk y S2 => Qr tk (g x y S2) P := wp_Bin
theorem q_neg : Qr go (fUn gNeg fa env S) P ↔ Qr go (fa env S) fun tk x S1 => WI x fun i => P tk (.int (-i)) S1 := wp_neg
theorem q_nil : Qr go (fNil env S) PA ↔ PA go [] S := wp_nil
theorem q_cons : Qr go (fCons f fas env S) PA ↔ Qr go (f env S) fun tk d S1 => Qr tk (fas env S1) fun tk ds S2 => PA tk (d :: ds) S2 := wp_cons
theorem q_tup : Qr go (fTup fas env S) P ↔ Qr go (fas env S) fun tk ds S1 => ds.length ≤ 1000 ∧ P tk (.tup ds) S1 := wp_tup
theorem q_lst : Qr go (fLst fas env S) P ↔ Qr go (fas env S) fun tk ds S1 => ds.length ≤ 1000 ∧ P tk (.lst ds) S1 := wp_lst
theorem q_lstM : Qr go (fLstM fas env S) P ↔ Qr go (fas env S) fun tk ds S1 => ds.length ≤ 1000 ∧ P tk (.ref S1.length) (S1 ++ [.lst ds]) := wp_lstM
theorem q_Call {g : FD} : Qr go (fCall g fas env S) P ↔ Qr go (fas env S) fun tk ds S1 => Qr tk (g ds S1) P := wp_Call
theorem q_And : Qr go (fAnd fa fb env S) P ↔ Qr go (fa env S) fun tk d S1 => WB d fun b => QI tk b (fun tk => Qr tk (fb env S1) P) (fun tk => P tk (.bl false) S1) := wp_And
theorem q_Or : Qr go (fOr fa fb env S) P ↔ Qr go (fa env S) fun tk d S1 => WB d fun b => QI tk b (fun tk => P tk (.bl true) S1) (fun tk => Qr tk (fb env S1) P) := wp_Or
theorem q_Not : Qr go (fNot fa env S) P ↔ Qr go (fa env S) fun tk d S1 => WB d fun b => P tk (.bl (!b)) S1 := wp_Not
theorem q_Test : Qr go (fTest f env S) PT ↔ Qr go (f env S) fun tk d S1 => WB d fun b => PT tk b S1 := wp_Test
theorem q_tAnd : Qr go (tAndD t u env S) PT ↔ Qr go (t env S) fun tk b S1 => QI tk b (fun tk => Qr tk (u env S1) PT) (fun tk => PT tk false S1) := wp_tAnd
theorem q_tOr : Qr go (tOrD t u env S) PT ↔ Qr go (t env S) fun tk b S1 => QI tk b (fun tk => PT tk true S1) (fun tk => Qr tk (u env S1) PT) := wp_tOr
theorem q_tNot : Qr go (tNotD t env S) PT ↔ Qr go (t env S) fun tk b S1 => PT tk (!b) S1 := wp_tNot
theorem q_If : Qr go (fIf t fa fb env S) P ↔ Qr go (t env S) fun tk b S1 => QI tk b (fun tk => Qr tk (fa env S1) P) (fun tk => Qr tk (fb env S1) P) := wp_If
theorem q_Chain {g g' : D → D → Sto → Option (D × Sto)} : Qr go (fChain g g' fa fb fc env S) P ↔ Qr go (fa env S) fun tk x S1 => Qr tk (fb env S1) fun tk y S2 => Qr tk (g x y S2) fun tk z S3 => WB z fun b => QI tk b (fun tk => Qr tk (fc env S3) fun tk w S4 => Qr tk (g' y w S4) P) (fun tk => P tk (.bl false) S3) := wp_Chain
theorem q_Skip : Qr go (sSkip env S) PS ↔ PS go (.nx env) S := wp_Skip
theorem q_Break : Qr go (sBreak env S) PS ↔ PS go (.bk env) S := wp_Break
theorem q_Cont : Qr go (sCont env S) PS ↔ PS go (.ct env) S := wp_Cont
theorem q_Never : Qr go (sNever env S) PS ↔ False := wp_Never
theorem q_fNever : Qr go (fNever env S) P ↔ False := wp_fNever
theorem q_Seq : Qr go (sSeq f1 f2 env S) PS ↔ Qr go (f1 env S) (QFl PS f2) := wp_Seq
theorem q_Expr : Qr go (sExpr f env S) PS ↔ Qr go (f env S) fun tk _ S1 => PS tk (.nx env) S1 := wp_Expr
theorem q_Ret : Qr go (sRet f env S) PS ↔ Qr go (f env S) fun tk d S1 => PS tk (.rt d) S1 := wp_Ret
theorem q_sIf : Qr go (sIf t f1 f2 env S) PS ↔ Qr go (t env S) fun tk b S1 => QI tk b (fun tk => Qr tk (f1 env S1) PS) (fun tk => Qr tk (f2 env S1) PS) := wp_sIf
theorem q_Asg {g : FG} : Qr go (sAsg f g env S) PS ↔ Qr go (f env S) fun tk d S1 => Qr tk (g d env S1) fun tk e S2 => PS tk (.nx e) S2 := wp_Asg
theorem q_N {i : Nat} {d : D} : Qr go (gN i d env S) PG ↔ PG go (env.set i (some d)) S := wp_N
theorem q_gNil : Qr go (gNil [] env S) PG ↔ PG go env S := wp_gNil
theorem q_gCons {g : FG} {gs : FGs} {d : D} {ds : List D} : Qr go (gCons g gs (d :: ds) env S) PG ↔ Qr go (g d env S) fun tk e S1 => Qr tk (gs ds e S1) PG := wp_gCons
theorem q_gTup {n : Nat} {gs : FGs} {ds : List D} : Qr go (gTup n gs (.tup ds) env S) PG ↔ ds.length = n ∧ Qr go (gs ds env S) PG := wp_gTup
theorem q_gSub {g : D → D → D → Sto → Option Sto} {d : D} : Qr go (gSub g fa fb d env S) PG ↔ Qr go (fa env S) fun tk x S1 => Qr tk (fb env S1) fun tk y S2 => RU (g x y d S2) (PG tk env) := wp_gSub
theorem q_Par {i j : Nat} : Qr go (sPar i j fas env S) PS ↔ Qr go (fas env S) fun tk ds S1 => ∃ v w, ds = [v, w] ∧ PS tk (.nx ((env.set i (some v)).set j (some w))) S1 := wp_Par
theorem q_Run {n : Nat} {g : FS} {ds : List D} : Qr go (runD n g ds S) P ↔ Qr go (g (ds.map some ++ List.replicate (n - ds.length) none) S) (QRun P) := wp_Run
theorem q_For {fi : FA} {g : FG} : Qr go (sFor fi g f1 env S) PS ↔ Qr go (fi env S) fun tk xs S1 => Qr tk (forD g f1 xs env S1) PS := wp_For
theorem q_iLst : Qr go (iLst f env S) PA ↔ Qr go (f env S) fun tk d S1 => WLst d fun ds => PA tk ds S1 := wp_iLst
theorem q_iTup : Qr go (iTup f env S) PA ↔ Qr go (f env S) fun tk d S1 => WTup d fun ds => PA tk ds S1 := wp_iTup
theorem q_iR1 : Qr go (iRange1 fas env S) PA ↔ Qr go (fas env S) fun tk ds S1 => ∃ j, ds = [.int j] ∧ okR j = true ∧ PA tk (rangeD 0 j) S1 := wp_iR1
theorem q_iR2 : Qr go (iRange2 fas env S) PA ↔ Qr go (fas env S) fun tk ds S1 => ∃ i j, ds = [.int i, .int j] ∧ (okR i = true ∧ okR j = true) ∧ PA tk (rangeD i j) S1 := wp_iR2
theorem q_add {i j : Int} : Qr go (gAdd (.int i) (.int j) S) P ↔ P go (.int (i + j)) S := wp_add
theorem q_addL {a b : List D} : Qr go (gAdd (.lst a) (.lst b) S) P ↔ a.length + b.length ≤ 16777216 ∧ P go (.lst (a ++ b)) S := wp_addL
theorem q_addS {a b : Str} : Qr go (gAdd (.str a) (.str b) S) P ↔ a.length + b.length ≤ 16777216 ∧ P go (.str (a ++ b)) S := wp_addS
theorem q_I0 {k : Int → Int → D} {i j : Int} : Qr go (gI0 k (.int i) (.int j) S) P ↔ P go (k i j) S := wp_I0
theorem q_mul {i j : Int} : Qr go (gI (fun i j => smallI i && smallI j) (fun i j => .int (i * j)) (.int i) (.int j) S) P ↔ (smallI i = true ∧ smallI j = true) ∧ P go (.int (i * j)) S := wp_mul
theorem q_fdiv {i j : Int} : Qr go (gI (fun _ j => decide (0 < j) && decide (j.natAbs.log2 < 9000)) (fun i j => .int (i / j)) (.int i) (.int j) S) P ↔ (0 < j ∧ lgI j) ∧ P go (.int (i / j)) S := wp_fdiv
theorem q_mod {i j : Int} : Qr go (gI (fun _ j => decide (0 < j)) (fun i j => .int (i % j)) (.int i) (.int j) S) P ↔ 0 < j ∧ P go (.int (i % j)) S := wp_mod
theorem q_eqI {i j : Int} : Qr go (gEq (.int i) (.int j) S) P ↔ P go (.bl (decide (i = j))) S := wp_eqI
theorem q_eqS {i j : Str} : Qr go (gEq (.str i) (.str j) S) P ↔ P go (.bl (decide (i = j))) S := wp_eqS
theorem q_eqB {i j : Bool} : Qr go (gEq (.bl i) (.bl j) S) P ↔ P go (.bl (decide (i = j))) S := wp_eqB
theorem q_neI {i j : Int} : Qr go (gNe (.int i) (.int j) S) P ↔ P go (.bl (!decide (i = j))) S := wp_neI
theorem q_neS {i j : Str} : Qr go (gNe (.str i) (.str j) S) P ↔ P go (.bl (!decide (i = j))) S := wp_neS
theorem q_neB {i j : Bool} : Qr go (gNe (.bl i) (.bl j) S) P ↔ P go (.bl (!decide (i = j))) S := wp_neB
theorem q_isN {x : D} : Qr go (gIsN x .non S) P ↔ P go (.bl (isNonD x)) S := wp_isN
theorem q_notN {x : D} : Qr go (gNotN x .non S) P ↔ P go (.bl (!isNonD x)) S := wp_notN
theorem q_isi {T : String} : Qr go (fIsi T f env S) P ↔ Qr go (f env S) fun tk d S1 => ∃ b, isiT T d = some b ∧ P tk (.bl b) S1 := wp_isi
theorem q_abs {i : Int} : Qr go (cAbs [.int i] S) P ↔ P go (.int (if i < 0 then -i else i)) S := wp_abs
theorem q_max2 {i j : Int} : Qr go (cMax2 [.int i, .int j] S) P ↔ P go (.int (if j > i then j else i)) S := wp_max2
theorem q_min2 {i j : Int} : Qr go (cMin2 [.int i, .int j] S) P ↔ P go (.int (if j < i then j else i)) S := wp_min2
theorem q_maxT {i j : Int} : Qr go (cMaxT [.tup [.int i, .int j]] S) P ↔ P go (.int (if j > i then j else i)) S := wp_maxT
theorem q_intI {i : Int} : Qr go (cInt [.int i] S) P ↔ P go (.int i) S := wp_intI
theorem q_intB {i : Bool} : Qr go (cInt [.bl i] S) P ↔ P go (.int (if i then 1 else 0)) S := wp_intB
theorem q_lenS {x : Str} : Qr go (cLen [.str x] S) P ↔ x.length ≤ 16777216 ∧ P go (.int x.length) S := wp_lenS
theorem q_lenT {x : List D} : Qr go (cLen [.tup x] S) P ↔ P go (.int x.length) S := wp_lenT
theorem q_lenL {x : List D} : Qr go (cLen [.lst x] S) P ↔ P go (.int x.length) S := wp_lenL
theorem q_lenC {x : List Int} : Qr go (cLen [.scr x] S) P ↔ P go (.int x.length) S := wp_lenC
theorem q_divmod {i j : Int} : Qr go (cDivmod [.int i, .int j] S) P ↔ (0 < j ∧ lgI j) ∧ P go (.tup [.int (i / j), .int (i % j)]) S := wp_divmod
theorem q_listL {x : List D} : Qr go (cList [.lst x] S) P ↔ P go (.lst x) S := wp_listL
theorem q_listT {x : List D} : Qr go (cList [.tup x] S) P ↔ P go (.lst x) S := wp_listT
theorem q_tupL {x : List D} : Qr go (cTuple [.lst x] S) P ↔ P go (.tup x) S := wp_tupL
theorem q_tupT {x : List D} : Qr go (cTuple [.tup x] S) P ↔ P go (.tup x) S := wp_tupT
theorem q_KIn {neg : Bool} {tab : List (Str × Int)} : Qr go (fKIn neg tab f env S) P ↔ Qr go (f env S) fun tk d S1 => ∃ s, d = .str s ∧ P tk (.bl (if neg then !(tab.lookup s).isSome else (tab.lookup s).isSome)) S1 := wp_KIn
theorem q_Fld {c x : Str} : Qr go (fFld c x f env S) P ↔ Qr go (f env S) fun tk d S1 => ∃ q, insOf c d S1 = some q ∧ ∃ v, getF q.1 q.2 x = some v ∧ P tk v S1 := wp_Fld
theorem q_Meth {c x : Str} {g : FD} : Qr go (fMeth c x g fo fas env S) P ↔ Qr go (fo env S) fun tk d S1 => (∃ q, insOf c d S1 = some q ∧ hasF q.1 x = false) ∧ Qr tk (fas env S1) fun tk ds S2 => Qr tk (g (d :: ds) S2) P := wp_Meth
theorem q_MakeF {c : Str} {fs : List Str} {g' : List D → Option (List D)} {dds : List D} : Qr go (fMakeF c fs g' dds fas env S) P ↔ Qr go (fas env S) fun tk ds S1 => ∃ vals, g' (ds ++ dds) = some vals ∧ P tk (.obj c fs vals) S1 := wp_MakeF
end
section
variable {α β : Type} {env : DEnv} {S S1 : Sto} {f1 f2 : FS} {t u : FT} {f fa fb fc fo fe fv fk fx : FE} {fas : FA} {P : Tk → D → Sto → Prop} {PA : Tk → List D → Sto → Prop} {PT : Tk → Bool → Sto → Prop} {PS : Tk → Fl → Sto → Prop} {PG : Tk → DEnv → Sto → Prop}
theorem q_sFld {c x : Str} : Qr go (sFldD c x fo fv env S) PS ↔ Qr go (fv env S) fun tk v S1 => Qr tk (fo env S1) fun tk d S2 => ∃ i, d = .ref i ∧ ∃ c' fs ds, S2[i]? = some (.ins c' fs ds) ∧ (c' = c ∧ fs.length < 900) ∧ PS tk (.nx env) (S2.set i (.ins c (putN fs x) (putD fs ds x v))) := wp_sFld
theorem q_KIx {tab : List (Str × Int)} : Qr go (fKIx tab f env S) P ↔ Qr go (f env S) fun tk d S1 => ∃ s, d = .str s ∧ ∃ v, tab.lookup s = some v ∧ P tk (.int v) S1 := wp_KIx
theorem q_inT {neg : Bool} {k : Str} {ds : List D} : Qr go (gInB neg (.str k) (.tup ds) S) P ↔ ds.all flatD = true ∧ P go (.bl (if neg then !ds.any (fun z => eqF z (.str k)) else ds.any (fun z => eqF z (.str k)))) S := wp_inT
theorem q_inL {neg : Bool} {k : Str} {ds : List D} : Qr go (gInB neg (.str k) (.lst ds) S) P ↔ ds.all flatD = true ∧ P go (.bl (if neg then !ds.any (fun z => eqF z (.str k)) else ds.any (fun z => eqF z (.str k)))) S := wp_inL
theorem q_inS {neg : Bool} {k y : Str} : Qr go (gInB neg (.str k) (.str y) S) P ↔ P go (.bl (if neg then !(!(Builtin.Str.occurrences y k 0 y.length 1).isEmpty) else !(Builtin.Str.occurrences y k 0 y.length 1).isEmpty)) S := wp_inS
theorem q_ixL {i : Int} {ds : List D} : Qr go (gIx (.lst ds) (.int i) S) P ↔ ∃ d, L2.atI ds i = some d ∧ P go d S := wp_ixL
theorem q_ixT {i : Int} {ds : List D} : Qr go (gIx (.tup ds) (.int i) S) P ↔ ∃ d, L2.atI ds i = some d ∧ P go d S := wp_ixT
theorem q_ixC {i : Int} {ns : List Int} : Qr go (gIx (.scr ns) (.int i) S) P ↔ ∃ d, L2.atI ns i = some d ∧ P go (.int d) S := wp_ixC
theorem q_Lc {fi : FA} {g : FG} {vs : List Nat} : Qr go (fLc fi g t f vs env S) P ↔ Qr go (fi env S) fun tk xs S1 => xs.length ≤ 1000000 ∧ Qr tk (lcD g t f (wipeD env vs) xs S1) fun tk ds S2 => P tk (.lst ds) S2 := wp_Lc
theorem q_Yes : Qr go (tYesD env S) PT ↔ PT go true S := wp_Yes
theorem q_Sl {lo hi : FO} : Qr go (fSl fa lo hi env S) P ↔ Qr go (fa env S) fun tk x S1 => Qr tk (lo env S1) fun tk i S2 => Qr tk (hi env S2) fun tk j S3 => Qr tk (gSl x i j S3) P := wp_Sl
theorem q_oNone {Q : Tk → Option Int → Sto → Prop} : Qr go (oNone env S) Q ↔ Q go none S := wp_oNone
theorem q_oSome {Q : Tk → Option Int → Sto → Prop} : Qr go (oSome f env S) Q ↔ Qr go (f env S) fun tk d S1 => WI d fun i => Q tk (some i) S1 := wp_oSome
theorem q_slC {ns : List Int} {lo hi : Option Int} : Qr go (gSl (.scr ns) lo hi S) P ↔ P go (.lst ((cutD ns lo hi).map .int)) S := wp_slC
theorem q_slL {ds : List D} {lo hi : Option Int} : Qr go (gSl (.lst ds) lo hi S) P ↔ P go (.lst (cutD ds lo hi)) S := wp_slL
theorem q_slS {x : Str} {lo hi : Option Int} : Qr go (gSl (.str x) lo hi S) P ↔ x.length ≤ 16777216 ∧ P go (.str (cutS x lo hi)) S := wp_slS
end
section
variable {ct : CT} {X : Cx} {C : Addr} {c x : Str} {e o : Expr} {fe fo : FE} {fas : FA} {kws : List Keyword} {pos apos p : Pos} {k n : Nat} {g : FD} {kwb : KWB} {ks : List Str} {idx : List Nat}
variable {env : DEnv} {S : Sto} {P : Tk → D → Sto → Prop}
theorem q_MethK {fks : FA} : Qr go (fMethK c x g idx fo fks env S) P ↔ Qr go (fo env S) fun tk d S1 => (∃ q, insOf c d S1 = some q ∧ hasF q.1 x = false) ∧ Qr tk (fks env S1) fun tk ds S2 => Qr tk (g (kwG idx [d] ds) S2) P := wp_MethK
theorem q_CallK {fks : FA} : Qr go (fCallK g idx fks env S) P ↔ Qr go (fks env S) fun tk ds S1 => Qr tk (g (kwG idx [] ds) S1) P := wp_CallK
theorem q_Repr {d : D} : Qr go (cRepr [d] S) P ↔ ∃ p, toP d = some p ∧ (p.showable = true ∧ p.hasDict = false ∧ p.depth ≤ 50 ∧ p.shown.length ≤ 16777216) ∧ P go (.str p.shown) S := wp_Repr
end
section
variable {ct : CT} {X : Cx} {a b e : Expr} {fa fb f : FE} {fas : FA} {env : DEnv} {S : Sto} {P : Tk → D → Sto → Prop}
theorem q_DispF {ks : List Str} : Qr go (fDispF ks fas env S) P ↔ Qr go (fas env S) fun tk ds S1 => (ks.length ≤ 15 ∧ ks.Nodup ∧ ds.length = ks.length) ∧ P tk (.dct (ks.map Sum.inr) ds) S1 := wp_DispF
theorem q_DIx : Qr go (fDIx fa fb env S) P ↔ Qr go (fa env S) fun tk x S1 => Qr tk (fb env S1) fun tk y S2 => ∃ kvs, kvsOf x S2 = some kvs ∧ ∃ key, toKey y = some key ∧ ∃ d, valA kvs key = some d ∧ P tk d S2 := wp_DIx
end
theorem q_rep {ds : List D} {k : Int} {S : Sto} {P : Tk → D → Sto → Prop} : Qr go (gRep (.lst ds) (.int k) S) P ↔ (0 ≤ k ∧ k ≤ 1000 ∧ ds.length ≤ 1000) ∧ P go (.lst (List.replicate k.toNat ds).flatten) S := wp_rep
section
variable {ct : CT} {X : Cx} {C : Addr} {c x : Str} {a b e o k : Expr} {fe fo fa fb fk : FE} {fas : FA} {pos apos cpos : Pos} {n : Nat} {g : FD} {env : DEnv} {S : Sto} {P : Tk → D → Sto → Prop}
theorem q_Prop {g : FD} : Qr go (fProp c g fe env S) P ↔ Qr go (fe env S) fun tk d S1 => (∃ q, insOf c d S1 = some q) ∧ Qr tk (g [d] S1) P := wp_Prop
theorem q_IsC : Qr go (fIsC c fe env S) P ↔ Qr go (fe env S) fun tk d S1 => (∃ q, insOf c d S1 = some q) ∧ P tk (.bl true) S1 := wp_IsC
theorem q_DGet1 : Qr go (fDGet1 fo fk env S) P ↔ Qr go (fo env S) fun tk x S1 => (∃ q, kvsOf x S1 = some q) ∧ Qr tk (fk env S1) fun tk y S2 => ∃ kvs, kvsOf x S2 = some kvs ∧ ∃ key, toKey y = some key ∧ P tk ((valA kvs key).getD .non) S2 := wp_DGet1
theorem q_DIn {neg : Bool} : Qr go (fDIn neg fk fo env S) P ↔ Qr go (fk env S) fun tk y S1 => Qr tk (fo env S1) fun tk x S2 => ∃ kvs, kvsOf x S2 = some kvs ∧ ∃ key, toKey y = some key ∧ P tk (.bl (if neg then !(valA kvs key).isSome else (valA kvs key).isSome)) S2 := wp_DIn
theorem q_gUnl {n : Nat} {gs : FGs} {ds : List D} {PG : Tk → DEnv → Sto → Prop} : Qr go (gUnlD n gs (.lst ds) env S) PG ↔ ds.length = n ∧ Qr go (gs ds env S) PG := wp_gUnl
theorem q_DictK {tab : List (Str × Int)} : Qr go (fDictK tab env S) P ↔ P go (.ref S.length) (S ++ [.dct (tabD tab)]) := wp_DictK
end
theorem q_repM {ds : List D} {k : Int} {S : Sto} {P : Tk → D → Sto → Prop} : Qr go (gRepM (.lst ds) (.int k) S) P ↔ (0 ≤ k ∧ k ≤ 2000 ∧ ds.length ≤ 1000) ∧ P go (.ref S.length) (S ++ [.lst (List.replicate k.toNat ds).flatten]) := wp_repM
section
variable {S : Sto} {P : Tk → D → Sto → Prop} {PA : Tk → List D → Sto → Prop} {PS : Tk → Fl → Sto → Prop} {env : DEnv} {f fa fb fo fe : FE} {fas : FA}
theorem q_aXi {i j : Int} : Qr go (gAddX (.int i) (.int j) S) P ↔ P go (.int (i + j)) S := wp_aXi
theorem q_aXs {x y : Str} : Qr go (gAddX (.str x) (.str y) S) P ↔ x.length + y.length ≤ 16777216 ∧ P go (.str (x ++ y)) S := wp_aXs
theorem q_aXt {a b : List D} : Qr go (gAddX (.tup a) (.tup b) S) P ↔ a.length + b.length ≤ 1000000 ∧ P go (.tup (a ++ b)) S := wp_aXt
theorem q_aXl {a b : List D} : Qr go (gAddX (.lst a) (.lst b) S) P ↔ a.length + b.length ≤ 1000000 ∧ P go (.lst (a ++ b)) S := wp_aXl
theorem q_aMl {a b : List D} : Qr go (gAddM (.lst a) (.lst b) S) P ↔ a.length + b.length ≤ 1000000 ∧ P go (.ref S.length) (S ++ [.lst (a ++ b)]) := wp_aMl
theorem q_ltX {i j : Int} : Qr go (gLtX (.int i) (.int j) S) P ↔ P go (.bl (decide (i < j))) S := wp_ltX
theorem q_leX {i j : Int} : Qr go (gLeX (.int i) (.int j) S) P ↔ P go (.bl (decide (i ≤ j))) S := wp_leX
theorem q_leX2 {a b c d : Int} : Qr go (gLeX (.tup [.int a, .int b]) (.tup [.int c, .int d]) S) P ↔ P go (.bl (leL [a, b] [c, d])) S := wp_leX2
theorem q_SlX {lo hi : FO} : Qr go (fSlX fa lo hi env S) P ↔ Qr go (fa env S) fun tk x S1 => Qr tk (lo env S1) fun tk i S2 => Qr tk (hi env S2) fun tk j S3 => Qr tk (gSlX x i j S3) P := wp_SlX
theorem q_sXc {ns : List Int} {lo hi : Option Int} : Qr go (gSlX (.scr ns) lo hi S) P ↔ P go (.lst ((cutD ns lo hi).map .int)) S := wp_sXc
theorem q_sXl {ds : List D} {lo hi : Option Int} : Qr go (gSlX (.lst ds) lo hi S) P ↔ P go (.lst (cutD ds lo hi)) S := wp_sXl
theorem q_sXt {ds : List D} {lo hi : Option Int} : Qr go (gSlX (.tup ds) lo hi S) P ↔ P go (.tup (cutD ds lo hi)) S := wp_sXt
theorem q_sXs {x : Str} {lo hi : Option Int} : Qr go (gSlX (.str x) lo hi S) P ↔ x.length ≤ 16777216 ∧ P go (.str (cutS x lo hi)) S := wp_sXs
theorem q_RevT : Qr go (fRevT f env S) P ↔ Qr go (f env S) fun tk d S1 => WTup d fun ds => P tk (.tup ds.reverse) S1 := wp_RevT
theorem q_sxI {i : Int} : Qr go (cStrX [.int i] S) P ↔ i.natAbs.log2 < 1920 ∧ P go (.str (toString i)) S := wp_sxI
theorem q_sxS {a : Str} : Qr go (cStrX [.str a] S) P ↔ P go (.str a) S := wp_sxS
theorem q_lxT {ds : List D} : Qr go (cListX [.tup ds] S) P ↔ P go (.lst ds) S := wp_lxT
theorem q_lxL {ds : List D} : Qr go (cListX [.lst ds] S) P ↔ P go (.lst ds) S := wp_lxL
theorem q_txL {ds : List D} : Qr go (cTupleX [.lst ds] S) P ↔ P go (.tup ds) S := wp_txL
theorem q_txT {ds : List D} : Qr go (cTupleX [.tup ds] S) P ↔ P go (.tup ds) S := wp_txT
theorem q_lmT {ds : List D} : Qr go (cListM [.tup ds] S) P ↔ P go (.ref S.length) (S ++ [.lst ds]) := wp_lmT
theorem q_lmL {ds : List D} : Qr go (cListM [.lst ds] S) P ↔ P go (.ref S.length) (S ++ [.lst ds]) := wp_lmL
theorem q_Par3 {i j l : Nat} : Qr go (sPar3 i j l fas env S) PS ↔ Qr go (fas env S) fun tk ds S1 => ∃ u v w, ds = [u, v, w] ∧ PS tk (.nx (((env.set i (some u)).set j (some v)).set l (some w))) S1 := wp_Par3
theorem q_Join : Qr go (fJoin fo fe env S) P ↔ Qr go (fo env S) fun tk d S1 => WStr d fun a => Qr tk (fe env S1) fun tk x S2 => ∃ ds, lstOf S2 x = some ds ∧ ∃ ys, asStrs ds = some ys ∧ ((ys.map (·.length)).sum + ys.length * a.length ≤ 16777216 ∧ P tk (.str (Txt.join a ys)) S2) := wp_Join
end
end DL
namespace DL
open PySem PySem.Spec PyProof.Rows L2
open Tk
/-- an environment as it was, but for some places -/
def frm : List Nat → DEnv → DEnv → Prop
  | [], e0, e => e = e0
  | j :: js, e0, e => ∃ a, frm js (e0.set j a) e
theorem frm_refl : ∀ (js : List Nat) (e : DEnv), frm js e e
  | [], e => rfl
  | j :: js, e => ⟨(e[j]?).getD none, by
    have h : e.set j ((e[j]?).getD none) = e := by
      refine List.ext_getElem? fun i => ?_
      by_cases hj : i = j
      · subst hj
        by_cases hl : i < e.length
        · rw [List.getElem?_set_self hl, List.getElem?_eq_getElem hl]
          rfl
        · rw [List.getElem?_eq_none (by rw [List.length_set]; omega), List.getElem?_eq_none (by omega)]
      · rw [List.getElem?_set_ne (fun e => hj e.symm)]
    rw [h]
    exact frm_refl js e⟩
section
variable {α β : Type} {env : DEnv} {S S1 : Sto} {f1 f2 : FS} {t u : FT} {f fa fb fc : FE} {fas : FA}
theorem q_imp {o : Option (α × Sto)} {P P' : Tk → α → Sto → Prop} (h : Qr go o P) (hp : ∀ a S, P go a S → P' go a S) : Qr go o P' := R.imp h hp
theorem q_of {o : Option (α × Sto)} {P : Tk → α → Sto → Prop} {a : α} (h : o = some (a, S)) (p : P go a S) : Qr go o P := ⟨a, S, h, p⟩
theorem q_for {P : Tk → Fl → Sto → Prop} {g : FG} {body : FS} {items : List D} (js : List Nat) (J : Nat → Sto → Prop) (h0 : J 0 S)
    (hs : ∀ i d env' S', items[i]? = some d → frm js env env' → J i S' → Qr go (g d env' S') fun tk env1 S1 => Qr tk (body env1 S1) (QBk (fun _ e S2 => frm js env e ∧ J (i + 1) S2) P))
    (hd : ∀ env' S', frm js env env' → J items.length S' → P go (.nx env') S') : Qr go (forD g body items env S) P :=
  r_forD (P := P go) (fun i e S' => frm js env e ∧ J i S') ⟨frm_refl js env, h0⟩ (fun i d e S' hi hj => hs i d e S' hi hj.1 hj.2) fun e S' hj => hd e S' hj.1 hj.2
/-- a loop whose turns keep one word -/
theorem q_forM {P : Tk → Fl → Sto → Prop} {g : FG} {body : FS} {items : List D} (js : List Nat) (J : Sto → Prop) (h0 : J S)
    (hs : ∀ d ∈ items, ∀ env' S', frm js env env' → J S' → Qr go (g d env' S') fun tk env1 S1 => Qr tk (body env1 S1) (QBk (fun _ e S2 => frm js env e ∧ J S2) P))
    (hd : ∀ env' S', frm js env env' → J S' → P go (.nx env') S') : Qr go (forD g body items env S) P :=
  q_for js (fun _ => J) h0 (fun i d e S' hi hf hj => hs d (List.mem_of_getElem? hi) e S' hf hj) hd
end
def JB (o : Option (D × Sto)) (S : Sto) (X : Prop) : Prop := ∃ b, o = some (.bl b, S) ∧ (b = true ↔ X)
def JT (o : Option (Bool × Sto)) (S : Sto) (X : Prop) : Prop := ∃ b, o = some (b, S) ∧ (b = true ↔ X)
section
variable {env : DEnv} {S : Sto} {f fa fb : FE} {t u : FT} {X Y : Prop}
theorem JB.mk {b : Bool} {o : Option (D × Sto)} (h : o = some (.bl b, S)) (hx : b = true ↔ X) : JB o S X := ⟨b, h, hx⟩
theorem JB.call {g : FD} {fas : FA} {ds : List D} (h : fas env S = some (ds, S)) (k : JB (g ds S) S X) : JB (fCall g fas env S) S X := let ⟨b, h1, h2⟩ := k; ⟨b, call_of h h1, h2⟩
theorem JT.or (h : JT (t env S) S X) (g : ¬ X → JT (u env S) S Y) : JT (tOrD t u env S) S (X ∨ Y) := by
  obtain ⟨b, h1, h2⟩ := h
  rw [JT, or_of h1]
  cases b with
  | true => exact ⟨true, rfl, ⟨fun _ => Or.inl (h2.mp rfl), fun _ => rfl⟩⟩
  | false =>
    have nx : ¬ X := fun x => by cases h2.mpr x
    obtain ⟨c, h3, h4⟩ := g nx
    exact ⟨c, h3, h4.trans ⟨Or.inr, fun h => h.resolve_left nx⟩⟩
theorem JT.and (h : JT (t env S) S X) (g : X → JT (u env S) S Y) : JT (tAndD t u env S) S (X ∧ Y) := by
  obtain ⟨b, h1, h2⟩ := h
  rw [JT, and_of h1]
  cases b with
  | false => exact ⟨false, rfl, ⟨fun h => (by cases h), fun h => h2.mpr h.1⟩⟩
  | true =>
    have x : X := h2.mp rfl
    obtain ⟨c, h3, h4⟩ := g x
    exact ⟨c, h3, h4.trans ⟨fun y => ⟨x, y⟩, fun h => h.2⟩⟩
theorem JB.or (h : JB (fa env S) S X) (g : ¬ X → JB (fb env S) S Y) : JB (fOr fa fb env S) S (X ∨ Y) := by
  obtain ⟨b, h1, h2⟩ := h
  rw [JB, vor_of h1]
  cases b with
  | true => exact ⟨true, rfl, ⟨fun _ => Or.inl (h2.mp rfl), fun _ => rfl⟩⟩
  | false =>
    have nx : ¬ X := fun x => by cases h2.mpr x
    obtain ⟨c, h3, h4⟩ := g nx
    exact ⟨c, h3, h4.trans ⟨Or.inr, fun h => h.resolve_left nx⟩⟩
theorem JB.and (h : JB (fa env S) S X) (g : X → JB (fb env S) S Y) : JB (fAnd fa fb env S) S (X ∧ Y) := by
  obtain ⟨b, h1, h2⟩ := h
  rw [JB, vand_of h1]
  cases b with
  | false => exact ⟨false, rfl, ⟨fun h => (by cases h), fun h => h2.mpr h.1⟩⟩
  | true =>
    have x : X := h2.mp rfl
    obtain ⟨c, h3, h4⟩ := g x
    exact ⟨c, h3, h4.trans ⟨fun y => ⟨x, y⟩, fun h => h.2⟩⟩
/-- a run that tells a truth: by a return, or further on -/
def JF (o : Option (Fl × Sto)) (S : Sto) (X : Prop) : Prop := ∃ b, o = some (.rt (.bl b), S) ∧ (b = true ↔ X)
theorem JF.run {n : Nat} {g : FS} {ds : List D} (h : JF (g (ds.map some ++ List.replicate (n - ds.length) none) S) S X) : JB (runD n g ds S) S X := let ⟨b, h1, h2⟩ := h; ⟨b, run_of h1, h2⟩
theorem JF.ret (h : JB (f env S) S X) : JF (sRet f env S) S X := let ⟨b, h1, h2⟩ := h; ⟨b, ret_of h1, h2⟩
theorem JF.nx {f1 f2 : FS} {env' : DEnv} (h : f1 env S = some (.nx env', S)) (k : JF (f2 env' S) S X) : JF (sSeq f1 f2 env S) S X := by
  rw [JF, seq_nx h]; exact k
theorem JF.rt {f1 f2 : FS} (h : JF (f1 env S) S X) : JF (sSeq f1 f2 env S) S X := let ⟨b, h1, h2⟩ := h; ⟨b, seq_rt h1, h2⟩
end
section
variable {env : DEnv} {S : Sto} {P : Tk → D → Sto → Prop} {f fa fb fo fe : FE}
theorem q_pow {i j : Int} : Qr go (gPow (.int i) (.int j) S) P ↔ (0 ≤ j ∧ j ≤ 1000000 ∧ i.natAbs < 18446744073709551616) ∧ P go (.int (i ^ j.toNat)) S := by
  have e : ((decide (0 ≤ j) && decide (j ≤ 1000000) && decide (i.natAbs < 18446744073709551616)) = true) ↔ (0 ≤ j ∧ j ≤ 1000000 ∧ i.natAbs < 18446744073709551616) := by simp [and_assoc]
  rw [← e]
  exact R_cond
theorem q_p40 : Qr go (gPow (.int 10) (.int 40) S) P ↔ P go (.int 10000000000000000000000000000000000000000) S := by
  rw [q_pow]
  exact ⟨fun h => h.2, fun h => ⟨⟨by decide, by decide, by decide⟩, h⟩⟩
end
end DL
namespace DL
open PySem PySem.Spec PyProof.Rows L2
def fStar (f : FE) (fas : FA) : FA := fun env S => (f env S).bind fun p => match p.1 with
  | .tup ds => (fas env p.2).bind fun q => some (ds ++ q.1, q.2)
  | .lst ds => (fas env p.2).bind fun q => some (ds ++ q.1, q.2)
  | _ => none
def zipD : List D → List D → List D
  | a :: as, b :: bs => .tup [a, b] :: zipD as bs
  | _, _ => []
def iZip (f g : FE) : FA := fun env S => (f env S).bind fun p => (g env p.2).bind fun q => match p.1, q.1 with
  | .tup a, .tup b => some (zipD a b, q.2)
  | .lst a, .lst b => some (zipD a b, q.2)
  | _, _ => none
def tIfD (ga fa fb : FT) : FT := fun env S => (ga env S).bind fun p => if p.1 = true then fa env p.2 else fb env p.2
open Tk
section
variable {env : DEnv} {S : Sto} {f g : FE} {fas : FA} {ga fa fb : FT}
theorem q_tIf {P : Tk → Bool → Sto → Prop} : Qr go (tIfD ga fa fb env S) P ↔ Qr go (ga env S) fun tk b S1 => QI tk b (fun tk => Qr tk (fa env S1) P) (fun tk => Qr tk (fb env S1) P) := by
  show R ((ga env S).bind _) (P go) ↔ _
  rw [R_bind]
  simp only [R_ite]
  exact Iff.rfl
def WSeq : D → (List D → Prop) → Prop
  | .tup ds, P => P ds
  | .lst ds, P => P ds
  | _, _ => False
def WZip : D → D → (List D → Prop) → Prop
  | .tup a, .tup b, P => P (zipD a b)
  | .lst a, .lst b, P => P (zipD a b)
  | _, _, _ => False
theorem wseq_t {ds : List D} {P : List D → Prop} : WSeq (.tup ds) P ↔ P ds := Iff.rfl
theorem wseq_l {ds : List D} {P : List D → Prop} : WSeq (.lst ds) P ↔ P ds := Iff.rfl
theorem wzip_t {a b : List D} {P : List D → Prop} : WZip (.tup a) (.tup b) P ↔ P (zipD a b) := Iff.rfl
theorem wzip_l {a b : List D} {P : List D → Prop} : WZip (.lst a) (.lst b) P ↔ P (zipD a b) := Iff.rfl
theorem q_star {P : Tk → List D → Sto → Prop} : Qr go (fStar f fas env S) P ↔ Qr go (f env S) fun tk x S1 => WSeq x fun ds => Qr tk (fas env S1) fun tk ys S2 => P tk (ds ++ ys) S2 := by
  show R ((f env S).bind _) (P go) ↔ _
  rw [R_bind]
  refine ⟨fun ⟨d, S1, e, q⟩ => ⟨d, S1, e, ?_⟩, fun ⟨d, S1, e, q⟩ => ⟨d, S1, e, ?_⟩⟩
  · cases d <;> first | exact (R_none.mp q).elim | (obtain ⟨ys, S2, h1, p⟩ := R_bind.mp q; exact ⟨ys, S2, h1, R_some.mp p⟩)
  · cases d <;> first | exact q.elim | (obtain ⟨ys, S2, h1, p⟩ := q; exact R_bind.mpr ⟨ys, S2, h1, R_some.mpr p⟩)
theorem q_zip {P : Tk → List D → Sto → Prop} : Qr go (iZip f g env S) P ↔ Qr go (f env S) fun tk x S1 => Qr tk (g env S1) fun tk y S2 => WZip x y fun items => P tk items S2 := by
  show R ((f env S).bind _) (P go) ↔ _
  rw [R_bind]
  refine ⟨fun ⟨d, S1, e, q⟩ => ⟨d, S1, e, ?_⟩, fun ⟨d, S1, e, q⟩ => ⟨d, S1, e, ?_⟩⟩
  · obtain ⟨d', S2, e', q⟩ := R_bind.mp q
    refine ⟨d', S2, e', ?_⟩
    cases d <;> cases d' <;> first | exact (R_none.mp q).elim | exact R_some.mp q
  · obtain ⟨d', S2, e', q⟩ := q
    refine R_bind.mpr ⟨d', S2, e', ?_⟩
    cases d <;> cases d' <;> first | exact False.elim q | exact R_some.mpr q
end
end DL
namespace DL
open PySem PySem.Spec PyProof.Rows L2
def gNilB (neg : Bool) : D → D → Sto → Option (D × Sto)
  | .lst ds, .lst [], S => some (.bl (if neg then !ds.isEmpty else ds.isEmpty), S)
  | _, _, _ => none
def iZipTL (f g : FE) : FA := fun env S => (f env S).bind fun p => (g env p.2).bind fun q => match p.1, q.1 with
  | .tup a, .lst b => some (zipD a b, q.2)
  | _, _ => none
def iSeq (f : FE) : FA := fun env S => (f env S).bind fun p => match p.1 with
  | .lst ds => some (ds, p.2)
  | .tup ds => some (ds, p.2)
  | _ => none
open Tk
def WZipM : D → D → (List D → Prop) → Prop
  | .tup a, .lst b, P => P (zipD a b)
  | _, _, _ => False
theorem wzip_m {a b : List D} {P : List D → Prop} : WZipM (.tup a) (.lst b) P ↔ P (zipD a b) := Iff.rfl
theorem q_zipM {env : DEnv} {S : Sto} {f g : FE} {P : Tk → List D → Sto → Prop} : Qr go (iZipTL f g env S) P ↔ Qr go (f env S) fun tk x S1 => Qr tk (g env S1) fun tk y S2 => WZipM x y fun items => P tk items S2 := by
  show R ((f env S).bind _) (P go) ↔ _
  rw [R_bind]
  refine ⟨fun ⟨d, S1, e, q⟩ => ⟨d, S1, e, ?_⟩, fun ⟨d, S1, e, q⟩ => ⟨d, S1, e, ?_⟩⟩
  · obtain ⟨d', S2, e', q⟩ := R_bind.mp q
    refine ⟨d', S2, e', ?_⟩
    cases d <;> cases d' <;> first | exact (R_none.mp q).elim | exact R_some.mp q
  · obtain ⟨d', S2, e', q⟩ := q
    refine R_bind.mpr ⟨d', S2, e', ?_⟩
    cases d <;> cases d' <;> first | exact False.elim q | exact R_some.mpr q
theorem q_nil0 {neg : Bool} {ds : List D} {S : Sto} {P : Tk → D → Sto → Prop} : Qr go (gNilB neg (.lst ds) (.lst []) S) P ↔ P go (.bl (if neg then !ds.isEmpty else ds.isEmpty)) S := R_some
theorem q_iSeq {env : DEnv} {S : Sto} {f : FE} {P : Tk → List D → Sto → Prop} : Qr go (iSeq f env S) P ↔ Qr go (f env S) fun tk x S1 => WSeq x fun ds => P tk ds S1 := by
  show R ((f env S).bind _) (P go) ↔ _
  rw [R_bind]
  refine ⟨fun ⟨d, S1, e, q⟩ => ⟨d, S1, e, ?_⟩, fun ⟨d, S1, e, q⟩ => ⟨d, S1, e, ?_⟩⟩
  · cases d <;> first | exact (R_none.mp q).elim | exact R_some.mp q
  · cases d <;> first | exact False.elim q | exact R_some.mpr q
theorem q_ListR1 {env : DEnv} {S : Sto} {f : FE} {P : Tk → D → Sto → Prop} : Qr go (fListR1 f env S) P ↔ Qr go (f env S) fun tk x S1 => WI x fun i => (okR i = true ∧ i ≤ 16777216) ∧ P tk (.lst (rangeD 0 i)) S1 := by
  show R ((f env S).bind _) (P go) ↔ _
  rw [R_bind]
  refine ⟨fun ⟨d, S1, e, q⟩ => ⟨d, S1, e, ?_⟩, fun ⟨d, S1, e, q⟩ => ⟨d, S1, e, ?_⟩⟩
  · cases d <;> first | exact (R_none.mp q).elim | exact R_cond.mp q
  · cases d <;> first | exact False.elim q | exact R_cond.mpr q
theorem q_TupR1 {env : DEnv} {S : Sto} {f : FE} {P : Tk → D → Sto → Prop} : Qr go (fTupR1 f env S) P ↔ Qr go (f env S) fun tk x S1 => WI x fun i => (okR i = true ∧ i ≤ 16777216) ∧ P tk (.tup (rangeD 0 i)) S1 := by
  show R ((f env S).bind _) (P go) ↔ _
  rw [R_bind]
  refine ⟨fun ⟨d, S1, e, q⟩ => ⟨d, S1, e, ?_⟩, fun ⟨d, S1, e, q⟩ => ⟨d, S1, e, ?_⟩⟩
  · cases d <;> first | exact (R_none.mp q).elim | exact R_cond.mp q
  · cases d <;> first | exact False.elim q | exact R_cond.mpr q
theorem callee_none {P : Program} {w : World} {K : PySem.W.Frag} {mg : Str → Option Value} {base : Heap} {ct : CT} {k n : Nat} {x : Str} {st : Stmt} {ps : List Str} {kwb : KWB} (d : DefAt K mg x st ps kwb) : Callee P w K mg base ct k x n (fun _ _ => none) kwb := by
  obtain ⟨f, fd, F, h1, h3⟩ := d
  have no : ∀ {vs : List V} {H : Hp} {Q : VK} {E : XK}, spD K ct n (fun _ _ => none) vs H Q E → False := fun h => by
    obtain ⟨_, m, F, S, ds, d, S', _, _, hg, _⟩ := h
    cases hg
  exact ⟨f, fd, ps, h1, F.kp, h3, ⟨fun vs H Q E h => (no h).elim, fun A outer s H args us vs Q E hr e0 hb hv h => (no h).elim⟩⟩
end DL
namespace DL
open PySem PySem.Spec PyProof.Rows L2
def gRepT : D → D → Sto → Option (D × Sto)
  | .tup ds, .int k, S => if 0 ≤ k ∧ k ≤ 1000 ∧ ds.length ≤ 1000 ∧ 0 < ds.length then some (.tup (List.replicate k.toNat ds).flatten, S) else none
  | _, _, _ => none
section
variable {ct : CT} {K : PySem.W.Frag}
theorem wp_repT {ds : List D} {k : Int} {S : Sto} {P : D → Sto → Prop} : R (gRepT (.tup ds) (.int k) S) P ↔ (0 ≤ k ∧ k ≤ 1000 ∧ ds.length ≤ 1000 ∧ 0 < ds.length) ∧ P (.tup (List.replicate k.toNat ds).flatten) S := R_cond
open Tk
theorem q_repT {ds : List D} {k : Int} {S : Sto} {P : Tk → D → Sto → Prop} : Qr go (gRepT (.tup ds) (.int k) S) P ↔ (0 ≤ k ∧ k ≤ 1000 ∧ ds.length ≤ 1000 ∧ 0 < ds.length) ∧ P go (.tup (List.replicate k.toNat ds).flatten) S := wp_repT
end
end DL
namespace DL
open PySem PySem.Spec PyProof.Rows L2
end DL
namespace DL
open PySem PySem.Spec PyProof.Rows L2
end DL
namespace DL
open PySem PySem.Spec PyProof.Rows L2
open Tk
def rangeC (i c : Int) (n : Nat) : List D := (List.range n).map fun (k : Nat) => D.int (i + (k : Int) * c)
def okC (i j c : Int) : Bool := decide (0 < c) && decide (c < 1073741824) && Builtin.Range.small i j c
def iRange3 (fas : FA) : FA := fun env S => (fas env S).bind fun p => match p.1 with
  | [.int i, .int j, .int c] => if okC i j c = true then some (rangeC i c (Builtin.Range.rangeSize i j c).toNat, p.2) else none
  | _ => none
theorem q_iR3 {fas : FA} {env : DEnv} {S : Sto} {PA : Tk → List D → Sto → Prop} : Qr go (iRange3 fas env S) PA ↔ Qr go (fas env S) fun tk ds S1 => ∃ i j c, ds = [.int i, .int j, .int c] ∧ okC i j c = true ∧ PA tk (rangeC i c (Builtin.Range.rangeSize i j c).toNat) S1 := by
  constructor
  · rintro ⟨ds, S1, e, p⟩
    obtain ⟨⟨zs, S2⟩, h1, h⟩ := bind_some e
    refine ⟨zs, S2, h1, ?_⟩
    dsimp only at h
    split at h
    · split at h
      · rename_i hc
        cases h
        exact ⟨_, _, _, rfl, hc, p⟩
      · cases h
    · cases h
  · rintro ⟨ds, S1, e, i, j, c, rfl, hc, p⟩
    refine ⟨_, _, ?_, p⟩
    show ((fas env S).bind _) = _
    rw [e]
    show (if okC i j c = true then _ else none) = _
    rw [if_pos hc]
end DL
namespace DL
open PySem PySem.Spec PyProof.Rows L2
open Tk
def forRD (g : FG) (body : FS) (z : D) : Nat → Nat → FS
  | 0, _, _, _ => none
  | n + 1, i, env, S => (lstOf S z).bind fun ds => match ds[i]? with
    | none => some (.nx env, S)
    | some x => (g x env S).bind fun p => (body p.1 p.2).bind fun q => match q.1 with
      | .nx env' => forRD g body z n (i + 1) env' q.2
      | .ct env' => forRD g body z n (i + 1) env' q.2
      | .bk env' => some (.nx env', q.2)
      | .rt d => some (.rt d, q.2)
@[irreducible] def bigN : Nat := 99999
def sForR (f : FE) (g : FG) (body : FS) : FS := fun env S => (f env S).bind fun p => forRD g body p.1 (bigN + 1) 0 env p.2
section
variable {env : DEnv} {S : Sto}
theorem wp_sForR {f : FE} {g : FG} {b : FS} {PS : Fl → Sto → Prop} : R (sForR f g b env S) PS ↔ R (f env S) fun z S1 => R (forRD g b z (bigN + 1) 0 env S1) PS := by
  unfold sForR
  simp only [R_bind]
theorem q_sForR {f : FE} {g : FG} {b : FS} {PS : Tk → Fl → Sto → Prop} : Qr go (sForR f g b env S) PS ↔ Qr go (f env S) fun tk z S1 => Qr tk (forRD g b z (bigN + 1) 0 env S1) PS := wp_sForR
end
end DL
namespace DL
open PySem PySem.Spec PyProof.Rows L2
open Tk
end DL
namespace DL
open PySem PySem.Spec PyProof.Rows L2
open Tk
end DL
namespace DL
open PySem PySem.Spec PyProof.Rows L2
open Tk
def fChain3 (g g' g2 : D → D → Sto → Option (D × Sto)) (fa fb fc fd : FE) : FE := fun env S => (fa env S).bind fun p => (fb env p.2).bind fun q => (g p.1 q.1 q.2).bind fun z => match z.1 with
  | .bl true => (fc env z.2).bind fun w => (g' q.1 w.1 w.2).bind fun z2 => match z2.1 with
    | .bl true => (fd env z2.2).bind fun v => g2 w.1 v.1 v.2
    | .bl false => some (.bl false, z2.2)
    | _ => none
  | .bl false => some (.bl false, z.2)
  | _ => none
theorem wp_Chain3 {P : D → Sto → Prop} {fa fb fc fd : FE} {env : DEnv} {S : Sto} {g g' g2 : D → D → Sto → Option (D × Sto)} : R (fChain3 g g' g2 fa fb fc fd env S) P ↔ R (fa env S) fun x S1 => R (fb env S1) fun y S2 => R (g x y S2) fun z S3 => WB z fun b => if b = true then R (fc env S3) fun w S4 => R (g' y w S4) fun z2 S5 => WB z2 fun b2 => if b2 = true then R (fd env S5) fun v S6 => R (g2 w v S6) P else P (.bl false) S5 else P (.bl false) S3 := by
  unfold fChain3
  simp only [R_bind]
  refine ⟨fun ⟨x, S1, e, y, S2, e2, z, S3, e3, q⟩ => ⟨x, S1, e, y, S2, e2, z, S3, e3, ?_⟩, fun ⟨x, S1, e, y, S2, e2, z, S3, e3, q⟩ => ⟨x, S1, e, y, S2, e2, z, S3, e3, ?_⟩⟩
  · cases z <;> first | exact (R_none.mp q).elim | skip
    rename_i b
    cases b
    · exact R_some.mp q
    · obtain ⟨w, S4, e4, q⟩ := R_bind.mp q
      obtain ⟨z2, S5, e5, q⟩ := R_bind.mp q
      refine ⟨w, S4, e4, z2, S5, e5, ?_⟩
      cases z2 <;> first | exact (R_none.mp q).elim | skip
      rename_i b2
      cases b2
      · exact R_some.mp q
      · exact R_bind.mp q
  · cases z <;> first | exact q.elim | skip
    rename_i b
    cases b
    · exact R_some.mpr q
    · obtain ⟨w, S4, e4, z2, S5, e5, q⟩ := q
      refine R_bind.mpr ⟨w, S4, e4, R_bind.mpr ⟨z2, S5, e5, ?_⟩⟩
      cases z2 <;> first | exact q.elim | skip
      rename_i b2
      cases b2
      · exact R_some.mpr q
      · exact R_bind.mpr q
theorem q_Chain3 {P : Tk → D → Sto → Prop} {fa fb fc fd : FE} {env : DEnv} {S : Sto} {g g' g2 : D → D → Sto → Option (D × Sto)} : Qr go (fChain3 g g' g2 fa fb fc fd env S) P ↔ Qr go (fa env S) fun tk x S1 => Qr tk (fb env S1) fun tk y S2 => Qr tk (g x y S2) fun tk z S3 => WB z fun b => QI tk b (fun tk => Qr tk (fc env S3) fun tk w S4 => Qr tk (g' y w S4) fun tk z2 S5 => WB z2 fun b2 => QI tk b2 (fun tk => Qr tk (fd env S5) fun tk v S6 => Qr tk (g2 w v S6) P) (fun tk => P tk (.bl false) S5)) (fun tk => P tk (.bl false) S3) := wp_Chain3
theorem q_iEnum {fi : FA} {env : DEnv} {S : Sto} {P : Tk → List D → Sto → Prop} : Qr go (iEnum fi env S) P ↔ Qr go (fi env S) fun tk ds S1 => P tk (enumD 0 ds) S1 := by
  show R ((fi env S).bind _) _ ↔ R (fi env S) _
  simp only [R_bind, R_some]
end DL
namespace DL
open PySem PySem.Spec PyProof.Rows L2
open Tk
end DL
namespace DL
open PySem PySem.Spec PyProof.Rows L2
open Tk
end DL
namespace DL
open PySem PySem.Spec PyProof.Rows L2
open Tk
end DL
namespace DL
open PySem PySem.Spec PyProof.Rows L2
open Tk
def CalleeO (P : Program) (w : World) (K : PySem.W.Frag) (mg : Str → Option Value) (base : Heap) (ct : CT) (k : Nat) (C : Addr) (x : Str) (n : Nat) (g : FD) : Prop := ∃ j, j + 3 ≤ k ∧ CalleeM P w K mg base ct j C x n g
section
variable {P : Program} {w : World} {K : PySem.W.Frag} {mg : Str → Option Value} {base : Heap} {ct : CT} {C : Addr} {x c : Str} {j k n : Nat} {g : FD}
theorem CalleeO.mono (M : CalleeO P w K mg base ct j C x n g) (h : j ≤ k) : CalleeO P w K mg base ct k C x n g := by
  obtain ⟨i, h1, h2⟩ := M
  exact ⟨i, by omega, h2⟩
theorem CalleeM.own (M : CalleeM P w K mg base ct k C x n g) : CalleeO P w K mg base ct (k + 3) C x n g := ⟨k, Nat.le_refl _, M⟩
end
end DL
namespace DL
open PySem PySem.Spec PyProof.Rows L2
def spC (K : PySem.W.Frag) (ct : CT) (C : Addr) (n : Nat) (g : FD) : Sp := fun vs H Q E => ∃ ws, vs = .ref C :: ws ∧ spD K ct n g ws H Q E
def CalleeC (P : Program) (w : World) (K : PySem.W.Frag) (mg : Str → Option Value) (base : Heap) (ct : CT) (k : Nat) (C : Addr) (x : Str) (n : Nat) (g : FD) (kwb : KWB := []) : Prop :=
  ∃ (mc : Value) (p f : Addr) (fd : FuncData) (ps : List Str), ClX.CRead K C mc ∧ ClX.CMet K C mc x p f ∧ (Binds K fd ps [] ∧ KwOk K fd ps 1 kwb) ∧ FnG P w K mg base k f fd ps (spC K ct C n g)
def ClsAt (K : PySem.W.Frag) (C : Addr) (x qual : Str) (st : Stmt) (ps : List Str) (kwb : KWB := []) : Prop :=
  ∃ (mc : Value) (p f : Addr) (fd : FuncData), Fun K x qual st f fd ∧ (ClX.CRead K C mc ∧ ClX.CMet K C mc x p f) ∧ Binds K fd ps [] ∧ KwOk K fd ps 1 kwb
def MakerK (P : Program) (w : World) (K : PySem.W.Frag) (mg : Str → Option Value) (base : Heap) (ct : CT) (k : Nat) (x : Str) (n : Nat) (g : FD) (kwb : KWB) : Prop :=
  ∃ j, j + 1 ≤ k ∧ ∃ (C f : Addr) (fd : FuncData) (ps : List Str), mg x = some (.ref C) ∧ ct x = some C ∧ Mk K C f ∧ KwOk K fd ps 1 kwb ∧ FnG P w K mg base j f fd ps (spD K ct n g)
def MakerFK (P : Program) (w : World) (K : PySem.W.Frag) (mg : Str → Option Value) (base : Heap) (ct : CT) (k : Nat) (x : Str) (fs : List Str) (n : Nat) (g' : List D → Option (List D)) (kwb : KWB) : Prop :=
  ∃ g, MakerK P w K mg base ct k x n g kwb ∧ MkSpec x fs g g'
section
variable {P : Program} {w : World} {K : PySem.W.Frag} {mg : Str → Option Value} {base : Heap} {ct : CT} {C : Addr}
theorem CalleeC.mono {j k n : Nat} {x : Str} {g : FD} {kwb : KWB} (c : CalleeC P w K mg base ct j C x n g kwb) (h : j ≤ k) : CalleeC P w K mg base ct k C x n g kwb := by
  obtain ⟨mc, p, f, fd, ps, h1, h2, h3, h4⟩ := c
  exact ⟨mc, p, f, fd, ps, h1, h2, h3, h4.mono h⟩
theorem MakerFK.mono {j k n : Nat} {x : Str} {fs : List Str} {g : List D → Option (List D)} {kwb : KWB} (c : MakerFK P w K mg base ct j x fs n g kwb) (h : j ≤ k) : MakerFK P w K mg base ct k x fs n g kwb := by
  obtain ⟨g0, ⟨i, h1, h2⟩, h3⟩ := c
  exact ⟨g0, ⟨i, by omega, h2⟩, h3⟩
end
end DL
namespace DL
open PySem PySem.Spec PyProof.Rows L2
end DL
namespace DL
open PySem PySem.Spec PyProof.Rows L2
end DL
namespace DL
open PySem PySem.Spec PyProof.Rows L2
end DL
namespace DL
open PySem PySem.Spec PyProof.Rows L2
def CalleeCX (P : Program) (w : World) (K : PySem.W.Frag) (mg : Str → Option Value) (base : Heap) (ct : CT) (k : Nat) (c : Str) (C : Addr) (x : Str) (n : Nat) (g : XD) (kwb : KWB := []) : Prop :=
  ct c = some C ∧ ∃ (mc : Value) (p f : Addr) (fd : FuncData) (ps : List Str), ClX.CRead K C mc ∧ ClX.CMet K C mc x p f ∧ (Binds K fd ps [] ∧ KwOk K fd ps 1 kwb) ∧ FnX P w K mg base k f fd ps (spX K ct n g)
section
variable {P : Program} {w : World} {K : PySem.W.Frag} {mg : Str → Option Value} {base : Heap} {ct : CT} {C : Addr}
theorem CalleeCX.mono {c : Str} {j k n : Nat} {x : Str} {g : XD} {kwb : KWB} (h0 : CalleeCX P w K mg base ct j c C x n g kwb) (h : j ≤ k) : CalleeCX P w K mg base ct k c C x n g kwb := by
  obtain ⟨hc, mc, p, f, fd, ps, h1, h2, h3, h4⟩ := h0
  exact ⟨hc, mc, p, f, fd, ps, h1, h2, h3, h4.mono h⟩
end
end DL
namespace DL
open PySem PySem.Spec PyProof.Rows L2
def IniterX (P : Program) (w : World) (K : PySem.W.Frag) (mg : Str → Option Value) (base : Heap) (ct : CT) (k : Nat) (x : Str) (dvs : List V) (n : Nat) (g : XD) (kwb : KWB := []) : Prop :=
  ∃ (C f : Addr) (fd : FuncData) (ps : List Str), mg x = some (.ref C) ∧ ct x = some C ∧ Mk K C f ∧ ((∀ j, j ≤ dvs.length → ∃ ds, Vals (dvs.drop j) ds ∧ Binds K fd ps ds) ∧ KwOk K fd ps 1 kwb) ∧ FnX P w K mg base k f fd ps (spX K ct n g)
/-- with room for the machine's own step -/
def MakerX (P : Program) (w : World) (K : PySem.W.Frag) (mg : Str → Option Value) (base : Heap) (ct : CT) (k : Nat) (x : Str) (dvs : List V) (n : Nat) (g : XD) (kwb : KWB := []) : Prop := ∃ j, j + 1 ≤ k ∧ IniterX P w K mg base ct j x dvs n g kwb
section
variable {P : Program} {w : World} {K : PySem.W.Frag} {mg : Str → Option Value} {base : Heap} {ct : CT} {C : Addr}
theorem MakerX.mono {j k n : Nat} {x : Str} {dvs : List V} {g : XD} {kwb : KWB} (c : MakerX P w K mg base ct j x dvs n g kwb) (h : j ≤ k) : MakerX P w K mg base ct k x dvs n g kwb := by
  obtain ⟨i, h1, h2⟩ := c
  exact ⟨i, by omega, h2⟩
end
end DL
namespace DL
open PySem PySem.Spec PyProof.Rows L2
end DL
namespace DL
open PySem PySem.Spec PyProof.Rows L2
open CwR
open Tk
end DL
namespace DL
open PySem PySem.Spec PyProof.Rows L2
open Tk
end DL
namespace DL
open PySem PySem.Spec L2 Builtin Builtin.ObjectAttr PySem.HandSPX
end DL
namespace DL
open PySem PySem.Spec PyProof.Rows L2
def ErrMk (P : Program) (w : World) (K : PySem.W.Frag) (mg : Str → Option Value) (base : Heap) (ct : CT) (k : Nat) (c : Str) (fs : List Str) (kwb : KWB) : Prop :=
  ∃ (j : Nat) (C fI : Addr) (fd : FuncData) (ps : List Str), j + 1 ≤ k ∧ mg c = some (.ref C) ∧ ct c = some C ∧ OexB K C ∧ PySem.W.findIn K (.ref C) "__init__" = some (some (.ref fI)) ∧ PySem.W.typeIn K (.ref fI) = some (.type "function") ∧ Binds K fd ps [] ∧ (∀ q ∈ kwb, KBn K fd ps 1 q.1 (kwG q.2) (kwG q.2)) ∧
    ((∃ f, fs = [f] ∧ PySem.W.findIn K (.ref C) f = some none ∧ FnG P w K mg base j fI fd ps (spI1 K f)) ∨ ∃ f g, fs = [g, f] ∧ PySem.W.findIn K (.ref C) f = some none ∧ PySem.W.findIn K (.ref C) g = some none ∧ FnG P w K mg base j fI fd ps (spI2 K f g))
theorem ErrMk.mono {P : Program} {w : World} {K : PySem.W.Frag} {mg : Str → Option Value} {base : Heap} {ct : CT} {i k : Nat} {c : Str} {fs : List Str} {kwb : KWB} (r : ErrMk P w K mg base ct i c fs kwb) (h : i ≤ k) : ErrMk P w K mg base ct k c fs kwb := by
  obtain ⟨j, C, fI, fd, ps, h0, r⟩ := r
  exact ⟨j, C, fI, fd, ps, Nat.le_trans h0 h, r⟩
end DL
namespace DL
open PySem PySem.Spec PyProof.Rows L2
mutual
/-- v reads as d, and no dict in it is the table of modules -/
inductive RdM (h : Heap) : Value → PyData → Prop
  | non : RdM h .none .none
  | bl (b : Bool) : RdM h (.bool b) (.bool b)
  | int (i : Int) (t : Tok) : RdM h (.int i t) (.int i)
  | str (x : Str) (t : Tok) : RdM h (.str x t) (.str x)
  | lst {a : Addr} {o : Obj} {l : List Value} {n : Nat} {xs : List PyData} (e1 : h.get? a = some o) (e2 : o.cls = .type "list") (e3 : o.data = .seq l.toArray n) (r : RdMs h l xs) : RdM h (.ref a) (.list xs)
  | tup {a : Addr} {o : Obj} {l : List Value} {n : Nat} {xs : List PyData} (e1 : h.get? a = some o) (e2 : o.cls = .type "tuple") (e3 : o.data = .seq l.toArray n) (r : RdMs h l xs) : RdM h (.ref a) (.tuple xs)
  | dct {a : Addr} {o : Obj} {es : Array DictEntry} {n : Nat} {ds : List (PyData × PyData)} (e1 : h.get? a = some o) (e2 : o.cls = .type "dict") (e3 : o.data = .dict es n) (e4 : (a == sysModules) = false)
      (r1 : RdMs h (es.toList.map fun z => z.key) (ds.map fun z => z.1)) (r2 : RdMs h (es.toList.map fun z => z.val) (ds.map fun z => z.2)) : RdM h (.ref a) (.dict ds)
inductive RdMs (h : Heap) : List Value → List PyData → Prop
  | nil : RdMs h [] []
  | cons {v : Value} {l : List Value} {d : PyData} {ds : List PyData} (r : RdM h v d) (rs : RdMs h l ds) : RdMs h (v :: l) (d :: ds)
end
mutual
theorem RdM.reads {h : Heap} : ∀ {v : Value} {d : PyData}, RdM h v d → ∃ as, Reads h v d as
  | _, _, .non => ⟨_, .none⟩
  | _, _, .bl b => ⟨_, .bool b⟩
  | _, _, .int i t => ⟨_, .int i t⟩
  | _, _, .str x t => ⟨_, .str x t⟩
  | _, _, .lst e1 e2 e3 r => by
    obtain ⟨as, q⟩ := r.reads
    exact ⟨_, .list e1 e2 e3 q⟩
  | _, _, .tup e1 e2 e3 r => by
    obtain ⟨as, q⟩ := r.reads
    exact ⟨_, .tuple e1 e2 e3 q⟩
  | _, _, .dct e1 e2 e3 e4 r1 r2 => by
    obtain ⟨as, q⟩ := r1.reads
    obtain ⟨bs, q2⟩ := r2.reads
    exact ⟨_, .dict e1 e2 e3 q q2⟩
theorem RdMs.reads {h : Heap} : ∀ {l : List Value} {ds : List PyData}, RdMs h l ds → ∃ as, ReadsAll h l ds as
  | _, _, .nil => ⟨_, .nil⟩
  | _, _, .cons r rs => by
    obtain ⟨as, q⟩ := r.reads
    obtain ⟨bs, q2⟩ := rs.reads
    exact ⟨_, .cons q q2⟩
end
end DL
namespace DL
open PySem PySem.Spec PyProof.Rows L2
end DL
namespace DL
open PySem PySem.Spec PyProof.Rows L2 Builtin Builtin.List
end DL
namespace DL
open PySem PySem.Spec PyProof.Rows L2
structure RoomN (k : Nat) (A : Around) : Prop where
  dp : A.depth + 3 * k + 5 < recursionLimit
  un : A.units + 16 * k + 200 < cLine
theorem RoomN.mono {j k : Nat} {A : Around} (r : RoomN k A) (h : j ≤ k) : RoomN j A := ⟨by have := r.dp; omega, by have := r.un; omega⟩
theorem RoomN.deeper {k : Nat} {A : Around} (r : RoomN (k + 1) A) (env : Env) : RoomN k (A.deeper env) := ⟨by have := r.dp; show A.depth + 1 + 3 * k + 5 < _; omega, by have := r.un; show A.units + 3 + 16 * k + 200 < _; omega⟩
theorem RoomN.in1 {k : Nat} {A : Around} (r : RoomN (k + 1) A) : RoomN k A.in1 := ⟨by have := r.dp; show A.depth + 3 * k + 5 < _; omega, by have := r.un; show A.units + 1 + 16 * k + 200 < _; omega⟩
theorem RoomQ.n {k : Nat} {A : Around} (r : RoomQ k A) : RoomN k A := ⟨r.dp, r.un⟩
structure FnN (P : Program) (w : World) (K : PySem.W.Frag) (mg : Str → Option Value) (base : Heap) (k : Nat) (f : Addr) (fd : FuncData) (ps : List Str) (sp : Sp) : Prop where
  len : ∀ vs H Q E, sp vs H Q E → vs.length = ps.length
  run : ∀ (A : Around) (outer : List Env) (s : Shared) (H : Hp) (args : Args) (us : List Value) (vs : List V) (Q : VK) (E : XK), RoomN k A → HotP A H → Env0 P w K mg base A outer s H →
    BindsTo s fd args (ps.zip us) → Vals vs us → sp vs H Q E → codeAny (model P w) A (.call (.ref f) args) (CR CX0 outer P w H s Q E) s
section
variable {P : Program} {w : World} {K : PySem.W.Frag} {mg : Str → Option Value} {base : Heap} {ct : CT}
theorem FnN.mono {f : Addr} {fd : FuncData} {ps : List Str} {sp : Sp} {j k : Nat} (F : FnN P w K mg base j f fd ps sp) (h : j ≤ k) : FnN P w K mg base k f fd ps sp := ⟨F.len, fun A o s H ar us vs Q E r => F.run A o s H ar us vs Q E (r.mono h)⟩
def CalleeMN (P : Program) (w : World) (K : PySem.W.Frag) (mg : Str → Option Value) (base : Heap) (ct : CT) (k : Nat) (C : Addr) (x : Str) (n : Nat) (g : FD) : Prop :=
  ∃ (f : Addr) (fd : FuncData) (ps : List Str), Meth K C x f ∧ Binds K fd ps [] ∧ FnN P w K mg base k f fd ps (spD K ct n g)
theorem CalleeMN.mono {j k n : Nat} {C : Addr} {x : Str} {g : FD} (c : CalleeMN P w K mg base ct j C x n g) (h : j ≤ k) : CalleeMN P w K mg base ct k C x n g := by
  obtain ⟨f, fd, ps, h1, h3, h4⟩ := c
  exact ⟨f, fd, ps, h1, h3, h4.mono h⟩
end
def CalleeON (P : Program) (w : World) (K : PySem.W.Frag) (mg : Str → Option Value) (base : Heap) (ct : CT) (k : Nat) (C : Addr) (x : Str) (n : Nat) (g : FD) : Prop := ∃ j, j + 3 ≤ k ∧ CalleeMN P w K mg base ct j C x n g
section
variable {ct : CT} {X : Cx} {C : Addr} {c : Str} {g : FD} {n k : Nat} {e : Expr} {fe : FE} {pos : Pos}
theorem CalleeON.mono {P : Program} {w : World} {K : PySem.W.Frag} {mg : Str → Option Value} {base : Heap} {j : Nat} {x : Str} (r : CalleeON P w K mg base ct j C x n g) (h : j ≤ k) : CalleeON P w K mg base ct k C x n g := by
  obtain ⟨i, h1, h2⟩ := r
  exact ⟨i, Nat.le_trans h1 h, h2⟩
theorem CalleeMN.own {P : Program} {w : World} {K : PySem.W.Frag} {mg : Str → Option Value} {base : Heap} {j : Nat} {x : Str} (r : CalleeMN P w K mg base ct j C x n g) : CalleeON P w K mg base ct (j + 3) C x n g := ⟨j, Nat.le_refl _, r⟩
end
end DL
namespace DL
open PySem PySem.Spec PyProof.Rows L2
end DL
namespace DL
open PySem PySem.Spec PyProof.Rows L2
end DL
namespace DL
open PySem PySem.Spec PyProof.Rows L2
section
variable {P : Program} {w : World} {A : Around} {E : Value → Shared → Prop} {s : Shared}
abbrev setNew (w : World) : Obj := { cls := .type "set", dict := none, data := .set #[] 0 (.fresh 0 0 (!w.params.followText "set-order")) }
end
end DL
namespace DL
open PySem PySem.Spec PyProof.Rows L2
abbrev Pr := Int × Int
def ltP (a b : Pr) : Prop := a.1 < b.1 ∨ (a.1 = b.1 ∧ a.2 < b.2)
def ddp : List Pr → List Pr
  | [] => []
  | a :: l => if a ∈ l then ddp l else a :: ddp l
theorem mem_ddp {x : Pr} : ∀ {l : List Pr}, x ∈ ddp l ↔ x ∈ l
  | [] => Iff.rfl
  | a :: l => by
    unfold ddp
    split
    · rename_i h
      rw [mem_ddp (l := l), List.mem_cons]
      exact ⟨.inr, fun q => q.elim (fun e => e ▸ h) id⟩
    · rw [List.mem_cons, List.mem_cons, mem_ddp (l := l)]
theorem nodup_ddp : ∀ l : List Pr, (ddp l).Nodup
  | [] => List.nodup_nil
  | a :: l => by
    unfold ddp
    split
    · exact nodup_ddp l
    · rename_i h
      exact List.nodup_cons.mpr ⟨fun q => h (mem_ddp.mp q), nodup_ddp l⟩
theorem leP_iff {a b : Pr} : leP a b = true ↔ ltP a b ∨ a = b := by
  unfold leP ltP
  rw [decide_eq_true_eq, Prod.ext_iff]
  omega
theorem strict_of {l : List Pr} (h : l.Pairwise fun a b => leP a b = true) (n : l.Nodup) : l.Pairwise ltP := by
  induction l with
  | nil => exact .nil
  | cons a l ih =>
    obtain ⟨h1, h2⟩ := List.pairwise_cons.mp h
    obtain ⟨n1, n2⟩ := List.nodup_cons.mp n
    refine List.pairwise_cons.mpr ⟨fun b hb => ?_, ih h2 n2⟩
    rcases leP_iff.mp (h1 b hb) with q | q
    · exact q
    · exact absurd (q ▸ hb) n1
theorem strict_uniq : ∀ {l k : List Pr}, l.Pairwise ltP → k.Pairwise ltP → (∀ x, x ∈ l ↔ x ∈ k) → l = k
  | [], [], _, _, _ => rfl
  | [], b :: k, _, _, h => absurd ((h b).mpr (List.mem_cons_self ..)) (List.not_mem_nil)
  | a :: l, [], _, _, h => absurd ((h a).mp (List.mem_cons_self ..)) (List.not_mem_nil)
  | a :: l, b :: k, h1, h2, h => by
    obtain ⟨p1, p2⟩ := List.pairwise_cons.mp h1
    obtain ⟨q1, q2⟩ := List.pairwise_cons.mp h2
    have e : a = b := by
      rcases List.mem_cons.mp ((h a).mp (List.mem_cons_self ..)) with e | e
      · exact e
      · rcases List.mem_cons.mp ((h b).mpr (List.mem_cons_self ..)) with f | f
        · exact f.symm
        · have x1 := q1 a e
          have x2 := p1 b f
          unfold ltP at x1 x2
          omega
    subst e
    have ir : ∀ x, x ∈ l → x ≠ a := fun x hx e => by
      have := p1 x hx
      rw [e] at this
      unfold ltP at this
      omega
    have ir2 : ∀ x, x ∈ k → x ≠ a := fun x hx e => by
      have := q1 x hx
      rw [e] at this
      unfold ltP at this
      omega
    rw [strict_uniq p2 q2 fun x => ⟨fun hx => ?_, fun hx => ?_⟩]
    · rcases List.mem_cons.mp ((h x).mp (List.mem_cons_of_mem _ hx)) with e | e
      · exact absurd e (ir x hx)
      · exact e
    · rcases List.mem_cons.mp ((h x).mpr (List.mem_cons_of_mem _ hx)) with e | e
      · exact absurd e (ir2 x hx)
      · exact e
theorem total_leP : PySem.W.TotalLe leP := ⟨fun a b c h1 h2 => by
    rw [leP_iff] at *
    unfold ltP at *
    rw [Prod.ext_iff] at *
    omega, fun a b => by
    rw [leP_iff, leP_iff]
    unfold ltP
    rw [Prod.ext_iff, Prod.ext_iff]
    omega⟩
/-- the pairs of ps, each once, ascending -/
def setP (ps : List Pr) : List Pr := isort leP (ddp ps)
theorem setP_strict (ps : List Pr) : (setP ps).Pairwise ltP := strict_of (isort_sorted total_leP _) ((isort_perm leP (ddp ps)).nodup_iff.mpr (nodup_ddp ps))
theorem mem_setP {x : Pr} {ps : List Pr} : x ∈ setP ps ↔ x ∈ ps := ((isort_perm leP (ddp ps)).mem_iff).trans mem_ddp
abbrev t2I (p : Pr) : List Int := [p.1, p.2]
def inB (p : Pr) : Bool := decide (0 ≤ p.1 ∧ p.1 < 64 ∧ 0 ≤ p.2 ∧ p.2 < 64)
theorem code_le {a b : Pr} (ha : inB a = true) (hb : inB b = true) (h : TS.code 64 (t2I a) ≤ TS.code 64 (t2I b)) : leP a b = true := by
  have ha := of_decide_eq_true ha
  have hb := of_decide_eq_true hb
  rw [leP_iff]
  by_cases e : a = b
  · exact .inr e
  · refine .inl ?_
    have := pair_lt (x := a.1) (y := a.2) (x' := b.1) (y' := b.2) h (fun z => e (by injection z with z1 z2; injection z2 with z2 _; exact Prod.ext z1 z2)) ⟨ha.1, ha.2.1⟩ ⟨ha.2.2.1, ha.2.2.2⟩ ⟨hb.1, hb.2.1⟩ ⟨hb.2.2.1, hb.2.2.2⟩
    exact this
theorem set_list {ps : List Pr} {ks L L' : List (Addr × List Int)} (hb : ps.all inB = true) (hk : ks.map (fun q => q.2) = ps.map t2I) (h1 : ∀ p ∈ L, p ∈ ks) (h2 : ∀ p ∈ ks, p.2 ∈ L.map fun q => q.2) (pm : L'.Perm L) (nd : (L'.map fun q => q.2).Nodup) (pw : L'.Pairwise fun q r => TS.code 64 q.2 ≤ TS.code 64 r.2) :
    L'.map (fun q => q.2) = (setP ps).map t2I := by
  have ex : ∀ q ∈ L', ∃ p ∈ ps, q.2 = t2I p := fun q hq => by
    have : q.2 ∈ ps.map t2I := by
      rw [← hk]
      exact List.mem_map_of_mem (h1 q (pm.mem_iff.mp hq))
    obtain ⟨p, hp, e⟩ := List.mem_map.mp this
    exact ⟨p, hp, e.symm⟩
  obtain ⟨qs, e⟩ : ∃ qs : List Pr, L'.map (fun q => q.2) = qs.map t2I := by
    clear pm nd pw h2
    induction L' with
    | nil => exact ⟨[], rfl⟩
    | cons q l ih =>
      obtain ⟨p, _, e⟩ := ex q (List.mem_cons_self ..)
      obtain ⟨qs, e2⟩ := ih fun r hr => ex r (List.mem_cons_of_mem _ hr)
      exact ⟨p :: qs, by rw [List.map_cons, List.map_cons, e, e2]⟩
  rw [e]
  congr 1
  have inj : ∀ {a b : Pr}, t2I a = t2I b → a = b := fun {a b} z => by
    injection z with z1 z2
    injection z2 with z2 _
    exact Prod.ext z1 z2
  have mem1 : ∀ x, x ∈ qs ↔ x ∈ ps := fun x => by
    constructor
    · intro hx
      have : t2I x ∈ L'.map fun q => q.2 := by rw [e]; exact List.mem_map_of_mem hx
      obtain ⟨q, hq, eq_⟩ := List.mem_map.mp this
      obtain ⟨p, hp, ep⟩ := ex q hq
      rw [inj (eq_.symm.trans ep)]
      exact hp
    · intro hx
      have : t2I x ∈ ks.map fun q => q.2 := by rw [hk]; exact List.mem_map_of_mem hx
      obtain ⟨q, hq, eq_⟩ := List.mem_map.mp this
      have q2 := h2 q hq
      obtain ⟨r, hr, er⟩ := List.mem_map.mp q2
      have : t2I x ∈ L'.map fun q => q.2 := List.mem_map.mpr ⟨r, pm.mem_iff.mpr hr, er.trans eq_⟩
      rw [e] at this
      obtain ⟨y, hy, ey⟩ := List.mem_map.mp this
      rw [← inj ey]
      exact hy
  refine strict_uniq (strict_of ?_ ?_) (setP_strict ps) fun x => (mem1 x).trans mem_setP.symm
  · have pw2 : (L'.map fun q => q.2).Pairwise fun q r => TS.code 64 q ≤ TS.code 64 r := List.pairwise_map.mpr pw
    rw [e] at pw2
    have pw3 := List.pairwise_map.mp pw2
    have all_ : ∀ x ∈ qs, inB x = true := fun x hx => List.all_eq_true.mp hb x ((mem1 x).mp hx)
    clear e mem1 pw2
    induction qs with
    | nil => exact .nil
    | cons a l ih =>
      obtain ⟨c1, c2⟩ := List.pairwise_cons.mp pw3
      exact List.pairwise_cons.mpr ⟨fun b hb => code_le (all_ a (List.mem_cons_self ..)) (all_ b (List.mem_cons_of_mem _ hb)) (c1 b hb), ih c2 fun x hx => all_ x (List.mem_cons_of_mem _ hx)⟩
  · rw [e] at nd
    exact nodup_of_map nd
end DL
namespace DL
open PySem PySem.Spec PyProof.Rows L2
mutual
def toNK : D → Option NestedKey
  | .int i => some (.num i)
  | .tup ds => (toNKs ds).map NestedKey.tup
  | _ => none
def toNKs : List D → Option (List NestedKey)
  | [] => some []
  | d :: ds => (toNK d).bind fun k => (toNKs ds).map fun ks => k :: ks
end
mutual
def nkD : NestedKey → D
  | .num i => .int i
  | .tup ks => .tup (nkDs ks)
  | _ => .non
def nkDs : List NestedKey → List D
  | [] => []
  | k :: ks => nkD k :: nkDs ks
end
section
variable {K : PySem.W.Frag} {ct : CT} {m : List Addr} {F : Hp}
mutual
theorem toNK_int : ∀ (d : D) (k : NestedKey), toNK d = some k → DN.intKey k = true
  | .int i, k, h => by
    have h : some (NestedKey.num i) = some k := h
    cases h; rfl
  | .tup ds, k, h => by
    obtain ⟨ks, h1, rfl⟩ := map_some (show (toNKs ds).map NestedKey.tup = some k from h)
    exact toNKs_int ds ks h1
  | .non, k, h => nomatch h
  | .bl _, k, h => nomatch h
  | .str _, k, h => nomatch h
  | .lst _, k, h => nomatch h
  | .dct _ _, k, h => nomatch h
  | .scr _, k, h => nomatch h
  | .ref _, k, h => nomatch h
  | .obj _ _ _, k, h => nomatch h
  | .exc _ _ _, k, h => nomatch h
  | .typ _, k, h => nomatch h
theorem toNKs_int : ∀ (ds : List D) (ks : List NestedKey), toNKs ds = some ks → DN.intKeys ks = true
  | [], ks, h => by
    have h : some [] = some ks := h
    cases h; rfl
  | d :: ds, ks, h => by
    obtain ⟨k, h1, h⟩ := bind_some (show (toNK d).bind _ = some ks from h)
    obtain ⟨r, h2, rfl⟩ := map_some h
    show (DN.intKey k && DN.intKeys r) = true
    rw [toNK_int d k h1, toNKs_int ds r h2]
    rfl
end
mutual
theorem Rep.nk : ∀ (d : D) (k : NestedKey) (v : V), Rep K ct m F d v → toNK d = some k → DN.VKey K F k v
  | .int i, k, v, r, h => by
    have h : some (NestedKey.num i) = some k := h
    cases h
    rw [show v = .int i from r]
    exact .num i
  | .tup ds, k, v, r, h => by
    obtain ⟨ks, h1, rfl⟩ := map_some (show (toNKs ds).map NestedKey.tup = some k from h)
    obtain ⟨a, vs, e1, e2, e3⟩ := r
    rw [e1]
    exact .tup e2 (Reps.nk ds ks vs e3 h1)
  | .non, _, _, _, h => nomatch h
  | .bl _, _, _, _, h => nomatch h
  | .str _, _, _, _, h => nomatch h
  | .lst _, _, _, _, h => nomatch h
  | .dct _ _, _, _, _, h => nomatch h
  | .scr _, _, _, _, h => nomatch h
  | .ref _, _, _, _, h => nomatch h
  | .obj _ _ _, _, _, _, h => nomatch h
  | .exc _ _ _, _, _, _, h => nomatch h
  | .typ _, _, _, _, h => nomatch h
theorem Reps.nk : ∀ (ds : List D) (ks : List NestedKey) (vs : List V), Reps K ct m F ds vs → toNKs ds = some ks → DN.VKeys K F ks vs
  | [], ks, vs, r, h => by
    have h : some [] = some ks := h
    cases h
    rw [show vs = [] from r]
    exact .nil
  | d :: ds, ks, vs, r, h => by
    obtain ⟨k, h1, h⟩ := bind_some (show (toNK d).bind _ = some ks from h)
    obtain ⟨q, h2, rfl⟩ := map_some h
    obtain ⟨v, r', e1, e2, e3⟩ := r
    rw [e1]
    exact .cons (Rep.nk d k v e2 h1) (Reps.nk ds q r' e3 h2)
end
mutual
theorem VKey.rep : ∀ (k : NestedKey) (v : V), DN.VKey K F k v → Rep K ct m F (nkD k) v
  | _, _, .num i => rfl
  | _, _, .tup (ks := ks) (vs := vs) h r => ⟨_, vs, rfl, h, VKeys.rep ks vs r⟩
theorem VKeys.rep : ∀ (ks : List NestedKey) (vs : List V), DN.VKeys K F ks vs → Reps K ct m F (nkDs ks) vs
  | _, _, .nil => rfl
  | _, _, .cons (k := k) (v := v) (ks := ks) (vs := vs) h r => ⟨v, vs, rfl, VKey.rep k v h, VKeys.rep ks vs r⟩
end
theorem KeyOk.mono {F' : Hp} {k : NestedKey} {a : Addr} (h : DN.KeyOk K F k a) (e : Same F F') : DN.KeyOk K F' k a := ⟨h.1, h.2.1, DN.VKey.mono e _ _ h.2.2⟩
end
end DL
namespace DL
open PySem PySem.Spec
open PyProof.Rows L2
theorem same_len {α : Type} [DecidableEq α] {l m : List α} (h1 : l.Nodup) (h2 : m.Nodup) (h : ∀ x, x ∈ l ↔ x ∈ m) : l.length = m.length := ((List.perm_ext_iff_of_nodup h1 h2).mpr h).length_eq
end DL
namespace DL
open PySem PySem.Spec
open PyProof.Rows L2
open Tk
end DL
namespace SN
open PySem PySem.Spec PyProof.Rows L2
section
variable {P : Program} {w : World}
/-- v is no class statement, asked n levels down -/
def ClsAt (P : Program) (w : World) (n : Nat) (s : Shared) (v : Value) : Prop := ∀ (A : Around) (E : Value → Shared → Prop) (Q : Bool → Shared → Prop), Q false s → wpAny (model P w) A (ofAClassStatement n v) Q E s
/-- v's hash is told by its value, asked n levels down -/
def HbyAt (P : Program) (w : World) (n : Nat) (s : Shared) (v : Value) : Prop := ∀ (A : Around) (E : Value → Shared → Prop) (Q : Bool → Shared → Prop), Q true s → wpAny (model P w) A (hashByValue n v) Q E s
theorem ClsAt.flat {n : Nat} {s : Shared} {v : Value} (h : ofAClassStatement n v = pure false) : ClsAt P w n s v := fun A E Q q => by
  rw [h]
  exact wpAny_pure q
theorem HbyAt.flat {n : Nat} {s : Shared} {v : Value} (h : hashByValue n v = pure true) : HbyAt P w n s v := fun A E Q q => by
  rw [h]
  exact wpAny_pure q
theorem ClsAt.tup {n : Nat} {s : Shared} {a : Addr} {o : Obj} {vs : Array Value} {m : Nat} (g1 : s.heap.get? a = some o) (g2 : o.cls = .type "tuple") (g3 : o.data = .seq vs m) (g4 : ∀ v ∈ vs.toList, ClsAt P w n s v) : ClsAt P w (n + 1) s (.ref a) := fun A E Q q => by
  have ty : s.TypeIs (.ref a) "tuple" := ⟨o, g1, g2⟩
  unfold ofAClassStatement
  refine wpAny_bind (wpAny_typeOf ty ?_)
  dsimp only
  have te : (("tuple" : String) == "tuple") = true := by decide
  simp only [te, if_true, Bool.not_true, Bool.false_eq_true, if_false]
  try refine wpAny_bind (wpAny_pure ?_)
  try simp only [Bool.not_true, Bool.false_eq_true, if_false]
  refine wpAny_bind (m := seqItems? (.ref a)) (wpAny_seqItems g1 g3 ?_)
  dsimp only
  refine wpAny_bind (?_ : wpAny _ _ (forIn vs _ _) _ _ s)
  rw [← Array.forIn_toList]
  refine wpAny_forIn_list _ (fun rest r s' => (r.1 = none ∧ s' = s) ∧ ∀ v ∈ rest, ClsAt P w n s v) _ (fun v rest r s' hj => ?_) (fun r s' hj => ?_) _ _ ⟨⟨rfl, rfl⟩, g4⟩
  · obtain ⟨⟨hr, rfl⟩, hall⟩ := hj
    refine wpAny_bind (hall v List.mem_cons_self _ _ _ ?_)
    simp only [Bool.false_eq_true, if_false]
    exact wpAny_pure ⟨⟨rfl, rfl⟩, fun u hu => hall u (List.mem_cons_of_mem _ hu)⟩
  · obtain ⟨r1, r2⟩ := r
    obtain ⟨⟨hr, rfl⟩, _⟩ := hj
    simp only at hr
    subst hr
    exact wpAny_pure q
theorem HbyAt.tup {n : Nat} {s : Shared} {a : Addr} {o : Obj} {vs : Array Value} {m : Nat} (g1 : s.heap.get? a = some o) (g2 : o.cls = .type "tuple") (g3 : o.data = .seq vs m) (g4 : ∀ v ∈ vs.toList, HbyAt P w n s v) : HbyAt P w (n + 1) s (.ref a) := fun A E Q q => by
  have ty : s.TypeIs (.ref a) "tuple" := ⟨o, g1, g2⟩
  unfold hashByValue
  refine wpAny_bind (wpAny_specialOf ty F.slot_tuple_hash.lookup ?_)
  refine wpAny_bind (m := seqItems? (.ref a)) (wpAny_seqItems g1 g3 ?_)
  refine wpAny_bind (?_ : wpAny _ _ (forIn vs _ _) _ _ s)
  rw [← Array.forIn_toList]
  refine wpAny_forIn_list _ (fun rest r s' => (r.1 = none ∧ s' = s) ∧ ∀ v ∈ rest, HbyAt P w n s v) _ (fun v rest r s' hj => ?_) (fun r s' hj => ?_) _ _ ⟨⟨rfl, rfl⟩, g4⟩
  · obtain ⟨⟨hr, rfl⟩, hall⟩ := hj
    refine wpAny_bind (hall v List.mem_cons_self _ _ _ ?_)
    simp only [Bool.not_true, Bool.false_eq_true, if_false]
    exact wpAny_pure ⟨⟨rfl, rfl⟩, fun u hu => hall u (List.mem_cons_of_mem _ hu)⟩
  · obtain ⟨r1, r2⟩ := r
    obtain ⟨⟨hr, rfl⟩, _⟩ := hj
    simp only at hr
    subst hr
    exact wpAny_pure q
mutual
theorem cls_key : ∀ (k : NestedKey) (v : Value) (n : Nat) (s : Shared), NestedIs s.heap k v → k.depth ≤ n → ClsAt P w n s v
  | .none, _, n, s, x, _ => by cases x; exact .flat (by cases n <;> rfl)
  | .num i, _, n, s, x, _ => by cases x <;> exact .flat (by cases n <;> rfl)
  | .text y, _, n, s, x, _ => by cases x; exact .flat (by cases n <;> rfl)
  | .tup ks, _, n, s, x, hn => by
    cases x with
    | tup g1 g2 g3 g4 =>
      have hn : NestedKey.depthAll ks + 1 ≤ n := hn
      obtain ⟨m, rfl⟩ : ∃ m, n = m + 1 := ⟨n - 1, by omega⟩
      exact .tup g1 g2 g3 (cls_keys ks _ m s g4 (by omega))
theorem cls_keys : ∀ (ks : List NestedKey) (vs : List Value) (n : Nat) (s : Shared), NestedAll s.heap ks vs → NestedKey.depthAll ks ≤ n → ∀ v ∈ vs, ClsAt P w n s v
  | [], _, n, s, x, _, v, hv => by cases x; cases hv
  | k :: ks, _, n, s, x, hn, v, hv => by
    cases x with
    | cons x1 x2 =>
      have hn : max k.depth (NestedKey.depthAll ks) ≤ n := hn
      rcases List.mem_cons.mp hv with rfl | hv
      · exact cls_key k _ n s x1 (by omega)
      · exact cls_keys ks _ n s x2 (by omega) v hv
end
mutual
theorem hby_key : ∀ (k : NestedKey) (v : Value) (n : Nat) (s : Shared), DN.intKey k = true → NestedIs s.heap k v → k.depth ≤ n → HbyAt P w n s v
  | .none, _, n, s, hi, _, _ => nomatch hi
  | .num i, _, n, s, _, x, _ => by cases x <;> exact .flat (by cases n <;> rfl)
  | .text y, _, n, s, hi, _, _ => nomatch hi
  | .tup ks, _, n, s, hi, x, hn => by
    cases x with
    | tup g1 g2 g3 g4 =>
      have hn : NestedKey.depthAll ks + 1 ≤ n := hn
      obtain ⟨m, rfl⟩ : ∃ m, n = m + 1 := ⟨n - 1, by omega⟩
      exact .tup g1 g2 g3 (hby_keys ks _ m s hi g4 (by omega))
theorem hby_keys : ∀ (ks : List NestedKey) (vs : List Value) (n : Nat) (s : Shared), DN.intKeys ks = true → NestedAll s.heap ks vs → NestedKey.depthAll ks ≤ n → ∀ v ∈ vs, HbyAt P w n s v
  | [], _, n, s, _, x, _, v, hv => by cases x; cases hv
  | k :: ks, _, n, s, hi, x, hn, v, hv => by
    obtain ⟨h1, h2⟩ := Bool.and_eq_true_iff.mp (show (DN.intKey k && DN.intKeys ks) = true from hi)
    cases x with
    | cons x1 x2 =>
      have hn : max k.depth (NestedKey.depthAll ks) ≤ n := hn
      rcases List.mem_cons.mp hv with rfl | hv
      · exact hby_key k _ n s h1 x1 (by omega)
      · exact hby_keys ks _ n s h2 x2 (by omega) v hv
end
/-- the tuple at a is the key k -/
structure At (P : Program) (w : World) (h : Heap) (k : NestedKey) (a : Addr) : Prop where
  is : (nestedKind P w).is h k a
  ik : DN.intKey k = true
variable {A : Around} {E : Value → Shared → Prop} {s : Shared}
theorem At.keep {h h' : Heap} {k : NestedKey} {a : Addr} (x : At P w h k a) (hk : ∀ b o vs n, h.get? b = some o → o.data = .seq vs n → h'.get? b = some o) : At P w h' k a := ⟨⟨NestedIs.at hk _ _ x.is.1, x.is.2⟩, x.ik⟩
/-- a search among such keys shows nothing -/
theorem unseen {k : NestedKey} {b : Addr} {Q : Bool → Shared → Prop} (hk : At P w s.heap k b) {ys : List Value} (hy : ∀ y ∈ ys, ∃ k' c, y = Value.ref c ∧ At P w s.heap k' c) (q : Q false s) : wpAny (model P w) A (searchCouldBeSeen (.ref b) ys) Q E s := by
  unfold searchCouldBeSeen
  refine wpAny_bind (wpAny_forIn_list _ (fun rest r s' => (r.1 = none ∧ s' = s) ∧ ∀ y ∈ rest, ∃ k' c, y = Value.ref c ∧ At P w s.heap k' c) _ (fun v rest r s' hj => ?_) (fun r s' hj => ?_) _ _ ⟨⟨rfl, rfl⟩, hy⟩)
  · obtain ⟨⟨hr, rfl⟩, hall⟩ := hj
    obtain ⟨k', c, rfl, hc⟩ := hall v List.mem_cons_self
    have more : ∀ y ∈ rest, ∃ k' c, y = Value.ref c ∧ At P w s'.heap k' c := fun u hu => hall u (List.mem_cons_of_mem _ hu)
    dsimp only
    by_cases hv : (b == c || (carriedByValue (.ref b) && carriedByValue (.ref c))) = true
    · exact wp_if_pos hv (wpAny_pure ⟨⟨rfl, rfl⟩, more⟩)
    · refine wp_if_neg hv ?_
      refine wpAny_bind ((nestedKind P w).quiet hk.is ?_)
      simp only [Bool.not_true, Bool.false_eq_true, if_false]
      refine wpAny_bind ((nestedKind P w).quiet hc.is ?_)
      simp only [Bool.not_true, Bool.false_eq_true, if_false]
      refine wpAny_bind (cls_key k _ 8 s' hk.is.1 hk.is.2 _ _ _ ?_)
      simp only [Bool.false_eq_true, if_false]
      refine wpAny_bind (cls_key k' _ 8 s' hc.is.1 hc.is.2 _ _ _ ?_)
      simp only [Bool.false_eq_true, if_false]
      exact wpAny_pure ⟨⟨rfl, rfl⟩, more⟩
  · obtain ⟨r1, r2⟩ := r
    obtain ⟨⟨hr, rfl⟩, _⟩ := hj
    simp only at hr
    subst hr
    exact wpAny_pure q
abbrev El := Addr × NestedKey
def rows (w : World) (L : List El) : List (Int × Value) := L.map fun e => (e.2.hash w, Value.ref e.1)
abbrev hs (w : World) (L : List El) : List Int := L.map fun e => e.2.hash w
/-- at a stands the set of the keys of L, table and all -/
structure Tab (P : Program) (w : World) (h : Heap) (a : Addr) (L : List El) (es : Array (Int × Value)) (ep : Nat) (t : SetTable) : Prop where
  obj : ∃ o, h.get? a = some o ∧ o.ExactSet ∧ o.data = .set es ep t
  row : es.toList = rows w L
  ok : TabOk t (hs w L)
  once : (L.map (·.2)).Nodup
  at_ : ∀ e ∈ L, At P w h e.2 e.1
  pl : t.plain = true
  lay : w.params.followText "set-order" = true ∨ t.led = true
  space : L.length * 5 < t.mask * 3
  less : L.length < 64
variable {a : Addr} {L : List El} {es : Array (Int × Value)} {ep : Nat} {t : SetTable}
theorem rows_len (w : World) (L : List El) : (rows w L).length = L.length := List.length_map ..
theorem row_size (h : es.toList = rows w L) : es.size = L.length := by
  have q := congrArg List.length h
  rwa [Array.length_toList, rows_len] at q
theorem Tab.fit (Z : Tab P w s.heap a L es ep t) : t.fits es.size = true := by
  have q1 := Z.ok.sz
  rw [List.length_map] at q1
  have q2 := row_size Z.row
  have q3 := Z.space
  unfold SetTable.fits SetTable.fill
  rw [Z.ok.dm, Bool.and_eq_true, beq_iff_eq, decide_eq_true_eq]
  exact ⟨q1.trans q2.symm, by show t.place.size + 0 ≤ t.mask; omega⟩
theorem row_at (h : es.toList = rows w L) {i : Nat} {e : El} (he : L[i]? = some e) : es[i]? = some (e.2.hash w, Value.ref e.1) := by
  rw [← Array.getElem?_toList, h, rows, List.getElem?_map, he]
  rfl
theorem Tab.stays (Z : Tab P w s.heap a L es ep t) : ¬ t.gaveWay = true := by
  rw [SetTable.gaveWay, mask_odd Z.ok.mok]
  decide
abbrev start (t : SetTable) (h : Int) : SetTable.Probe := runAt t.mask (SetTable.bits h % (t.mask + 1)) (SetTable.bits h)
theorem nodummy (m : Nat) : ∀ (n : Nat) (p : SetTable.Probe), p.dummy = none → (nth m p n).dummy = none
  | 0, _, h => h
  | n + 1, p, h => nodummy m n (adv m p) (by unfold adv; split <;> exact h)
/-- looking for k from the c-th step of its way on -/
theorem look (Z : Tab P w s.heap a L es ep t) {x : Addr} {k : NestedKey} (hx : At P w s.heap k x) (hu : A.units + 8 < cLine) {K : Nat} (kf : K < 10 * SetTable.turns t.mask)
    (free : way t.mask (k.hash w) K ∉ t.place.toList) (full : ∀ c, c < K → way t.mask (k.hash w) c ∈ t.place.toList) {Q : SetFound → Shared → Prop}
    (there : k ∈ L.map (·.2) → Q (.there none) s) (gone : k ∉ L.map (·.2) → Q (.free (way t.mask (k.hash w) K) false) s) :
    ∀ (f c : Nat) (stand : Option SetTable.Probe), stand.getD (t.probeStart (k.hash w)) = nth t.mask (start t (k.hash w)) c → c ≤ K → K - c < f →
      (∀ (i : Nat) e, L[i]? = some e → e.2 = k → ∃ d, c ≤ d ∧ d < K ∧ t.place.toList[i]? = some (way t.mask (k.hash w) d)) →
      wpAny (model P w) A (setSearchFrom a (.ref x) (k.hash w) true f stand) Q E s
  | 0, c, stand, _, _, hf, _ => absurd hf (Nat.not_lt_zero _)
  | f + 1, c, stand, hst, hc, hf, mine => by
    obtain ⟨o, o1, o2, o3⟩ := Z.obj
    rw [setSearchFrom_succ]
    refine wpAny_bind (wpAny_setState_of o1 o3 Z.fit (wp_if_neg Z.stays ?_))
    try refine wpAny_bind (wpAny_pure ?_)
    have stp : ∀ q, nth t.mask (nth t.mask (start t (k.hash w)) c) q = nth t.mask (start t (k.hash w)) (c + q) := fun q => (nth_add t.mask c _ q).symm
    have stj : ∀ q, (nth t.mask (nth t.mask (start t (k.hash w)) c) q).j = way t.mask (k.hash w) (c + q) := fun q => congrArg SetTable.Probe.j (stp q)
    have cK : c + (K - c) = K := by omega
    have told := go_spec t Z.ok.ris Z.ok.dm (fun i => (es[i]?.map (·.1)).getD 0) (k.hash w) (10 * SetTable.turns t.mask) (K - c) _ (nodummy t.mask c (start t (k.hash w)) rfl) (by omega)
      (fun q hq => by rw [stj]; exact full (c + q) (by omega)) (by rw [stj, cK]; exact free)
    have hat : ∀ (i : Nat) e, L[i]? = some e → (fun i => (es[i]?.map (·.1)).getD 0) i = e.2.hash w := fun i e he => by
      show (es[i]?.map (·.1)).getD 0 = _
      rw [row_at Z.row he]
      rfl
    rcases told with ⟨q, i, hq, hi, hh, hno, hpr⟩ | ⟨hno, hpr⟩
    · have hpr2 : t.probe (fun i => (es[i]?.map (·.1)).getD 0) (k.hash w) (stand.getD (t.probeStart (k.hash w))) = some (.candidate (way t.mask (k.hash w) (c + q)) i (nth t.mask (start t (k.hash w)) (c + (q + 1)))) := by
        rw [hst, ← stj, ← stp]
        exact hpr
      rw [hpr2]
      dsimp only
      rw [stj] at hi
      have il : i < L.length := by
        have h1 := (List.getElem?_eq_some_iff.mp hi).1
        have h2 := Z.ok.sz
        rw [List.length_map] at h2
        rw [Array.length_toList] at h1
        omega
      obtain ⟨e, he⟩ : ∃ e, L[i]? = some e := ⟨_, List.getElem?_eq_getElem il⟩
      have hm := List.mem_of_getElem? he
      have hpt := Z.at_ e hm
      have slt := slot_live Z.ok.ris hi
      have rest : wpAny (model P w) A (searchRest a (.ref x) (k.hash w) true f es t (way t.mask (k.hash w) (c + q)) i (nth t.mask (start t (k.hash w)) (c + (q + 1)))) Q E s := by
        unfold searchRest
        rw [row_at Z.row he]
        dsimp only
        refine wpAny_bind (wpAny_holding ((nestedKind P w).eqBool hu hpt.is hx.is ?_))
        refine wpAny_bind (wpAny_setState_of o1 o3 Z.fit ?_)
        dsimp only
        by_cases same : e.2 = k
        · exact wp_if_pos (by simp [same]) (wpAny_pure (there (List.mem_map.mpr ⟨e, hm, same⟩)))
        · refine wp_if_neg (by simp [same]) ?_
          try refine wpAny_bind (wpAny_pure ?_)
          rw [sameMem]
          dsimp only
          simp only [if_true, slt, row_at Z.row he]
          refine wpAny_bind (wpAny_isSame_ref_self (wpAny_bind (wpAny_pure ?_)))
          simp only [if_true]
          refine wp_if_neg (by simp [same]) ?_
          refine look Z hx hu kf free full there gone f (c + (q + 1)) _ rfl (by omega) (by omega) fun i0 e0 h0 k0 => ?_
          obtain ⟨d, d1, d2, d3⟩ := mine i0 e0 h0 k0
          refine ⟨d, ?_, d2, d3⟩
          refine Classical.byContradiction fun hlt => ?_
          by_cases hd : d = c + q
          · rw [hd] at d3
            have s0 := slot_live Z.ok.ris d3
            rw [slt] at s0
            injection s0 with s0
            rw [← s0, he] at h0
            exact same ((congrArg Prod.snd (Option.some.inj h0)).trans k0)
          · refine hno (d - c) i0 (by omega) (by rw [stj, show c + (d - c) = d by omega]; exact d3) ?_
            exact (hat i0 e0 h0).trans (congrArg (fun z : NestedKey => z.hash w) k0)
      by_cases hl : t.led = true
      · refine wp_if_neg (by simp [hl]) ?_
        try refine wpAny_bind (wpAny_pure ?_)
        exact rest
      · refine wp_if_pos (by simp [hl]) ?_
        refine wpAny_bind (unseen hx (fun y hy => ?_) ?_)
        · obtain ⟨z, hz, ez⟩ := List.mem_map.mp hy
          have hz1 : z ∈ es ∧ z.1 = k.hash w := by simpa using hz
          have hz2 : z ∈ es.toList := by simpa using hz1.1
          rw [Z.row] at hz2
          obtain ⟨e2, he2, ee⟩ := List.mem_map.mp hz2
          exact ⟨e2.2, e2.1, by rw [← ez, ← ee], Z.at_ e2 he2⟩
        · refine wp_if_neg (by decide) ?_
          try refine wpAny_bind (wpAny_pure ?_)
          exact rest
    · have hpr2 : t.probe (fun i => (es[i]?.map (·.1)).getD 0) (k.hash w) (stand.getD (t.probeStart (k.hash w))) = some (.empty (way t.mask (k.hash w) K) none) := by
        have e2 : way t.mask (k.hash w) K = (nth t.mask (nth t.mask (start t (k.hash w)) c) (K - c)).j := by rw [stj, cK]
        rw [hst, e2]
        exact hpr
      rw [hpr2]
      dsimp only
      refine wpAny_pure (gone fun hm => ?_)
      obtain ⟨e0, h0, k0⟩ := List.mem_map.mp hm
      obtain ⟨i0, h00⟩ := List.getElem?_of_mem h0
      obtain ⟨d, d1, d2, d3⟩ := mine i0 e0 h00 k0
      refine hno (d - c) i0 (by omega) (by rw [stj, show c + (d - c) = d by omega]; exact d3) ?_
      exact (hat i0 e0 h00).trans (congrArg (fun z : NestedKey => z.hash w) k0)
/-- looking for k as adding does -/
theorem find (Z : Tab P w s.heap a L es ep t) {x : Addr} {k : NestedKey} (hx : At P w s.heap k x) (hu : A.units + 8 < cLine) {Q : SetFound → Shared → Prop} (there : k ∈ L.map (·.2) → Q (.there none) s)
    (gone : ∀ K, k ∉ L.map (·.2) → way t.mask (k.hash w) K ∉ t.place.toList → (∀ c, c < K → way t.mask (k.hash w) c ∈ t.place.toList) → Q (.free (way t.mask (k.hash w) K) false) s) : wpAny (model P w) A (setSearch a (.ref x) (k.hash w) true) Q E s := by
  have sp := Z.space
  obtain ⟨K, k1, k2, k3⟩ := Z.ok.first (by rw [List.length_map]; omega) (k.hash w)
  have most : K < 100000 := by
    have : 10 * SetTable.turns t.mask ≤ 1420 := by
      unfold SetTable.turns
      rcases Z.ok.mok with q | q | q <;> omega
    omega
  unfold setSearch
  refine look Z hx hu k1 k2 k3 there (fun hn => gone K hn k2 k3) 100000 0 none rfl (Nat.zero_le _) (by omega) fun i e he hk => ?_
  have hi : (hs w L)[i]? = some (k.hash w) := by
    rw [List.getElem?_map, he, ← hk]
    rfl
  have il : i < t.place.toList.length := by
    have h1 := (List.getElem?_eq_some_iff.mp he).1
    have h2 := Z.ok.sz
    rw [List.length_map] at h2
    rw [Array.length_toList]
    omega
  have hj := List.getElem?_eq_getElem il
  obtain ⟨c, hc, ec⟩ := Z.ok.before k2 hi hj
  exact ⟨c, Nat.zero_le _, hc, by rw [hj, ec]⟩
theorem At.other {h h' : Heap} {k : NestedKey} {b : Addr} {o : Obj} (x : At P w h k b) (g1 : h.get? a = some o) (g2 : o.data = .set es ep t) (g3 : Heap.SameBut a h h') : At P w h' k b := x.keep fun c o' vs n q1 q2 => (g3.2 c fun e => by
  rw [e, g1] at q1
  cases q1
  rw [g2] at q2
  cases q2).trans q1
/-- some of the set's rows, by their places -/
theorem picked (hr : es.toList = rows w L) : ∀ l : List Nat, (∀ i ∈ l, i < L.length) → l.filterMap (fun i => es[i]?) = rows w (l.filterMap fun i => L[i]?) ∧ hs w (l.filterMap fun i => L[i]?) = l.map fun i => (es.map (·.1)).getD i 0
  | [], _ => ⟨rfl, rfl⟩
  | i :: l, h => by
    obtain ⟨q1, q2⟩ := picked hr l fun j hj => h j (List.mem_cons_of_mem _ hj)
    obtain ⟨e, he⟩ : ∃ e, L[i]? = some e := ⟨_, List.getElem?_eq_getElem (h i List.mem_cons_self)⟩
    have ee := row_at hr he
    rw [List.filterMap_cons_some ee, List.filterMap_cons_some he, q1]
    refine ⟨rfl, ?_⟩
    rw [List.map_cons]
    show e.2.hash w :: hs w (l.filterMap fun i => L[i]?) = _
    rw [q2]
    have e5 : (es.map (·.1))[i]? = some (e.2.hash w) := by
      rw [Array.getElem?_map, ee]
      rfl
    rw [show (es.map (·.1)).getD i 0 = e.2.hash w by simp [Array.getD_eq_getD_getElem?, e5]]
theorem all_places {α : Type} (l : List α) : (List.range l.length).filterMap (fun i => l[i]?) = l := by
  have key : ∀ n, n ≤ l.length → (List.range n).filterMap (fun i => l[i]?) = l.take n := by
    intro n
    induction n with
    | zero => exact fun _ => rfl
    | succ n ih =>
      intro hn
      rw [List.range_succ, List.filterMap_append, ih (by omega), List.take_succ, List.filterMap_cons_some (List.getElem?_eq_getElem (show n < l.length by omega)), List.getElem?_eq_getElem (show n < l.length by omega)]
      rfl
  rw [key _ (Nat.le_refl _), List.take_length]
theorem shuffled {order : Array Nat} (hr : es.toList = rows w L) (hp : order.toList.Perm (List.range L.length)) : ∃ L2 : List El, (order.filterMap (es[·]?)).toList = rows w L2 ∧ L2.Perm L ∧ hs w L2 = order.toList.map fun i => (es.map (·.1)).getD i 0 := by
  obtain ⟨q1, q2⟩ := picked hr order.toList fun i hi => List.mem_range.mp (hp.mem_iff.mp hi)
  refine ⟨_, by first | (rw [Array.toList_filterMap]; exact q1) | simpa using q1, ?_, q2⟩
  have h1 := hp.filterMap fun i => L[i]?
  rwa [all_places] at h1
/-- the table laid anew -/
theorem relaid {o : Obj} (o1 : s.heap.get? a = some o) (o2 : o.ExactSet) (o3 : o.data = .set es ep t) (hr : es.toList = rows w L) (p1 : t.place.size = es.size) (p2 : t.dummies = #[]) (p3 : es.size ≤ t.mask)
    (once : (L.map (·.2)).Nodup) (at_ : ∀ e ∈ L, At P w s.heap e.2 e.1) (pl : t.plain = true) (lay : w.params.followText "set-order" = true ∨ t.led = true) (less : L.length < 64) {want M : Nat}
    (m1 : SetTable.sizeAbove want - 1 = M) (m2 : MaskOk M) (m3 : SetTable.sizeAbove want ≤ 128) (m4 : L.length * 5 < M * 3) {Q : Unit → Shared → Prop}
    (q : ∀ h' L' es' ep' t', Heap.SameBut a s.heap h' → Tab P w h' a L' es' ep' t' → L'.Perm L → Q () { s with heap := h' }) : wpAny (model P w) A (setRelay a want) Q E s := by
  have sz := row_size hr
  have fit : t.fits es.size = true := by
    unfold SetTable.fits SetTable.fill
    rw [p2, Bool.and_eq_true, beq_iff_eq, decide_eq_true_eq]
    exact ⟨p1, by show t.place.size + 0 ≤ t.mask; omega⟩
  obtain ⟨t', order, r1, r2, r3, r4, r5, r6, r7⟩ := relaid_ok t (hs := es.map (·.1)) (wanted := want) m1 m2 (by rw [Array.size_map, sz]; omega)
  rw [Array.size_map, sz] at r2
  obtain ⟨L2, s1, s2, s3⟩ := shuffled hr r2
  rw [← s3] at r3
  have sz2 : (order.filterMap (es[·]?)).size = es.size := by rw [row_size s1, s2.length_eq, sz]
  rw [setRelay_eq]
  refine wpAny_bind (wpAny_setState_of o1 o3 fit (wp_if_neg (by rw [sizeLine_eq]; omega) ?_))
  try refine wpAny_bind (wpAny_pure ?_)
  rw [r1]
  dsimp only
  refine wpAny_bind (wp_if_neg (by rw [sz2]; simp) ?_)
  try refine wpAny_bind (wpAny_pure ?_)
  refine wpAny_pure ?_
  dsimp only
  have sb : Heap.SameBut a s.heap (s.heap.update a (Obj.putSet (order.filterMap (es[·]?)) t')) := Heap.SameBut.update ..
  refine wpAny_storeSet_of o1 o3 (q _ L2 _ (ep + 1) t' sb ⟨⟨_, store_at o1 o3, ⟨o2.1, o2.2.1, o2.2.2⟩, rfl⟩, s1, r3, (s2.map (·.2)).nodup_iff.mpr once, fun e he => (at_ e (s2.mem_iff.mp he)).other o1 o3 sb, by rw [r6]; exact pl, by rw [r5]; exact lay, by rw [s2.length_eq, r4]; exact m4, by rw [s2.length_eq]; exact less⟩ s2) (by rw [sz2, sz, sizeLine_eq]; omega)
theorem putIn (L : List El) (p : Nat) (x : El) : rows w (L.take p ++ x :: L.drop p) = (rows w L).take p ++ (x.2.hash w, Value.ref x.1) :: (rows w L).drop p := by
  unfold rows
  rw [List.map_append, List.map_cons, List.map_take, List.map_drop]
/-- one key more -/
theorem add (Z : Tab P w s.heap a L es ep t) {x : Addr} {k : NestedKey} (hx : At P w s.heap k x) (hu : A.units + 8 < cLine) (few : L.length + 1 < 64) {Q : Bool → Shared → Prop}
    (q : ∀ b h' L' es' ep' t', Heap.SameBut a s.heap h' → Tab P w h' a L' es' ep' t' → (k ∈ L.map (·.2) → L' = L) → (k ∉ L.map (·.2) → L'.Perm ((x, k) :: L)) → Q b { s with heap := h' }) : wpAny (model P w) A (setAddHashed a (.ref x) (k.hash w)) Q E s := by
  obtain ⟨o, o1, o2, o3⟩ := Z.obj
  have sz := row_size Z.row
  have sp := Z.space
  unfold setAddHashed
  refine wpAny_holding ?_
  rw [show (100000 : Nat) = 99999 + 1 from rfl, setAddHashedIn_succ]
  refine wpAny_bind (wpAny_setState_of o1 o3 Z.fit (wp_if_neg (by simp [byScan, Value.scannable]) ?_))
  try refine wpAny_bind (wpAny_pure ?_)
  refine wpAny_bind (find Z hx hu (fun hm => ?_) fun K hm k1 k2 => ?_)
  · exact wpAny_pure (q false s.heap L es ep t (Heap.SameBut.refl a s.heap) Z (fun _ => rfl) fun z => absurd hm z)
  dsimp only
  refine wpAny_bind (wpAny_setState_of o1 o3 Z.fit ?_)
  dsimp only
  obtain ⟨y1, y2, y3, y4, y5, y6, y7, y8, y9⟩ := Z.ok.put k1 k2
  have pl1 : (t.put (way t.mask (k.hash w) K)).1.plain = true := by rw [y6]; exact Z.pl
  generalize hpt : t.put (way t.mask (k.hash w) K) = pt at y1 y3 y4 y5 y6 y7 y8 y9 pl1 ⊢
  obtain ⟨t1, p⟩ := pt
  dsimp only at y1 y3 y4 y5 y6 y7 y8 y9 pl1 ⊢
  subst y1
  have hby : ∀ (Q : Bool → Shared → Prop), Q true s → wpAny (model P w) A (hashByValue 8 (.ref x)) Q E s := fun Q => hby_key k _ 8 s hx.ik hx.is.1 hx.is.2 A E Q
  first
    | (refine wpAny_bind ?_; refine wp_if_pos pl1 ?_; refine hby _ ?_)
    | refine wp_if_pos pl1 (wpAny_bind (hby _ ?_))
  simp only [if_true]
  have row1 : (SetTable.insertAt es (SetTable.below t.place (way t.mask (k.hash w) K)) (k.hash w, Value.ref x)).toList = rows w (L.take (SetTable.below t.place (way t.mask (k.hash w) K)) ++ (x, k) :: L.drop (SetTable.below t.place (way t.mask (k.hash w) K))) := by
    rw [SetTable.toList_insertAt, putIn, Z.row]
  generalize hpp : SetTable.below t.place (way t.mask (k.hash w) K) = p at y2 y3 row1 ⊢
  have pm := put_perm L p (x, k)
  have hlen := pm.length_eq
  rw [List.length_cons] at hlen
  have hh : hs w (L.take p ++ (x, k) :: L.drop p) = (hs w L).take p ++ k.hash w :: (hs w L).drop p := by
    unfold hs
    rw [List.map_append, List.map_cons, List.map_take, List.map_drop]
  rw [← hh] at y3
  have once1 : ((L.take p ++ (x, k) :: L.drop p).map (·.2)).Nodup := (pm.map (·.2)).nodup_iff.mpr (List.nodup_cons.mpr ⟨hm, Z.once⟩)
  have sz1 := row_size row1
  rw [hlen] at sz1
  generalize SetTable.insertAt es p (k.hash w, Value.ref x) = es1 at row1 sz1 ⊢
  generalize L.take p ++ (x, k) :: L.drop p = L1 at pm hlen y3 once1 row1
  refine wpAny_bind (wpAny_storeSet_of o1 o3 ?_ (by rw [sz1, sizeLine_eq]; have := Z.less; omega))
  have sb : Heap.SameBut a s.heap (s.heap.update a (Obj.putSet es1 t1)) := Heap.SameBut.update ..
  have st1 := store_at (es' := es1) (t' := t1) o1 o3
  generalize s.heap.update a (Obj.putSet es1 t1) = h1 at sb st1 ⊢
  have at1 : ∀ e ∈ L1, At P w h1 e.2 e.1 := fun e he => by
    rcases List.mem_cons.mp (pm.mem_iff.mp he) with rfl | he
    · exact hx.other o1 o3 sb
    · exact (Z.at_ e he).other o1 o3 sb
  have lay1 : w.params.followText "set-order" = true ∨ t1.led = true := by rw [y5]; exact Z.lay
  have less1 : L1.length < 64 := by rw [hlen]; exact few
  by_cases hf : t1.tooFull = true
  · first
      | (refine wpAny_bind ?_; refine wp_if_pos (by simp [hf]) ?_)
      | (refine wp_if_pos (by simp [hf]) ?_; refine wpAny_bind ?_)
    have over : (L.length + 1) * 5 ≥ t1.mask * 3 := by
      have h := hf
      unfold SetTable.tooFull at h
      rw [decide_eq_true_eq, y9, List.length_map] at h
      exact h
    rw [sz]
    have pz : t1.place.size = es1.size := by
      have h := y3.sz
      rw [List.length_map, hlen] at h
      rw [h, sz1]
    have two : (t.mask = 7 ∧ L.length = 4) ∨ (t.mask = 31 ∧ L.length = 18) := by
      rcases Z.ok.mok with e | e | e
      · exact Or.inl ⟨e, by rw [y4, e] at over; rw [e] at sp; omega⟩
      · exact Or.inr ⟨e, by rw [y4, e] at over; rw [e] at sp; omega⟩
      · rw [y4, e] at over
        omega
    have grow : ∀ M, SetTable.sizeAbove (SetTable.grown (L.length + 1)) - 1 = M → MaskOk M → SetTable.sizeAbove (SetTable.grown (L.length + 1)) ≤ 128 → (L.length + 1) * 5 < M * 3 →
        wpAny (model P w) A (setRelay a (SetTable.grown (L.length + 1))) (fun _ s' => wpAny (model P w) A (pure true) Q E s') E { s with heap := h1 } := fun M g1 g2 g3 g4 =>
      relaid (s := { s with heap := h1 }) st1 ⟨o2.1, o2.2.1, o2.2.2⟩ rfl row1 pz y3.dm (by rw [sz1, y4]; rcases two with ⟨e, e2⟩ | ⟨e, e2⟩ <;> omega) once1 at1 pl1 lay1 less1 g1 g2 g3 (by rw [hlen]; exact g4)
        fun h2 L2 es2 ep2 t2 sb2 Z2 pm2 => wpAny_pure (q true h2 L2 es2 ep2 t2 (sb.trans sb2) Z2 (fun z => absurd z hm) fun _ => pm2.trans pm)
    rcases two with ⟨_, e2⟩ | ⟨_, e2⟩
    · exact grow 31 (by rw [e2, size_20]) (.inr (.inl rfl)) (by rw [e2, size_20]; decide) (by omega)
    · exact grow 127 (by rw [e2, size_76]) (.inr (.inr rfl)) (by rw [e2, size_76]; decide) (by omega)
  · first
      | refine wp_if_neg (by simp [hf]) ?_
      | (refine wpAny_bind ?_; refine wp_if_neg (by simp [hf]) ?_; refine wpAny_pure ?_)
    refine wpAny_pure (q true h1 L1 es1 (ep + 1) t1 sb ⟨⟨_, st1, ⟨o2.1, o2.2.1, o2.2.2⟩, rfl⟩, row1, y3, once1, at1, pl1, lay1, ?_, less1⟩ (fun z => absurd z hm) fun _ => pm)
    have h := hf
    unfold SetTable.tooFull at h
    rw [decide_eq_true_eq, y9, List.length_map] at h
    rw [hlen]
    omega
end
end SN
namespace SN
open PySem PySem.Spec PyProof.Rows L2
section
variable {P : Program} {w : World}
/-- how the elements of a row come into a set at S, one by one -/
structure Adds (P : Program) (w : World) (S : Addr) (h0 : Heap) (Pv : Nat → Value → Prop) (J : Nat → Heap → Prop) : Prop where
  keep : ∀ {i : Nat} {h h' : Heap}, J i h → (∀ o, h.get? S = some o → h'.get? S = some o) → (∀ b o, h0.get? b = some o → h'.get? b = some o) → J i h'
  add : ∀ {i : Nat} {v : Value} {s : Shared} {A : Around} {E : Value → Shared → Prop} {Q : Bool → Shared → Prop}, A.units + 8 < cLine → Pv i v → J i s.heap → (∀ b o, h0.get? b = some o → s.heap.get? b = some o) →
    (∀ b h' tk, s.toks ≤ tk → Heap.SameBut S s.heap h' → J (i + 1) h' → Q b { s with heap := h', toks := tk }) → wpAny (model P w) A (setAdd S v) Q E s
variable {A : Around} {E : Value → Shared → Prop} {s : Shared}
theorem loop {I : Addr} {fp wr : List Addr} {G : Array GenState → Array GenState → Prop} {n : Nat} {Pv : Nat → Value → Prop} {St : Nat → Shared → Prop} {J : Nat → Heap → Prop} {h0 : Heap} {S : Addr} {Rz : Result → Shared → Prop} (W : WalksS P w A.in1 I fp wr G n Pv St) (M : Adds P w S h0 Pv J) (off : S ∉ fp)
    (new1 : h0.get? S = none) (new2 : ∀ b ∈ wr, h0.get? b = none) (un : A.in1.units + 8 < cLine) : ∀ (d i : Nat) (s : Shared), n - i = d → i ≤ n → St i s → (∀ b o, h0.get? b = some o → s.heap.get? b = some o) → J i s.heap →
      (∀ s', Moved (S :: wr) G s s' → J n s'.heap → (∀ b o, h0.get? b = some o → s'.heap.get? b = some o) → Rz (.ok (.ret .none)) s') → codeAny (model P w) A (.builtin "set.update.loop" ⟨[.ref S, .ref I], []⟩) Rz s := by
  have offW : S ∉ wr := fun h => off (W.sub _ h)
  have more : ∀ b ∈ wr, b ∈ S :: wr := fun b hb => List.mem_cons_of_mem _ hb
  have old : ∀ {s s' : Shared}, Moved wr G s s' → (∀ b o, h0.get? b = some o → s.heap.get? b = some o) → ∀ b o, h0.get? b = some o → s'.heap.get? b = some o := fun hm k b o e =>
    hm.heap b o (fun hb => by rw [new2 b hb] at e; cases e) (k b o e)
  intro d
  induction d with
  | zero =>
    intro i s hd hi st k j fin
    obtain rfl : i = n := by omega
    refine codeAny_builtin F.entry_set_update_loop ?_
    rw [Around.under_plainId F.plain_set_update_loop _]
    refine wpAny_bind (m := pyNext (.ref I)) (W.done s _ _ st fun s' hm => ?_)
    exact wpAny_pure (fin s' (hm.mono more) (M.keep j (fun o e => hm.heap S o offW e) (old hm k)) (old hm k))
  | succ d ih =>
    intro i s hd hi st k j fin
    have lt : i < n := by omega
    refine codeAny_builtin F.entry_set_update_loop ?_
    rw [Around.under_plainId F.plain_set_update_loop _]
    refine wpAny_bind (m := pyNext (.ref I)) (W.item i s _ _ lt st fun v s' pv st' hm => ?_)
    have k1 := old hm k
    refine wpAny_bind (m := holding [v] (setAdd S v)) (wpAny_holding (M.add un pv (M.keep j (fun o e => hm.heap S o offW e) k1) k1 fun b h' tk le sb j' => ?_))
    have k2 : ∀ b o, h0.get? b = some o → h'.get? b = some o := fun b o e => (sb.2 b (fun z => by rw [z, new1] at e; cases e)).trans (k1 b o e)
    refine wpAny_pure ⟨plainId_quiet F.plain_set_update_loop _, ih (i + 1) _ (by omega) lt (W.frame _ s' _ _ st' le fun b hb o e => ?_) k2 j' fun s'' hm2 j2 k3 => ?_⟩
    · exact (sb.2 b (fun h : b = S => off (by rw [← h]; exact hb))).trans e
    · refine fin s'' (Moved.trans W.gtrans ((hm.mono more).then_heap le fun b o hb e => ?_) hm2) j2 k3
      exact (sb.2 b (fun h : b = S => hb (by rw [h]; exact List.mem_cons_self))).trans e
set_option maxRecDepth 100000 in
set_option maxHeartbeats 3200000 in
theorem set_of_list {l : Addr} {items : Array Value} {Q : Value → Shared → Prop} {J : Nat → Heap → Prop} (calm : A.handled = none) (li_ : s.heap.IsList l items) (M : Adds P w s.heap.objs.size s.heap (fun i v => items[i]? = some v) J)
    (first : ∀ h, h.get? s.heap.objs.size = some (DL.setNew w) → (∀ b o, s.heap.get? b = some o → h.get? b = some o) → J 0 h) (un : A.units + 11 < cLine)
    (post : ∀ (h' : Heap) (tk : Nat), J items.size h' → (∀ b o, s.heap.get? b = some o → h'.get? b = some o) → Q (.ref s.heap.objs.size) { s with heap := h', toks := tk }) :
    wpAny (model P w) A (call (.type "set") [.ref l]) Q E s := by
  obtain ⟨c, tl, mro_⟩ := F.called_set.mro
  have made_ := F.called_set.made
  have sub_ := F.called_set.sub
  refine wpAny_call (codeAny_of_tree (?_ : wpAny _ _ (callAny (.type "set") _) _ _ _))
  refine wpAny_pure ⟨Code.quiet_builtin _ (by decide +kernel), codeAny_builtin F.entry_type_call ?_⟩
  rw [Around.under_plain (weight_type_call_type "set" [.ref l] []) rfl]
  have no_type := F.called_set.notType
  have can_ := F.called_set.canCreate
  have tc_ := F.typeCall_set_1 (.ref l)
  repeat (any_goals (first | assumption | wp_step))
  refine codeAny_mono (code_set_led1 (.ref l) (E := E) (Q₁ := fun obj s₁ => obj = .ref s.heap.objs.size ∧ s₁ = { s with heap := s.heap.push (DL.setNew w) }) ⟨rfl, rfl⟩) fun r s₁ hr => ?_
  cases r with
  | error e => exact hr
  | ok fl =>
    cases fl with
    | ret obj =>
      obtain ⟨rfl, rfl⟩ := hr
      have at_ : (s.heap.push (DL.setNew w)).get? s.heap.objs.size = some (DL.setNew w) := Heap.get?_push_size _ rfl
      have ty_ : Shared.TypeIs { s with heap := s.heap.push (DL.setNew w) } (.ref s.heap.objs.size) "set" := ⟨_, at_, rfl⟩
      have init_ := F.called_set.init.lookup
      have bind_ := F.called_set.init.bind (.ref s.heap.objs.size)
      repeat (any_goals (first | assumption | wp_step))
      refine codeAny_mono (codeAny_call_builtin (R := wants (fun r s₂ => r = .none ∧ ∃ h' tk, s₂ = { s with heap := h', toks := tk } ∧ J items.size h' ∧ (∀ b o, s.heap.get? b = some o → h'.get? b = some o)) E)
        F.called_set.init.plain F.entry_set_init (check_set_init_1 ty_ ?_)) fun r₂ s₂ hr₂ => ?_
      · obtain ⟨ol, hol, ocl, nl, odl⟩ := li_
        obtain ⟨ocls, odict, odata, oslots⟩ := ol
        simp only at ocl odl
        subst ocl odl
        have hol' : (s.heap.push (DL.setNew w)).get? l = some { cls := .type "list", dict := odict, data := .seq items nl, slots := oslots } := Heap.get?_push_of_some _ hol
        have no1 := F.sub_list_set
        have no2 := F.sub_list_frozenset
        have no3 : (Value.type "list" == Value.type "dict") = false := by decide
        have lst_ : (s.heap.push (DL.setNew w)).IsList l items := ⟨_, hol', rfl, nl, rfl⟩
        unfold Builtin.«set.__init__» noKeywords Builtin.Frozenset.updateFrom
        generalize hPI : pyIter = PI
        wp_walk
        subst hPI
        refine wpAny_pyIter_list lst_ ?_
        refine wpAny_bind (wpAny_runValue ?_)
        have lt_ : l < s.heap.objs.size := Heap.lt_size hol
        have calm3 : A.in1.in1.in1.handled = none := by simp [calm]
        have neI : l ≠ (s.heap.push (DL.setNew w)).objs.size := by
          rw [Heap.size_push]
          exact Nat.ne_of_lt (Nat.lt_succ_of_lt lt_)
        have off : s.heap.objs.size ∉ [(s.heap.push (DL.setNew w)).objs.size, l] := by
          rw [Heap.size_push]
          simp only [List.mem_cons, List.mem_singleton, List.not_mem_nil, or_false, not_or]
          exact ⟨Nat.ne_of_lt (Nat.lt_succ_self _), Nat.ne_of_gt lt_⟩
        have gone : ∀ b, s.heap.objs.size ≤ b → s.heap.get? b = none := fun b hb => by
          cases q : s.heap.get? b with
          | none => rfl
          | some o => exact absurd (Nat.lt_of_lt_of_le (Heap.lt_size q) hb) (Nat.lt_irrefl _)
        refine loop ((Walks.list calm3 _ l neI items).toS) M off (gone _ (Nat.le_refl _)) (fun b hb => gone b (by
            rw [List.mem_singleton.mp hb, Heap.size_push]
            exact Nat.le_succ _)) un (items.size - 0) 0 _ (by omega) (Nat.zero_le _)
          ⟨⟨_, Heap.get?_push_size _ rfl, rfl, rfl⟩, lst_.push _⟩ (fun b o e => Heap.get?_push_of_some _ (Heap.get?_push_of_some _ e)) (first _ (Heap.get?_push_of_some _ at_) fun b o e => Heap.get?_push_of_some _ (Heap.get?_push_of_some _ e)) fun s' hm j' k' => ?_
        obtain ⟨h', g2, d', tk', os'⟩ := s'
        have eg : g2 = s.gens := hm.gens
        have ed : d' = s.drawn := hm.drawn
        have eo : os' = s.os := hm.os
        subst eg ed eo
        show wpAny _ _ _ _ _ _
        refine wpAny_pure (?_ : wpAny _ _ (ret Value.none) _ _ _)
        exact wpAny_pure ⟨rfl, h', tk', rfl, j', k'⟩
      · cases r₂ with
        | error e => exact hr₂
        | ok fl₂ =>
          cases fl₂ with
          | ret r =>
            obtain ⟨rfl, h', tk, rfl, j', k'⟩ := hr₂
            repeat (any_goals (first | assumption | wp_step))
            exact post _ _ j' k'
          | _ => exact hr₂.elim
    | _ => exact hr.elim
end
end SN
namespace SN
open PySem PySem.Spec PyProof.Rows L2
section
variable {P : Program} {w : World}
/-- what the set has got from the first i elements -/
structure Has (ks : List El) (i : Nat) (L : List El) : Prop where
  sub : ∀ e ∈ L, e ∈ ks.take i
  all : ∀ e ∈ ks.take i, e.2 ∈ L.map (·.2)
theorem Tab.on {h h' : Heap} {a : Addr} {L : List El} {es : Array (Int × Value)} {ep : Nat} {t : SetTable} (Z : Tab P w h a L es ep t) (ho : ∀ o, h.get? a = some o → h'.get? a = some o) (he : ∀ e ∈ L, At P w h' e.2 e.1) : Tab P w h' a L es ep t :=
  let ⟨o, o1, o2⟩ := Z.obj
  ⟨⟨o, ho o o1, o2⟩, Z.row, Z.ok, Z.once, he, Z.pl, Z.lay, Z.space, Z.less⟩
/-- few different keys -/
def Few (ks : List El) : Prop := ∀ L : List El, (L.map (·.2)).Nodup → (∀ e ∈ L, e ∈ ks) → L.length ≤ 62
theorem adds_keys {S : Addr} {h0 : Heap} {ks : List El} {vs : Array Value} (hv : vs.toList = ks.map fun e => Value.ref e.1) (hk : ∀ e ∈ ks, At P w h0 e.2 e.1) (few : Few ks) :
    Adds P w S h0 (fun i v => vs[i]? = some v) fun i h => ∃ L es ep t, Tab P w h S L es ep t ∧ Has ks i L where
  keep := fun {i h h'} j ho old => by
    obtain ⟨L, es, ep, t, Z, g⟩ := j
    exact ⟨L, es, ep, t, Z.on ho fun e he => (hk e (List.mem_of_mem_take (g.sub e he))).keep fun b o _ _ q _ => old b o q, g⟩
  add := fun {i v s A E Q} un pv j old post => by
    obtain ⟨L, es, ep, t, Z, g⟩ := j
    have pv2 : vs.toList[i]? = some v := by rw [Array.getElem?_toList]; exact pv
    rw [hv, List.getElem?_map] at pv2
    obtain ⟨e, he, rfl⟩ := Option.map_eq_some_iff.mp pv2
    have hx : At P w s.heap e.2 e.1 := (hk e (List.mem_of_getElem? he)).keep fun b o _ _ q _ => old b o q
    have subs : ∀ z ∈ L, z ∈ ks := fun z hz => List.mem_of_mem_take (g.sub z hz)
    have few1 := few L Z.once subs
    have nx : ks.take (i + 1) = ks.take i ++ [e] := by
      rw [List.take_succ, he]
      rfl
    unfold setAdd
    refine wpAny_holding (wpAny_bind ((nestedKind P w).pyHash un hx.is ?_))
    refine SN.add (s := { s with toks := s.toks + (nestedKind P w).draws e.2 }) Z hx un (by omega) fun b h' L' es' ep' t' sb Z' c1 c2 => ?_
    refine post b h' _ (Nat.le_add_right _ _) sb ⟨L', es', ep', t', Z', ?_⟩
    by_cases hm : e.2 ∈ L.map (·.2)
    · rw [c1 hm]
      refine ⟨fun z hz => by rw [nx]; exact List.mem_append_left _ (g.sub z hz), fun z hz => ?_⟩
      rw [nx] at hz
      rcases List.mem_append.mp hz with hz | hz
      · exact g.all z hz
      · rw [List.mem_singleton.mp hz]
        exact hm
    · have pm := c2 hm
      refine ⟨fun z hz => ?_, fun z hz => ?_⟩
      · rw [nx]
        rcases List.mem_cons.mp (pm.mem_iff.mp hz) with q | q
        · rw [q]
          exact List.mem_append_right _ (List.mem_singleton.mpr rfl)
        · exact List.mem_append_left _ (g.sub z q)
      · rw [(pm.map (·.2)).mem_iff, List.map_cons]
        rw [nx] at hz
        rcases List.mem_append.mp hz with q | q
        · exact List.mem_cons_of_mem _ (g.all z q)
        · rw [List.mem_singleton.mp q]
          exact List.mem_cons_self
/-- the set's own part -/
def T0 (w : World) (a : Addr) (L : List El) : Heap → Prop := fun h => ∃ es ep t, (∃ o, h.get? a = some o ∧ o.ExactSet ∧ o.data = .set es ep t) ∧ es.toList = rows w L ∧ TabOk t (hs w L) ∧ (L.map (·.2)).Nodup ∧ t.plain = true ∧ (w.params.followText "set-order" = true ∨ t.led = true) ∧ L.length * 5 < t.mask * 3 ∧ L.length < 64
abbrev SO (w : World) (a : Addr) (L : List El) : HO := .ext (T0 w a L)
theorem Tab.t0 {h : Heap} {a : Addr} {L : List El} {es : Array (Int × Value)} {ep : Nat} {t : SetTable} (Z : Tab P w h a L es ep t) : T0 w a L h := ⟨es, ep, t, Z.obj, Z.row, Z.ok, Z.once, Z.pl, Z.lay, Z.space, Z.less⟩
theorem T0.tab {h : Heap} {a : Addr} {L : List El} (z : T0 w a L h) (he : ∀ e ∈ L, At P w h e.2 e.1) : ∃ es ep t, Tab P w h a L es ep t :=
  let ⟨es, ep, t, q1, q2, q3, q4, q5, q6, q7, q8⟩ := z
  ⟨es, ep, t, q1, q2, q3, q4, he, q5, q6, q7, q8⟩
theorem so_new {H : Hp} {h : Heap} {a : Addr} {L : List El} (z : T0 w a L h) : ObjOk P w H h a (SO w a L) := by
  have z0 := z
  obtain ⟨es, ep, t, ⟨o, o1, _⟩, _⟩ := z0
  refine ⟨z, ⟨o, o1⟩, fun h1 h2 y k => ?_⟩
  obtain ⟨es, ep, t, ⟨o, o1, o2⟩, q⟩ := y
  exact ⟨es, ep, t, ⟨o, k o o1, o2⟩, q⟩
end
section
variable {X : Cx}
theorem at_of {pins : List (Addr × Obj)} {σ : L2.St} {H : Hp} {s : Shared} (I : Inv X pins σ H s) {k : NestedKey} {a : Addr} (h : DN.KeyOk X.K H k a) : At X.prog X.w s.heap k a := ⟨h.is I, h.1⟩
theorem refs_eq {ks : List El} {us : List Value} (r : Vals (ks.map fun e => V.ref e.1) us) : us = ks.map fun e => Value.ref e.1 := by
  induction ks generalizing us with
  | nil => cases r; rfl
  | cons e ks ih =>
    cases r with
    | cons r1 r2 =>
      cases r1
      rw [ih r2]
      rfl
/-- set(x): keys -/
def rSetK (K : PySem.W.Frag) (w : World) : List V → Hp → VK → Prop := fun xs H Q => ∃ (l : Addr) (ks : List El), xs = [V.ref l] ∧ SqL K H l (ks.map fun e => V.ref e.1) ∧ (∀ e ∈ ks, DN.KeyOk K H e.2 e.1) ∧ Few ks ∧
  ∀ a L, H a = none → (∀ e ∈ L, e ∈ ks) → (∀ e ∈ ks, e.2 ∈ L.map (·.2)) → (L.map (·.2)).Nodup → Q (.ref a) (upd H a (SO w a L))
theorem cr_setK (hc : X.calm = true) (hu : X.A.units + 64 < cLine) : CallR X (.type "set") (rSetK X.K X.w) := by
  intro pins s σ H xs us Q I r h
  obtain ⟨l, ks, rfl, hl, hk, few, q⟩ := h
  rw [Vals.ref1 r]
  obtain ⟨its, rv, pl, _⟩ := I.list hl
  have hits := refs_eq rv
  have hn : H s.heap.objs.size = none := I.hok.fresh (Nat.le_refl _)
  refine set_of_list (J := fun i h => ∃ L es ep t, Tab X.prog X.w h s.heap.objs.size L es ep t ∧ Has ks i L) (I.ok.hd hc) pl.isList (adds_keys (by simpa using hits) (fun e he => at_of I (hk e he)) few) (fun h q1 q2 => ⟨[], #[], 0, _, ⟨⟨_, q1, ⟨rfl, rfl, rfl⟩, rfl⟩, rfl, ⟨List.Pairwise.nil, rfl, rfl, .inl rfl, fun x hx => (by cases hx), fun i h j hi => (by simp at hi)⟩, List.nodup_nil, fun e he => (by cases he), rfl, ?_, by show 0 * 5 < 7 * 3; decide, by show 0 < 64; decide⟩, ⟨fun e he => (by cases he), fun e he => (by simp at he)⟩⟩) (by omega) fun h' tk j old => ?_
  · show _ ∨ (!X.w.params.followText "set-order") = true
    cases X.w.params.followText "set-order"
    · exact .inr rfl
    · exact .inl rfl
  · obtain ⟨L, es, ep, t, Z, g⟩ := j
    have sz : its.toArray.size = ks.length := by
      have := congrArg List.length hits
      rw [List.length_map] at this
      simpa using this
    rw [sz] at g
    have htk : ks.take ks.length = ks := List.take_length
    refine ⟨.ref s.heap.objs.size, upd H s.heap.objs.size (SO X.w s.heap.objs.size L), I.laid (t' := tk) old (Nat.le_refl _) (so_new Z.t0), rfl, q _ L hn (fun e he => List.mem_of_mem_take (g.sub e he)) (fun e he => g.all e (by rw [htk]; exact he)) Z.once⟩
/-- set(x): whole numbers -/
def rSetI (K : PySem.W.Frag) (w : World) : List V → Hp → VK → Prop := fun xs H Q => ∃ (l : Addr) (ns : List Int), xs = [V.ref l] ∧ SqL K H l (ns.map V.int) ∧ ns.length < 1000 ∧
  ∀ a c, H a = none → c ≤ ns.length → Q (.ref a) (upd H a (SetO w a (fun j => decide (j ∈ ns)) c))
theorem adds_ints {P : Program} {w : World} {S : Addr} {h0 : Heap} {ns : List Int} {vs : Array Value} (hv : IntsAre vs.toList ns) (hb : ns.length < 1000) :
    Adds P w S h0 (fun i v => vs[i]? = some v) fun i h => ∃ c, c ≤ i ∧ i ≤ ns.length ∧ SetR w h S (fun j => decide (j ∈ ns.take i)) c where
  keep := fun {i h h'} j ho old => by
    obtain ⟨c, c1, c2, z⟩ := j
    exact ⟨c, c1, c2, z.at ho⟩
  add := fun {i v s A E Q} un pv j old post => by
    obtain ⟨c, c1, c2, z⟩ := j
    have pv2 : vs.toList[i]? = some v := by rw [Array.getElem?_toList]; exact pv
    have il : i < ns.length := by
      rw [← IntsAre.length hv]
      exact (List.getElem?_eq_some_iff.mp pv2).1
    obtain ⟨t, e⟩ := PyProof.Rows.IntsAre.int_at hv i v pv2
    have hz : ns[i]? = some (ns.getD i 0) := by
      rw [List.getD_eq_getElem?_getD, List.getElem?_eq_getElem il]
      rfl
    subst e
    generalize ns.getD i 0 = k at hz
    have big : (1001 : Nat) < scanBound := by decide +kernel
    unfold setAdd
    refine wpAny_holding (wpAny_bind ((intKind P w).pyHash (k := k) (intKind_is _ _ _ _) ?_))
    refine setR_add_hashed (s := { s with toks := s.toks + 1 }) z (by omega) fun h' sb z2 => ?_
    refine post _ h' _ (Nat.le_succ _) sb ⟨_, ?_, il, z2.congr fun j => ?_⟩
    · split <;> omega
    · rw [List.take_add_one, hz]
      simp [List.mem_append]
theorem cr_setI (hc : X.calm = true) (hu : X.A.units + 64 < cLine) : CallR X (.type "set") (rSetI X.K X.w) := by
  intro pins s σ H xs us Q I r h
  obtain ⟨l, ns, rfl, hl, hb, q⟩ := h
  rw [Vals.ref1 r]
  obtain ⟨its, rv, pl, _⟩ := I.list hl
  have hits := Vals.ints rv
  have hn : H s.heap.objs.size = none := I.hok.fresh (Nat.le_refl _)
  refine set_of_list (J := fun i h => ∃ c, c ≤ i ∧ i ≤ ns.length ∧ SetR X.w h s.heap.objs.size (fun j => decide (j ∈ ns.take i)) c) (I.ok.hd hc) pl.isList (adds_ints (by simpa using hits) hb) (fun h q1 q2 => ⟨0, Nat.le_refl _, Nat.zero_le _, setR_new_at q1⟩) (by omega) fun h' tk j old => ?_
  obtain ⟨c, c1, c2, z⟩ := j
  have sz : its.toArray.size = ns.length := by
    have := IntsAre.length hits
    simpa using this
  rw [sz, List.take_length] at z
  rw [sz] at c1
  exact ⟨.ref s.heap.objs.size, upd H s.heap.objs.size (SetO X.w s.heap.objs.size (fun j => decide (j ∈ ns)) c), I.laid (t' := tk) old (Nat.le_refl _) (setO_new z), rfl, q _ c hn c1⟩
end
end SN
namespace SN
theorem perm_map {α β : Type} {f : α → β} : ∀ {vs ws : List β}, vs.Perm ws → ∀ L : List α, ws = L.map f → ∃ L1 : List α, L1.Perm L ∧ vs = L1.map f := by
  intro vs ws h
  induction h with
  | nil =>
    intro L e
    cases L with
    | nil => exact ⟨[], .nil, rfl⟩
    | cons => cases e
  | cons x _ ih =>
    intro L e
    cases L with
    | nil => cases e
    | cons y L =>
      obtain ⟨e1, e2⟩ := List.cons.inj e
      obtain ⟨L1, p, q⟩ := ih L e2
      exact ⟨y :: L1, p.cons y, by rw [List.map_cons, ← q, e1]⟩
  | swap x y l =>
    intro L e
    match L, e with
    | a :: b :: L, e =>
      obtain ⟨e1, e2⟩ := List.cons.inj e
      obtain ⟨e2, e3⟩ := List.cons.inj e2
      exact ⟨b :: a :: L, .swap a b L, by rw [List.map_cons, List.map_cons, ← e1, ← e2, ← e3]⟩
  | trans _ _ ih1 ih2 =>
    intro L e
    obtain ⟨L2, p2, q2⟩ := ih2 L e
    obtain ⟨L1, p1, q1⟩ := ih1 L2 q2
    exact ⟨L1, p1.trans p2, q1⟩
end SN
namespace PySem.W
open PySem PySem.Calls
open PyProof.Rows
section
variable {prog : Program} {w : World} {A : Around} {E : Value → Shared → Prop} {s : Shared}
/-- sorted(s): the set's keys on a new list -/
theorem sorted_setK {a : Addr} {L : List SN.El} {es : Array (Int × Value)} {ep : Nat} {t : SetTable} {Q : Value → Shared → Prop} (Z : SN.Tab prog w s.heap a L es ep t) (hh : A.handled = none)
    (er : ∀ e ∈ L, ∃ as, Reads s.heap (.ref e.1) e.2.data as) (hal : AllAlike (L.map fun e => e.2.data)) (hk : ∀ L1 : List SN.El, L1.Perm L → Sortable (L1.map fun e => e.2.data)) (hu : ∀ e ∈ L, A.units + 2 + e.2.data.depth < cLine)
    (h : ∀ (s2 : Shared) (p : Addr) (out : List Value) (L1 : List SN.El), L1.Perm L → EachIs (fun u (z : SN.El) => u = Value.ref z.1) out (L1.mergeSort (dataLe false fun z => z.2.data)) → (∀ b o, s.heap.get? b = some o → s2.heap.get? b = some o) → s2.gens = s.gens → s2.os = s.os → s.heap.objs.size ≤ p →
      (∃ ep, s2.heap.get? p = some (seqObj "list" (List.toArray out) ep)) → Q (.ref p) s2) : wpAny (model prog w) A (call (.builtin "sorted") [.ref a]) Q E s := by
  obtain ⟨o, o1, o2, o3⟩ := Z.obj
  have few := Z.less
  have szr := SN.row_size Z.row
  have big : (64 : Nat) < scanBound := by decide +kernel
  refine call_function_entry_kw (kw := []) kind_sorted plain_sorted entry_sorted (args_sorted1 _) ?_
  unfold Builtin.«sorted»
  refine wpAny_bind (m := checkCount "sorted" 1 1 _) (wpAny_pure ?_)
  refine wpAny_bind (L2.collect_set (A := A.in1) hh ⟨o, o1, o2.1, o3⟩ Z.fit (by omega) Z.ok.ris Z.lay fun s1 vs k1 hz g1 oo1 pm => ?_)
  have ev : es.toList.map (·.2) = L.map fun e => Value.ref e.1 := by
    rw [Z.row, SN.rows, List.map_map]
    rfl
  rw [ev] at pm
  obtain ⟨L1, pL, rfl⟩ := SN.perm_map pm L rfl
  have hl1 : L1.length < 64 := by rw [pL.length_eq]; exact few
  refine wpAny_bind (wpAny_newList ?_ (by rw [List.length_map, sizeLine_eq]; omega))
  have e1 : EachIs (fun u (z : SN.El) => u = Value.ref z.1) (L1.map fun e => Value.ref e.1) L1 := by
    clear pL hl1 pm
    induction L1 with
    | nil => exact .nil
    | cons e L1 ih => exact .cons rfl ih
  generalize hus : (L1.map fun e => Value.ref e.1) = us at e1
  have hoL : (s1.heap.push (seqObj "list" us.toArray 0)).get? s1.heap.objs.size = some (seqObj "list" us.toArray 0) := Heap.get?_push_size _ rfl
  have er1 : EachIs (fun u (z : SN.El) => ∃ as, Reads (sortingHeap (s1.heap.push (seqObj "list" us.toArray 0)) s1.heap.objs.size us) u z.2.data as) us L1 := by
    have all : ∀ e ∈ L1, ∃ as, Reads (sortingHeap (s1.heap.push (seqObj "list" us.toArray 0)) s1.heap.objs.size us) (.ref e.1) e.2.data as := fun e he => by
      obtain ⟨as, r⟩ := er e (pL.mem_iff.mp he)
      exact ⟨as, PyProof.Rows.Reads.keeps (fun b o q => sortingHeap_old (Nat.ne_of_lt (Heap.lt_size (k1 b o q))) (Heap.get?_push_of_some _ (k1 b o q))) r⟩
    clear hus hoL
    generalize hH : sortingHeap (s1.heap.push (seqObj "list" us.toArray 0)) s1.heap.objs.size us = HH at all ⊢
    clear hH pL hl1 pm
    induction e1 with
    | nil => exact .nil
    | cons q _ ih => exact .cons (by rw [q]; exact all _ List.mem_cons_self) (ih fun e he => all e (List.mem_cons_of_mem _ he))
  have hL' : us.length ≤ sizeLine := by rw [e1.length, sizeLine_eq]; omega
  have hal1 : AllAlike (L1.map fun e => e.2.data) := fun d1 h1 d2 h2 => hal d1 ((pL.map _).mem_iff.mp h1) d2 ((pL.map _).mem_iff.mp h2)
  refine wpAny_bind (wpAny_holding (wpAny_call_entry_kw slot_list_sort ⟨_, hoL, rfl⟩ entry_list_sort ?body (args_list_sort _)))
  case body =>
    show wpAny (model prog w) A.in1.in1 (Builtin.«list.sort» ⟨[.ref s1.heap.objs.size], []⟩) _ _ _
    refine wpAny_mono (list_sort_vals (A := A.in1.in1) (s := { s1 with heap := s1.heap.push (seqObj "list" us.toArray 0) }) (P := fun f s' => f = .done (.ret .none) ∧ Q (.ref s1.heap.objs.size) s') hoL (SortsAt.data (s := { s1 with heap := sortingHeap (s1.heap.push (seqObj "list" us.toArray 0)) s1.heap.objs.size us }) (each_map (R := fun v d => ∃ as, Reads (sortingHeap (s1.heap.push (seqObj "list" us.toArray 0)) s1.heap.objs.size us) v d as) (fun z : SN.El => z.2.data) er1) hal1 (hk L1 pL) (bound_map (enc := fun z : SN.El => z.2.data) fun e he => hu e (pL.mem_iff.mp he))) hL' ⟨rfl, ?_⟩) (fun f s' hf => ?_) fun _ _ e => e
    · refine h _ s1.heap.objs.size _ L1 pL (sortVals_data false e1 er1 hal1) (fun b o q => ?_) g1 oo1 hz (sortedHeap_at hoL)
      have q1 := k1 b o q
      show (sortedHeap _ _ _ _).get? b = some o
      rw [sortedHeap_old (Nat.ne_of_lt (Heap.lt_size q1)) (by rw [Heap.size_push]; exact Nat.lt_succ_of_lt (Heap.lt_size q1))]
      exact Heap.get?_push_of_some _ q1
    · obtain ⟨rfl, hq⟩ := hf
      exact ⟨_, rfl, wpAny_pure ⟨_, rfl, hq⟩⟩
end
end PySem.W
namespace SN
open PySem PySem.Spec PyProof.Rows L2
section
variable {X : Cx}
theorem each_refsE {out : List Value} {L : List El} (e : PySem.W.EachIs (fun u (z : El) => u = Value.ref z.1) out L) : Vals (L.map fun z => V.ref z.1) out := by
  induction e with
  | nil => exact .nil
  | cons h _ ih => exact .cons h ih
/-- sorted(s), s such a set -/
def rSortK (K : PySem.W.Frag) (w : World) : List V → Hp → VK → Prop := fun xs H Q => ∃ (a : Addr) (L : List El), xs = [.ref a] ∧ H a = some (SO w a L) ∧ (∀ e ∈ L, DN.KeyOk K H e.2 e.1) ∧ PySem.W.AllAlike (L.map fun e => e.2.data) ∧ (∀ L1 : List El, L1.Perm L → PySem.W.Sortable (L1.map fun e => e.2.data)) ∧
  ∀ (L1 : List El) (q : Addr), L1.Perm L → H q = none → Q (.ref q) (upd H q (.lst ((L1.mergeSort (PySem.W.dataLe false fun z => z.2.data)).map fun z => .ref z.1)))
theorem cr_sortK (hc : X.calm = true) (hu : X.A.units + 64 < cLine) : CallR X (.builtin "sorted") (rSortK X.K X.w) := by
  intro pins s σ H xs us Q I r h
  obtain ⟨a, L, rfl, ha, hk, hal, hs, q⟩ := h
  rw [Vals.ref1 r]
  obtain ⟨es, ep, t, Z⟩ := T0.tab (P := X.prog) (I.hok a _ ha).1 fun e he => at_of I (hk e he)
  refine PySem.W.sorted_setK Z (I.ok.hd hc) (fun e he => DN.key_reads I _ _ _ (hk e he).2.2 rfl) hal hs (fun e he => ?_) fun s2 p out L1 pL he k g o hp hat => ?_
  · have := (hk e he).2.1
    rw [DN.data_depth]
    omega
  · obtain ⟨ep2, hat⟩ := hat
    have rv := each_refsE he
    have hlen : ((L1.mergeSort (PySem.W.dataLe false fun z => z.2.data)).map fun z => V.ref z.1).length ≤ sizeLine := by
      rw [List.length_map, List.length_mergeSort, pL.length_eq, sizeLine_eq]
      have := Z.less
      omega
    have hn : H p = none := I.hok.fresh hp
    have J : Inv X pins σ (upd H p (.lst ((L1.mergeSort (PySem.W.dataLe false fun z => z.2.data)).map fun z => .ref z.1))) { s with heap := s2.heap, gens := s2.gens, drawn := s2.drawn, toks := s2.toks } :=
      I.call (ch := []) (Un.laid k hp hn) (I.hok.laid k hp ⟨hlen, out, ep2, rv, hat⟩) (by rw [g]; exact I.bare) (fun _ z => nomatch z)
    have e2 : s2 = { s with heap := s2.heap, gens := s2.gens, drawn := s2.drawn, toks := s2.toks } := by
      cases s2
      cases s
      cases o
      rfl
    rw [e2]
    exact ⟨.ref p, _, J, rfl, q L1 p pL hn⟩
end
end SN
namespace DL
open PySem PySem.Spec
open PyProof.Rows L2
def leK (a b : NestedKey) : Bool := PySem.W.dataLe false NestedKey.data a b
theorem leK_eq (a b : NestedKey) : leK a b = !PySem.W.dataLt b.data a.data := rfl
theorem leK_trans (a b c : NestedKey) (h1 : leK a b = true) (h2 : leK b c = true) : leK a c = true := by
  rw [leK_eq, Bool.not_eq_true'] at *
  cases h : PySem.W.dataLt c.data a.data with
  | false => rfl
  | true =>
    have h3 : PySem.W.dataLt c.data b.data = true ∨ PySem.W.dataLt b.data a.data = true := PyProof.Rows.lex_negTrans _ _ _ h
    rcases h3 with q | q
    · rw [q] at h2
      cases h2
    · rw [q] at h1
      cases h1
theorem leK_total (a b : NestedKey) : (leK a b || leK b a) = true := by
  rw [leK_eq, leK_eq]
  cases h : PySem.W.dataLt b.data a.data with
  | false => rfl
  | true =>
    cases g : PySem.W.dataLt a.data b.data with
    | false => rfl
    | true =>
      have h3 : PySem.W.dataLt b.data b.data = true := PyProof.Rows.lex_trans _ _ _ h g
      have h4 : PySem.W.dataLt b.data b.data = false := PyProof.Rows.lex_irrefl _
      rw [h4] at h3
      cases h3
mutual
theorem toks_key : ∀ (p q : NestedKey) (a b : List (Int ⊕ List Nat)), DN.intKey p = true → DN.intKey q = true → PySem.W.alike p.data q.data = true → PySem.W.keyToks p.data ++ a = PySem.W.keyToks q.data ++ b → p = q ∧ a = b
  | .num i, .num j, a, b, _, _, _, h => by
    have h : Sum.inl i :: a = Sum.inl j :: b := h
    simp only [List.cons.injEq, Sum.inl.injEq] at h
    exact ⟨by rw [h.1], h.2⟩
  | .tup ks, .tup js, a, b, hp, hq, al, h => by
    obtain ⟨e1, e2⟩ := toks_keys ks js a b hp hq al h
    exact ⟨by rw [e1], e2⟩
  | .num _, .tup _, _, _, _, _, al, _ => nomatch al
  | .tup _, .num _, _, _, _, _, al, _ => nomatch al
  | .none, _, _, _, hp, _, _, _ => nomatch hp
  | .text _, _, _, _, hp, _, _, _ => nomatch hp
  | .num _, .none, _, _, _, hq, _, _ => nomatch hq
  | .num _, .text _, _, _, _, hq, _, _ => nomatch hq
  | .tup _, .none, _, _, _, hq, _, _ => nomatch hq
  | .tup _, .text _, _, _, _, hq, _, _ => nomatch hq
theorem toks_keys : ∀ (ps qs : List NestedKey) (a b : List (Int ⊕ List Nat)), DN.intKeys ps = true → DN.intKeys qs = true → PySem.W.alikeAll (NestedKey.datas ps) (NestedKey.datas qs) = true → PySem.W.keyToksAll (NestedKey.datas ps) ++ a = PySem.W.keyToksAll (NestedKey.datas qs) ++ b → ps = qs ∧ a = b
  | [], [], a, b, _, _, _, h => by
    have h : Sum.inl 0 :: a = Sum.inl 0 :: b := h
    exact ⟨rfl, (List.cons.inj h).2⟩
  | [], q :: qs, a, b, _, _, _, h => by
    have h : Sum.inl (0 : Int) :: a = Sum.inl (1 : Int) :: (PySem.W.keyToks q.data ++ PySem.W.keyToksAll (NestedKey.datas qs) ++ b) := h
    have := (List.cons.inj h).1
    simp at this
  | p :: ps, [], a, b, _, _, _, h => by
    have h : Sum.inl (1 : Int) :: (PySem.W.keyToks p.data ++ PySem.W.keyToksAll (NestedKey.datas ps) ++ a) = Sum.inl (0 : Int) :: b := h
    have := (List.cons.inj h).1
    simp at this
  | p :: ps, q :: qs, a, b, hp, hq, al, h => by
    obtain ⟨p1, p2⟩ := Bool.and_eq_true_iff.mp (show (DN.intKey p && DN.intKeys ps) = true from hp)
    obtain ⟨q1, q2⟩ := Bool.and_eq_true_iff.mp (show (DN.intKey q && DN.intKeys qs) = true from hq)
    obtain ⟨l1, l2⟩ := PySem.W.alike_all_cons (x := p.data) (y := q.data) (xs := NestedKey.datas ps) (ys := NestedKey.datas qs) al
    have h : Sum.inl (1 : Int) :: (PySem.W.keyToks p.data ++ PySem.W.keyToksAll (NestedKey.datas ps) ++ a) = Sum.inl (1 : Int) :: (PySem.W.keyToks q.data ++ PySem.W.keyToksAll (NestedKey.datas qs) ++ b) := h
    have h := (List.cons.inj h).2
    rw [List.append_assoc, List.append_assoc] at h
    obtain ⟨e1, e2⟩ := toks_key p q _ _ p1 q1 l1 h
    obtain ⟨e3, e4⟩ := toks_keys ps qs a b p2 q2 l2 e2
    exact ⟨by rw [e1, e3], e4⟩
end
theorem leK_anti {a b : NestedKey} (ha : DN.intKey a = true) (hb : DN.intKey b = true) (al : PySem.W.alike a.data b.data = true) (h1 : leK a b = true) (h2 : leK b a = true) : a = b := by
  rw [leK_eq, Bool.not_eq_true'] at h1 h2
  have e : PySem.W.keyToks a.data = PySem.W.keyToks b.data := PyProof.Rows.lex_total _ _ h2 h1
  exact (toks_key a b [] [] ha hb al (by rw [List.append_nil, List.append_nil]; exact e)).1
def ddk : List NestedKey → List NestedKey
  | [] => []
  | a :: l => if a ∈ l then ddk l else a :: ddk l
theorem mem_ddk {x : NestedKey} : ∀ {l : List NestedKey}, x ∈ ddk l ↔ x ∈ l
  | [] => Iff.rfl
  | a :: l => by
    unfold ddk
    split
    · rename_i h
      rw [mem_ddk (l := l), List.mem_cons]
      exact ⟨.inr, fun q => q.elim (fun e => e ▸ h) id⟩
    · rw [List.mem_cons, List.mem_cons, mem_ddk (l := l)]
theorem nodup_ddk : ∀ l : List NestedKey, (ddk l).Nodup
  | [] => List.nodup_nil
  | a :: l => by
    unfold ddk
    split
    · exact nodup_ddk l
    · rename_i h
      exact List.nodup_cons.mpr ⟨fun q => h (mem_ddk.mp q), nodup_ddk l⟩
theorem nodup_in {α : Type} [DecidableEq α] {l m : List α} (h1 : l.Nodup) (h2 : m.Nodup) (h : ∀ x ∈ l, x ∈ m) : l.length ≤ m.length := by
  have e := same_len h1 (h2.filter fun x => decide (x ∈ l)) fun x => by
    rw [List.mem_filter, decide_eq_true_eq]
    exact ⟨fun hx => ⟨h x hx, hx⟩, fun hx => hx.2⟩
  have := List.length_filter_le (fun x => decide (x ∈ l)) m
  omega
/-- the keys of ks, each once, ascending -/
def setK (ks : List NestedKey) : List NestedKey := (ddk ks).mergeSort leK
theorem mem_setK {x : NestedKey} {ks : List NestedKey} : x ∈ setK ks ↔ x ∈ ks := ((List.mergeSort_perm (ddk ks) leK).mem_iff).trans mem_ddk
def okK (ks : List NestedKey) : Bool := (ks.all fun p => ks.all fun q => PySem.W.alike p.data q.data) && ks.all fun p => match p with
  | .tup (_ :: _) => decide (p.depth ≤ 8)
  | _ => false
def ddi : List Int → List Int
  | [] => []
  | a :: l => if a ∈ l then ddi l else a :: ddi l
theorem mem_ddi {x : Int} : ∀ {l : List Int}, x ∈ ddi l ↔ x ∈ l
  | [] => Iff.rfl
  | a :: l => by
    unfold ddi
    split
    · rename_i h
      rw [mem_ddi (l := l), List.mem_cons]
      exact ⟨.inr, fun q => q.elim (fun e => e ▸ h) id⟩
    · rw [List.mem_cons, List.mem_cons, mem_ddi (l := l)]
theorem nodup_ddi : ∀ l : List Int, (ddi l).Nodup
  | [] => List.nodup_nil
  | a :: l => by
    unfold ddi
    split
    · exact nodup_ddi l
    · rename_i h
      exact List.nodup_cons.mpr ⟨fun q => h (mem_ddi.mp q), nodup_ddi l⟩
/-- sorted(set(x)) -/
def fSortK (fe : FE) : FE := fun env S => (fe env S).bind fun p => (lstOf p.2 p.1).bind fun ds => match asInts ds with
  | some ns => if ns.length < 64 then some (.lst ((isort leI (ddi ns)).map .int), p.2) else none
  | none => (toNKs ds).bind fun ks => if okK ks = true ∧ (ddk ks).length ≤ 62 then some (.lst ((setK ks).map nkD), p.2) else none
section
variable {K : PySem.W.Frag} {ct : CT} {m : List Addr} {F : Hp}
/-- elements that are keys, each at its place -/
theorem keys_els : ∀ {ds : List D} {ks : List NestedKey} {vs : List V}, Reps K ct m F ds vs → toNKs ds = some ks → okK ks = true → ∃ es : List SN.El, vs = es.map (fun e => V.ref e.1) ∧ es.map (·.2) = ks ∧ ∀ e ∈ es, DN.KeyOk K F e.2 e.1 := by
  intro ds ks vs r h ok
  have ok2 := (Bool.and_eq_true_iff.mp ok).2
  clear ok
  induction ds generalizing ks vs with
  | nil =>
    have h : some [] = some ks := h
    cases h
    have r : vs = [] := r
    exact ⟨[], r, rfl, nofun⟩
  | cons d ds ih =>
    obtain ⟨k, h1, h⟩ := bind_some (show (toNK d).bind _ = some ks from h)
    obtain ⟨ks', h2, rfl⟩ := map_some h
    obtain ⟨v, vs', e1, e2, e3⟩ := r
    rw [List.all_cons, Bool.and_eq_true] at ok2
    obtain ⟨es, q1, q2, q3⟩ := ih e3 h2 ok2.2
    have vk := Rep.nk d k v e2 h1
    have hk := ok2.1
    cases vk with
    | num i => cases hk
    | @tup a js us g1 g2 =>
      have hd : (NestedKey.tup js).depth ≤ 8 := by
        cases js with
        | nil => cases hk
        | cons j js => exact of_decide_eq_true hk
      refine ⟨(a, .tup js) :: es, by rw [e1, q1]; rfl, by rw [List.map_cons, q2], fun e he => ?_⟩
      rcases List.mem_cons.mp he with rfl | he
      · exact ⟨toNK_int d _ h1, hd, .tup g1 g2⟩
      · exact q3 e he
theorem els_reps : ∀ (L : List SN.El), (∀ e ∈ L, DN.KeyOk K F e.2 e.1) → Reps K ct m F (L.map fun e => nkD e.2) (L.map fun e => V.ref e.1)
  | [], _ => rfl
  | e :: L, h => ⟨_, _, rfl, VKey.rep _ _ (h e (List.mem_cons_self ..)).2.2, els_reps L fun y hy => h y (List.mem_cons_of_mem _ hy)⟩
end
/-- sorted keys are told by their set -/
theorem sort_uniq {ks : List NestedKey} {L L1 : List SN.El} (ok : okK ks = true) (ik : ∀ k ∈ ks, DN.intKey k = true) (h1 : ∀ e ∈ L, e.2 ∈ ks) (h2 : ∀ k ∈ ks, k ∈ L.map (·.2)) (nd : (L.map (·.2)).Nodup) (pm : L1.Perm L) :
    (L1.mergeSort (PySem.W.dataLe false fun z => z.2.data)).map (·.2) = setK ks := by
  have al := (Bool.and_eq_true_iff.mp ok).1
  have e : (L1.mergeSort (PySem.W.dataLe false fun z => z.2.data)).map (·.2) = (L1.map (·.2)).mergeSort leK := (List.map_mergeSort (r := PySem.W.dataLe false fun z : SN.El => z.2.data) (f := fun z : SN.El => z.2) (s := leK) (l := L1) (fun _ _ _ _ => rfl))
  rw [e]
  have p1 : ((L1.map (·.2)).mergeSort leK).Perm (setK ks) := by
    refine (List.mergeSort_perm _ _).trans (((pm.map _).trans ?_).trans (List.mergeSort_perm _ _).symm)
    refine (List.perm_ext_iff_of_nodup nd (nodup_ddk ks)).mpr fun k => ?_
    rw [mem_ddk]
    exact ⟨fun hk => by
      obtain ⟨z, hz, rfl⟩ := List.mem_map.mp hk
      exact h1 z hz, h2 k⟩
  refine p1.eq_of_pairwise (le := fun a b => leK a b = true) (fun a b ha hb g1 g2 => ?_) (List.pairwise_mergeSort leK_trans leK_total _) (List.pairwise_mergeSort leK_trans leK_total _)
  have ha := mem_setK.mp (p1.mem_iff.mp ha)
  have hb := mem_setK.mp hb
  exact leK_anti (ik a ha) (ik b hb) (List.all_eq_true.mp (List.all_eq_true.mp al a ha) b hb) g1 g2
theorem toNKs_ik {ds : List D} {ks : List NestedKey} (h : toNKs ds = some ks) : ∀ k ∈ ks, DN.intKey k = true := by
  have := toNKs_int ds ks h
  clear h
  induction ks with
  | nil => intro k hk; cases hk
  | cons x ks ih =>
    obtain ⟨h1, h2⟩ := Bool.and_eq_true_iff.mp (show (DN.intKey x && DN.intKeys ks) = true from this)
    intro k hk
    rcases List.mem_cons.mp hk with rfl | hk
    · exact h1
    · exact ih h2 k hk
section
variable {ct : CT} {X : Cx} {k : Nat} {e : Expr} {fe : FE} {p p2 q pos : Pos}
theorem se_sortK (hc : X.calm = true) (hr : RoomG k X.A) (hg : Gl X "sorted") (hm : X.mg "sorted" = none) (hg2 : Gl X "set") (hm2 : X.mg "set" = none) (he : SE ct X e fe)
    (hs : starEach [e] X.env = (false, eval e X.env) :: starEach [] X.env := by rfl) (hpl : (backTo q (starEach [] X.env)).any (·.1) = false := by rfl)
    (hs2 : starEach [.Call (.Name "set" p2) [e] [] q] X.env = (false, eval (.Call (.Name "set" p2) [e] [] q) X.env) :: starEach [] X.env := by rfl) (hpl2 : (backTo pos (starEach [] X.env)).any (·.1) = false := by rfl) :
    SE ct X (.Call (.Name "sorted" p) [.Call (.Name "set" p2) [e] [] q] [] pos) (fSortK fe) := by
  obtain ⟨ta, pa, ra⟩ := he
  have p1 := pe_callTy (pos := q) (p := p2) ((SN.cr_setI hc hr.units).or (SN.cr_setK hc hr.units)) hg2 hm2 (by decide +kernel) (pa_cons pa pa_nil hs) (by decide) (by decide) hs hpl
  refine ⟨_, pe_callB (id := "sorted") ((cr_sortedSet hc).or (SN.cr_sortK hc hr.units)) hg hm (by decide +kernel) (pa_cons p1 pa_nil hs2) (by decide) (by decide) hs2 hpl2, fun m F S σ H env d S' Q s en h post => ?_⟩
  obtain ⟨⟨z, S1⟩, h1, h⟩ := bind_some h
  obtain ⟨ds, h2, h⟩ := bind_some h
  refine ra m F S σ H env _ _ _ s en h1 fun m1 F1 v H1 x1 s1 r1 => ?_
  obtain ⟨l, vs, e1, e2, e3⟩ := lst_at s1 r1 h2
  subst e1
  split at h
  · rename_i ns h3
    split at h
    case isFalse => cases h
    rename_i hlen
    cases h
    have hv := e3.asInts h3
    subst hv
    refine Or.inl ⟨l, ns, rfl, SqL.of e2, by omega, fun a c ha hc => ?_⟩
    obtain ⟨s2, x2⟩ := s1.frozen ha (SetO X.w a (fun j => decide (j ∈ ns)) c)
    refine Or.inl ⟨a, _, c, rfl, upd_same, by omega, fun ms q pw mem hml hq => ?_⟩
    have em : ms = isort leI (ddi ns) := by
      have a2 : (isort leI (ddi ns)).Pairwise (· < ·) := by
        have nd := (isort_perm leI (ddi ns)).nodup_iff.mpr (nodup_ddi ns)
        refine (List.Pairwise.and (isort_sorted tot_leI (ddi ns)) nd).imp fun {x y} hxy => ?_
        have h1 : x ≤ y := of_decide_eq_true hxy.1
        have h2 : x ≠ y := hxy.2
        omega
      have p1 : ms.Perm (isort leI (ddi ns)) := by
        refine (List.perm_ext_iff_of_nodup (pw.imp fun {x y} h => by omega) (a2.imp fun {x y} h => by omega)).mpr fun x => ?_
        rw [mem, decide_eq_true_eq, (isort_perm leI (ddi ns)).mem_iff, mem_ddi]
      exact p1.eq_of_pairwise (le := fun a b => a < b) (fun a b _ _ g1 g2 => by omega) pw a2
    subst em
    obtain ⟨s3, x3⟩ := s2.frozen hq (.lst ((isort leI (ddi ns)).map V.int))
    exact post m1 _ (.ref q) _ ((x1.trans x2).trans x3) s3 ⟨q, _, rfl, upd_same, Reps.ints _⟩
  · obtain ⟨ks, h4, h⟩ := bind_some h
    split at h
    case isFalse => cases h
    rename_i hok
    cases h
    obtain ⟨es, q1, q2, q3⟩ := keys_els e3 h4 hok.1
    subst q1
    have ik := toNKs_ik h4
    refine Or.inr ⟨l, es, rfl, SqL.of e2, fun e he => KeyOk.mono (q3 e he) s1.same, fun L nd sub => ?_, fun a L ha sub all nd => ?_⟩
    · have := nodup_in nd (nodup_ddk ks) fun x hx => by
        obtain ⟨z, hz, rfl⟩ := List.mem_map.mp hx
        rw [mem_ddk, ← q2]
        exact List.mem_map.mpr ⟨z, sub z hz, rfl⟩
      rw [List.length_map] at this
      omega
    · obtain ⟨s2, x2⟩ := s1.frozen ha (SN.SO X.w a L)
      have inn : ∀ e ∈ L, e.2 ∈ ks := fun e he => by
        rw [← q2]
        exact List.mem_map.mpr ⟨e, sub e he, rfl⟩
      have al := (Bool.and_eq_true_iff.mp hok.1).1
      have al2 := (Bool.and_eq_true_iff.mp hok.1).2
      refine Or.inr ⟨a, L, rfl, upd_same, fun e he => KeyOk.mono (KeyOk.mono (q3 e (sub e he)) x2.same) s2.same, fun d1 g1 d2 g2 => ?_, fun L1 pL => ?_, fun L1 q pL hq => ?_⟩
      · obtain ⟨e1, f1, rfl⟩ := List.mem_map.mp g1
        obtain ⟨e2, f2, rfl⟩ := List.mem_map.mp g2
        exact List.all_eq_true.mp (List.all_eq_true.mp al _ (inn e1 f1)) _ (inn e2 f2)
      · refine .inl fun d1 g1 => ?_
        obtain ⟨e1, f1, rfl⟩ := List.mem_map.mp g1
        have := List.all_eq_true.mp al2 _ (inn e1 (pL.mem_iff.mp f1))
        split at this
        · rename_i x xs e
          rw [e]
          exact ⟨_, _, rfl⟩
        · cases this
      · obtain ⟨s3, x3⟩ := s2.frozen hq (.lst ((L1.mergeSort (PySem.W.dataLe false fun z => z.2.data)).map fun z => V.ref z.1))
        have eu := sort_uniq hok.1 ik inn (fun k hk => by
          rw [← q2] at hk
          obtain ⟨z, hz, rfl⟩ := List.mem_map.mp hk
          exact all z hz) nd pL
        refine post m1 _ (.ref q) _ ((x1.trans x2).trans x3) s3 ⟨q, _, rfl, upd_same, ?_⟩
        have rp := els_reps (K := X.K) (ct := ct) (m := m1) (F := upd (upd F1 a (SN.SO X.w a L)) q (.lst ((L1.mergeSort (PySem.W.dataLe false fun z => z.2.data)).map fun z => V.ref z.1))) (L1.mergeSort (PySem.W.dataLe false fun z => z.2.data)) fun e he => KeyOk.mono (KeyOk.mono (q3 e (sub e (pL.mem_iff.mp ((List.mergeSort_perm _ _).mem_iff.mp he)))) x2.same) x3.same
        have er : ((L1.mergeSort (PySem.W.dataLe false fun z => z.2.data)).map fun e => nkD e.2) = (setK ks).map nkD := by
          rw [← eu, List.map_map]
          rfl
        rw [er] at rp
        exact rp
end
end DL
namespace LW
open PySem PySem.Spec PyProof.Rows L2 DL
structure Txt (w : World) (K : PySem.W.Frag) (mg : Str → Option Value) (ct : CT) (C_Thing : Addr) : Prop where
  n_abs : mg "abs" = none
  n_all : mg "all" = none
  n_bool : mg "bool" = none
  n_divmod : mg "divmod" = none
  n_int : mg "int" = none
  n_isinstance : mg "isinstance" = none
  n_len : mg "len" = none
  n_list : mg "list" = none
  n_max : mg "max" = none
  n_min : mg "min" = none
  n_range : mg "range" = none
  n_set : mg "set" = none
  n_sorted : mg "sorted" = none
  n_str : mg "str" = none
  n_tuple : mg "tuple" = none
  c_MOST_ASKED : CG mg "MOST_ASKED" (.int 10000000000000000000000000000000000000000)
  k_LEAST : KG w K mg "LEAST" tab_LEAST
  t_PLAIN : TG K mg "PLAIN" [.str "odd ring", .str "even ring"]
  kc_Thing : Klass K ct "Thing" C_Thing
  g_Thing : mg "Thing" = some (.ref C_Thing)
  na_Thing_many : NoAttr K C_Thing "many"
  na_Thing_word : NoAttr K C_Thing "word"
  d_is_integer : DefAt K mg "is_integer" (topS 12) ["value"]
  d_is_between : DefAt K mg "is_between" (topS 13) ["value", "least", "most"]
  d_check_people : DefAt K mg "check_people" (topS 14) ["people", "most"]
  d_pairs_of : DefAt K mg "pairs_of" (topS 17) ["many"]
  d_ring_size : DefAt K mg "ring_size" (topS 29) ["kind", "number"]
  d_fewest_people : DefAt K mg "fewest_people" (topS 30) ["kind", "number"]
  d_least_of : DefAt K mg "least_of" (topS 31) ["kind", "number", "people"]
  d_most_pairs : DefAt K mg "most_pairs" (topS 21) ["number", "people"]
  d_most_rings : DefAt K mg "most_rings" (topS 22) ["kind", "number", "people"]
  d_most_groups : DefAt K mg "most_groups" (topS 23) ["kind", "number", "people"]
  d_is_all_tied : DefAt K mg "is_all_tied" (topS 25) ["kind", "number", "people"]
  d_most_of : DefAt K mg "most_of" (topS 24) ["kind", "number", "people"]
  i_Thing : InitAt K C_Thing "Thing.__init__" (inClass (topS 32) 0) ["self", "kind", "size"] [.non]
  m_Thing_fate : MethAt K C_Thing "fate" "Thing.fate" (inClass (topS 32) 10) ["self", "people", "count"] [(["count", "people"], [1, 0])]
  d__law_purse : DefAt K mg "_law_purse" (topS 35) ["_law_script", "_law_spot"]
  d__law_draw : DefAt K mg "_law_draw" (topS 36) ["_law_purse_here", "_law_many"]
  d__law_all : DefAt K mg "_law_all" (topS 37) ["_law_many"]
  d__law_tied : DefAt K mg "_law_tied" (topS 38) ["_law_ties", "_law_x", "_law_y"]
  d__law_subsets : DefAt K mg "_law_subsets" (topS 39) ["_law_row"]
  d__law_joined : DefAt K mg "_law_joined" (topS 40) ["_law_ties", "_law_left"]
  d__law_rows_of : DefAt K mg "_law_rows_of" (topS 41) ["_law_many", "_law_ties", "_law_tally"]
  d__law_rings : DefAt K mg "_law_rings" (topS 42) ["_law_many", "_law_ties"]
  d__law_pairs_apart : DefAt K mg "_law_pairs_apart" (topS 43) ["_law_ties"]
  d__law_is_crowd : DefAt K mg "_law_is_crowd" (topS 49) ["_law_part", "_law_ties"]
  d__law_core : DefAt K mg "_law_core" (topS 45) ["_law_ties", "_law_folk", "_law_k"]
  d__law_holds : DefAt K mg "_law_holds" (topS 44) ["_law_kind", "_law_k", "_law_many", "_law_ties"]
  d__law_things : DefAt K mg "_law_things" (topS 46) ["_law_most_here"]
  d__law_two : DefAt K mg "_law_two" (topS 47) ["_law_many"]
  d__law_most : DefAt K mg "_law_most" (topS 48) ["_law_kind", "_law_k", "_law_n"]
  d__law_fewest : DefAt K mg "_law_fewest" (topS 50) ["_law_kind", "_law_k"]
  d__law_least : DefAt K mg "_law_least" (topS 51) ["_law_kind", "_law_k", "_law_n"]
  d__law_fate : DefAt K mg "_law_fate" (topS 52) ["_law_sort", "_law_k", "_law_many", "_law_tally"]
  d__law_is_right : DefAt K mg "_law_is_right" (topS 53) ["_law_sort", "_law_k", "_law_many"]
  d__law_far_right : DefAt K mg "_law_far_right" (topS 54) ["_law_purse_here", "_law_sort", "_law_k"]
  d__law_right : DefAt K mg "_law_right" (topS 55) ["_law_purse_here"]
  d_law : DefAt K mg "law" (topS 56) ["_law_script"]
variable {P : Program} {w : World} {K : PySem.W.Frag} {mg : Str → Option Value} {base : Heap} {ct : CT}
theorem sc_is_integer : FnScope ["value"] ["value"] (defScope s_is_integer) := ⟨rfl, rfl, rfl, by decide +kernel, rfl, by decide +kernel, by decide +kernel⟩
def b_is_integer : FS :=
  (sRet (fAnd (fIsi "int" (fVar 0)) (fNot (fIsi "bool" (fVar 0)))))
def d_is_integer : FD := runD 1 (b_is_integer)
theorem ok_is_integer {k : Nat} (T : Txt w K mg ct C_Thing) : Callee P w K mg base ct (k + 1) "is_integer" 1 (d_is_integer) :=
  callee_of T.d_is_integer sc_is_integer fun f cdv A outer s H E hr =>
    (sss_one (ss_ret (se_and (se_isi (by rfl) T.n_isinstance (se_var 0) (by rfl) T.n_int (by decide +kernel)) (se_one (se_not (se_isi (by rfl) T.n_isinstance (se_var 0) (by rfl) T.n_bool (by decide +kernel)))))))
theorem sc_is_between : FnScope ["value", "least", "most"] ["value", "least", "most"] (defScope s_is_between) := ⟨rfl, rfl, rfl, by decide +kernel, rfl, by decide +kernel, by decide +kernel⟩
def b_is_between (c_is_integer : FD) : FS :=
  (sRet (fAnd (fCall c_is_integer (fCons (fVar 0) fNil)) (fChain gLeX gLeX (fVar 1) (fVar 0) (fVar 2))))
def d_is_between (c_is_integer : FD) : FD := runD 3 (b_is_between c_is_integer)
theorem ok_is_between {c_is_integer : FD} {k : Nat} (T : Txt w K mg ct C_Thing) (C_is_integer : Callee P w K mg base ct k "is_integer" 1 c_is_integer) : Callee P w K mg base ct (k + 1) "is_between" 3 (d_is_between c_is_integer) :=
  callee_of T.d_is_between sc_is_between fun f cdv A outer s H E hr =>
    (sss_one (ss_ret (se_and (se_fn C_is_integer hr (by rfl) (sa_cons (se_var 0) sa_nil) (fCons_len (fun _ _ _ _ h => fNil_len h))) (se_one (se_chain (op_leX hr) od_leX (op_leX hr) od_leX (se_var 1) (se_var 0) (se_var 2))))))
theorem sc_check_people : FnScope ["people", "most"] ["people", "most"] (defScope s_check_people) := ⟨rfl, rfl, rfl, by decide +kernel, rfl, by decide +kernel, by decide +kernel⟩
def b_check_people (c_is_integer : FD) : FS :=
  (sSeq (sIf (tOrD (tNotD (fTest (fCall c_is_integer (fCons (fVar 0) fNil)))) (fTest (fBin gLtX (fVar 0) (fC (.int 0))))) sNever sSkip)
    (sIf (fTest (fBin gGt (fVar 0) (fVar 1))) sNever sSkip))
def d_check_people (c_is_integer : FD) : FD := runD 2 (b_check_people c_is_integer)
theorem ok_check_people {c_is_integer : FD} {k : Nat} (T : Txt w K mg ct C_Thing) (C_is_integer : Callee P w K mg base ct k "is_integer" 1 c_is_integer) : Callee P w K mg base ct (k + 1) "check_people" 2 (d_check_people c_is_integer) :=
  callee_of T.d_check_people sc_check_people fun f cdv A outer s H E hr =>
    (sss_cons (ss_if (SW.st (sw_or (st_not (st_val (se_fn C_is_integer hr (by rfl) (sa_cons (se_var 0) sa_nil) (fCons_len (fun _ _ _ _ h => fNil_len h))))) (sw_or1 (st_cmp (op_ltX hr) od_ltX (se_var 0) se_int (nomark _))))) (sss_one ss_never) sss_nil)
      (sss_one (ss_if (st_cmp op_gt od_gt (se_var 0) (se_var 1) (nomark _)) (sss_one ss_never) sss_nil)))
theorem sc_pairs_of : FnScope ["many"] ["many"] (defScope s_pairs_of) := ⟨rfl, rfl, rfl, by decide +kernel, rfl, by decide +kernel, by decide +kernel⟩
def b_pairs_of : FS :=
  (sRet (fBin gFdiv (fBin gMul (fVar 0) (fBin gSubI (fVar 0) (fC (.int 1)))) (fC (.int 2))))
def d_pairs_of : FD := runD 1 (b_pairs_of)
theorem ok_pairs_of {k : Nat} (T : Txt w K mg ct C_Thing) : Callee P w K mg base ct (k + 1) "pairs_of" 1 (d_pairs_of) :=
  callee_of T.d_pairs_of sc_pairs_of fun f cdv A outer s H E hr =>
    (sss_one (ss_ret (se_op op_fdivW od_fdiv (se_op op_mulW od_mul (se_var 0) (se_op op_sub od_sub (se_var 0) se_int)) se_int)))
theorem sc_ring_size : FnScope ["kind", "number"] ["kind", "number"] (defScope s_ring_size) := ⟨rfl, rfl, rfl, by decide +kernel, rfl, by decide +kernel, by decide +kernel⟩
def b_ring_size : FS :=
  (sRet (fIf (fTest (fBin gEq (fVar 0) (fC (.str "ring")))) (fVar 1) (fIf (fTest (fBin gEq (fVar 0) (fC (.str "odd ring")))) (fC (.int 3)) (fC (.int 4)))))
def d_ring_size : FD := runD 2 (b_ring_size)
theorem ok_ring_size {k : Nat} (T : Txt w K mg ct C_Thing) : Callee P w K mg base ct (k + 1) "ring_size" 2 (d_ring_size) :=
  callee_of T.d_ring_size sc_ring_size fun f cdv A outer s H E hr =>
    (sss_one (ss_ret (se_if (st_cmp (op_eqAll hr) od_eq (se_var 0) se_str (nomark _)) (se_var 1) (se_if (st_cmp (op_eqAll hr) od_eq (se_var 0) se_str (nomark _)) se_int se_int))))
theorem sc_fewest_people : FnScope ["kind", "number"] ["kind", "number"] (defScope s_fewest_people) := ⟨rfl, rfl, rfl, by decide +kernel, rfl, by decide +kernel, by decide +kernel⟩
def b_fewest_people (c_ring_size : FD) : FS :=
  (sSeq (sIf (fTest (fBin (gInX false) (fC (.str "ring")) (fVar 0))) (sRet (fCall c_ring_size (fCons (fVar 0) (fCons (fVar 1) fNil)))) sSkip)
    (sSeq (sIf (fTest (fBin gEq (fVar 0) (fC (.str "pairs")))) (sRet (fBin gMul (fC (.int 2)) (fVar 1))) sSkip)
    (sRet (fIf (fTest (fBin (gInX false) (fVar 0) (fTup (fCons (fC (.str "crowd")) (fCons (fC (.str "row")) fNil))))) (fVar 1) (fBin gAddX (fVar 1) (fC (.int 1)))))))
def d_fewest_people (c_ring_size : FD) : FD := runD 2 (b_fewest_people c_ring_size)
theorem ok_fewest_people {c_ring_size : FD} {k : Nat} (T : Txt w K mg ct C_Thing) (C_ring_size : Callee P w K mg base ct k "ring_size" 2 c_ring_size) : Callee P w K mg base ct (k + 1) "fewest_people" 2 (d_fewest_people c_ring_size) :=
  callee_of T.d_fewest_people sc_fewest_people fun f cdv A outer s H E hr =>
    (sss_cons (ss_if (st_cmp (op_inX hr) od_inX se_str (se_var 0) (by rfl)) (sss_one (ss_ret (se_fn C_ring_size hr (by rfl) (sa_cons (se_var 0) (sa_cons (se_var 1) sa_nil)) (fCons_len (fCons_len (fun _ _ _ _ h => fNil_len h)))))) sss_nil)
      (sss_cons (ss_if (st_cmp (op_eqAll hr) od_eq (se_var 0) se_str (nomark _)) (sss_one (ss_ret (se_op op_mulW od_mul se_int (se_var 1)))) sss_nil)
      (sss_one (ss_ret (se_if (st_cmp (op_inX hr) od_inX (se_var 0) (se_tup (sa_cons se_str (sa_cons se_str sa_nil))) (by rfl)) (se_var 1) (se_op op_addX od_addX (se_var 1) se_int))))))
theorem sc_least_of : FnScope ["kind", "number", "people"] ["kind", "number", "people"] (defScope s_least_of) := ⟨rfl, rfl, rfl, by decide +kernel, rfl, by decide +kernel, by decide +kernel⟩
def b_least_of (c_pairs_of : FD) (c_ring_size : FD) (c_fewest_people : FD) : FS :=
  (sSeq (sIf (fTest (fBin gLtX (fVar 2) (fCall c_fewest_people (fCons (fVar 0) (fCons (fVar 1) fNil))))) (sRet (fC .non)) sSkip)
    (sSeq (sIf (fTest (fBin gEq (fVar 0) (fC (.str "linked")))) (sRet (fIf (fTest (fBin gEq (fVar 1) (fC (.int 1)))) (fBin gSubI (fVar 2) (fC (.int 1))) (fBin gFdiv (fBin gAddX (fBin gMul (fVar 2) (fVar 1)) (fC (.int 1))) (fC (.int 2))))) sSkip)
    (sSeq (sIf (fTest (fBin (gInX false) (fVar 0) (fTup (fCons (fC (.str "star")) (fCons (fC (.str "pairs")) fNil))))) (sRet (fVar 1)) sSkip)
    (sSeq (sIf (fTest (fBin (gInX false) (fC (.str "ring")) (fVar 0))) (sRet (fCall c_ring_size (fCons (fVar 0) (fCons (fVar 1) fNil)))) sSkip)
    (sSeq (sIf (fTest (fBin gEq (fVar 0) (fC (.str "row")))) (sRet (fBin gSubI (fVar 1) (fC (.int 1)))) sSkip)
    (sRet (fIf (fTest (fBin gEq (fVar 0) (fC (.str "crowd")))) (fCall c_pairs_of (fCons (fVar 1) fNil)) (fCall c_pairs_of (fCons (fBin gAddX (fVar 1) (fC (.int 1))) fNil)))))))))
def d_least_of (c_pairs_of : FD) (c_ring_size : FD) (c_fewest_people : FD) : FD := runD 3 (b_least_of c_pairs_of c_ring_size c_fewest_people)
theorem ok_least_of {c_pairs_of : FD} {c_ring_size : FD} {c_fewest_people : FD} {k : Nat} (T : Txt w K mg ct C_Thing) (C_pairs_of : Callee P w K mg base ct k "pairs_of" 1 c_pairs_of) (C_ring_size : Callee P w K mg base ct k "ring_size" 2 c_ring_size) (C_fewest_people : Callee P w K mg base ct k "fewest_people" 2 c_fewest_people) : Callee P w K mg base ct (k + 1) "least_of" 3 (d_least_of c_pairs_of c_ring_size c_fewest_people) :=
  callee_of T.d_least_of sc_least_of fun f cdv A outer s H E hr =>
    (sss_cons (ss_if (st_cmp (op_ltX hr) od_ltX (se_var 2) (se_fn C_fewest_people hr (by rfl) (sa_cons (se_var 0) (sa_cons (se_var 1) sa_nil)) (fCons_len (fCons_len (fun _ _ _ _ h => fNil_len h)))) (nomark _)) (sss_one (ss_ret se_non)) sss_nil)
      (sss_cons (ss_if (st_cmp (op_eqAll hr) od_eq (se_var 0) se_str (nomark _)) (sss_one (ss_ret (se_if (st_cmp (op_eqAll hr) od_eq (se_var 1) se_int (nomark _)) (se_op op_sub od_sub (se_var 2) se_int) (se_op op_fdivW od_fdiv (se_op op_addX od_addX (se_op op_mulW od_mul (se_var 2) (se_var 1)) se_int) se_int)))) sss_nil)
      (sss_cons (ss_if (st_cmp (op_inX hr) od_inX (se_var 0) (se_tup (sa_cons se_str (sa_cons se_str sa_nil))) (by rfl)) (sss_one (ss_ret (se_var 1))) sss_nil)
      (sss_cons (ss_if (st_cmp (op_inX hr) od_inX se_str (se_var 0) (by rfl)) (sss_one (ss_ret (se_fn C_ring_size hr (by rfl) (sa_cons (se_var 0) (sa_cons (se_var 1) sa_nil)) (fCons_len (fCons_len (fun _ _ _ _ h => fNil_len h)))))) sss_nil)
      (sss_cons (ss_if (st_cmp (op_eqAll hr) od_eq (se_var 0) se_str (nomark _)) (sss_one (ss_ret (se_op op_sub od_sub (se_var 1) se_int))) sss_nil)
      (sss_one (ss_ret (se_if (st_cmp (op_eqAll hr) od_eq (se_var 0) se_str (nomark _)) (se_fn C_pairs_of hr (by rfl) (sa_cons (se_var 1) sa_nil) (fCons_len (fun _ _ _ _ h => fNil_len h))) (se_fn C_pairs_of hr (by rfl) (sa_cons (se_op op_addX od_addX (se_var 1) se_int) sa_nil) (fCons_len (fun _ _ _ _ h => fNil_len h)))))))))))
theorem sc_most_pairs : FnScope ["number", "people"] ["number", "people"] (defScope s_most_pairs) := ⟨rfl, rfl, rfl, by decide +kernel, rfl, by decide +kernel, by decide +kernel⟩
def b_most_pairs (c_pairs_of : FD) : FS :=
  (sRet (fTup (fCons (fCall c_pairs_of (fCons (fBin gSubI (fBin gMul (fC (.int 2)) (fVar 0)) (fC (.int 1))) fNil)) (fCons (fBin gAddX (fCall c_pairs_of (fCons (fBin gSubI (fVar 0) (fC (.int 1))) fNil)) (fBin gMul (fBin gSubI (fVar 0) (fC (.int 1))) (fBin gAddX (fBin gSubI (fVar 1) (fVar 0)) (fC (.int 1))))) fNil))))
def d_most_pairs (c_pairs_of : FD) : FD := runD 2 (b_most_pairs c_pairs_of)
theorem ok_most_pairs {c_pairs_of : FD} {k : Nat} (T : Txt w K mg ct C_Thing) (C_pairs_of : Callee P w K mg base ct k "pairs_of" 1 c_pairs_of) : Callee P w K mg base ct (k + 1) "most_pairs" 2 (d_most_pairs c_pairs_of) :=
  callee_of T.d_most_pairs sc_most_pairs fun f cdv A outer s H E hr =>
    (sss_one (ss_ret (se_tup (sa_cons (se_fn C_pairs_of hr (by rfl) (sa_cons (se_op op_sub od_sub (se_op op_mulW od_mul se_int (se_var 0)) se_int) sa_nil) (fCons_len (fun _ _ _ _ h => fNil_len h))) (sa_cons (se_op op_addX od_addX (se_fn C_pairs_of hr (by rfl) (sa_cons (se_op op_sub od_sub (se_var 0) se_int) sa_nil) (fCons_len (fun _ _ _ _ h => fNil_len h))) (se_op op_mulW od_mul (se_op op_sub od_sub (se_var 0) se_int) (se_op op_addX od_addX (se_op op_sub od_sub (se_var 1) (se_var 0)) se_int))) sa_nil)))))
theorem sc_most_rings : FnScope ["kind", "number", "people", "blocks", "rest"] ["kind", "number", "people"] (defScope s_most_rings) := ⟨rfl, rfl, rfl, by decide +kernel, rfl, by decide +kernel, by decide +kernel⟩
def b_most_rings (c_pairs_of : FD) : FS :=
  (sSeq (sIf (fTest (fBin gEq (fVar 2) (fC (.int 0)))) (sRet (fC (.int 0))) sSkip)
    (sSeq (sIf (fTest (fBin gEq (fVar 0) (fC (.str "ring")))) (sSeq (sPar 3 4 (fCons (fBin gFdiv (fBin gSubI (fVar 2) (fC (.int 1))) (fBin gSubI (fVar 1) (fC (.int 2)))) (fCons (fBin gMod (fBin gSubI (fVar 2) (fC (.int 1))) (fBin gSubI (fVar 1) (fC (.int 2)))) fNil)))
    (sRet (fBin gAddX (fBin gMul (fVar 3) (fCall c_pairs_of (fCons (fBin gSubI (fVar 1) (fC (.int 1))) fNil))) (fCall c_pairs_of (fCons (fBin gAddX (fVar 4) (fC (.int 1))) fNil))))) sSkip)
    (sRet (fIf (fTest (fBin gEq (fVar 0) (fC (.str "odd ring")))) (fBin gFdiv (fBin gMul (fVar 2) (fVar 2)) (fC (.int 4))) (fBin gFdiv (fBin gMul (fC (.int 3)) (fBin gSubI (fVar 2) (fC (.int 1)))) (fC (.int 2)))))))
def d_most_rings (c_pairs_of : FD) : FD := runD 5 (b_most_rings c_pairs_of)
theorem ok_most_rings {c_pairs_of : FD} {k : Nat} (T : Txt w K mg ct C_Thing) (C_pairs_of : Callee P w K mg base ct k "pairs_of" 1 c_pairs_of) : Callee P w K mg base ct (k + 1) "most_rings" 3 (d_most_rings c_pairs_of) :=
  callee_of T.d_most_rings sc_most_rings fun f cdv A outer s H E hr =>
    (sss_cons (ss_if (st_cmp (op_eqAll hr) od_eq (se_var 2) se_int (nomark _)) (sss_one (ss_ret se_int)) sss_nil)
      (sss_cons (ss_if (st_cmp (op_eqAll hr) od_eq (se_var 0) se_str (nomark _)) (sss_cons (ss_par (i := 3) (j := 4) (fun ta h => ps_par rfl sc_most_rings.nd rfl rfl (by decide) rfl rfl h (by rfl)) (sa_cons (se_op op_fdivW od_fdiv (se_op op_sub od_sub (se_var 2) se_int) (se_op op_sub od_sub (se_var 1) se_int)) (sa_cons (se_op op_mod od_mod (se_op op_sub od_sub (se_var 2) se_int) (se_op op_sub od_sub (se_var 1) se_int)) sa_nil)))
      (sss_one (ss_ret (se_op op_addX od_addX (se_op op_mulW od_mul (se_var 3) (se_fn C_pairs_of hr (by rfl) (sa_cons (se_op op_sub od_sub (se_var 1) se_int) sa_nil) (fCons_len (fun _ _ _ _ h => fNil_len h)))) (se_fn C_pairs_of hr (by rfl) (sa_cons (se_op op_addX od_addX (se_var 4) se_int) sa_nil) (fCons_len (fun _ _ _ _ h => fNil_len h))))))) sss_nil)
      (sss_one (ss_ret (se_if (st_cmp (op_eqAll hr) od_eq (se_var 0) se_str (nomark _)) (se_op op_fdivW od_fdiv (se_op op_mulW od_mul (se_var 2) (se_var 2)) se_int) (se_op op_fdivW od_fdiv (se_op op_mulW od_mul se_int (se_op op_sub od_sub (se_var 2) se_int)) se_int))))))
theorem sc_most_groups : FnScope ["kind", "number", "people", "size", "rest"] ["kind", "number", "people"] (defScope s_most_groups) := ⟨rfl, rfl, rfl, by decide +kernel, rfl, by decide +kernel, by decide +kernel⟩
def b_most_groups (c_pairs_of : FD) : FS :=
  (sSeq (sIf (fTest (fBin gEq (fVar 0) (fC (.str "star")))) (sRet (fCall cMin2 (fCons (fCall c_pairs_of (fCons (fVar 2) fNil)) (fCons (fBin gFdiv (fBin gMul (fVar 2) (fBin gSubI (fVar 1) (fC (.int 1)))) (fC (.int 2))) fNil)))) sSkip)
    (sSeq (sPar 3 4 (fCons (fBin gFdiv (fVar 2) (fBin gSubI (fVar 1) (fC (.int 1)))) (fCons (fBin gMod (fVar 2) (fBin gSubI (fVar 1) (fC (.int 1)))) fNil)))
    (sSeq (sIf (fTest (fBin gEq (fVar 0) (fC (.str "row")))) (sRet (fBin gAddX (fBin gMul (fVar 3) (fCall c_pairs_of (fCons (fBin gSubI (fVar 1) (fC (.int 1))) fNil))) (fCall c_pairs_of (fCons (fVar 4) fNil)))) sSkip)
    (sRet (fBin gSubI (fBin gSubI (fCall c_pairs_of (fCons (fVar 2) fNil)) (fBin gMul (fVar 4) (fCall c_pairs_of (fCons (fBin gAddX (fVar 3) (fC (.int 1))) fNil)))) (fBin gMul (fBin gSubI (fBin gSubI (fVar 1) (fC (.int 1))) (fVar 4)) (fCall c_pairs_of (fCons (fVar 3) fNil))))))))
def d_most_groups (c_pairs_of : FD) : FD := runD 5 (b_most_groups c_pairs_of)
theorem ok_most_groups {c_pairs_of : FD} {k : Nat} (T : Txt w K mg ct C_Thing) (C_pairs_of : Callee P w K mg base ct k "pairs_of" 1 c_pairs_of) : Callee P w K mg base ct (k + 1) "most_groups" 3 (d_most_groups c_pairs_of) :=
  callee_of T.d_most_groups sc_most_groups fun f cdv A outer s H E hr =>
    (sss_cons (ss_if (st_cmp (op_eqAll hr) od_eq (se_var 0) se_str (nomark _)) (sss_one (ss_ret (se_callB (call_min2 rfl) cd_min2 (by rfl) T.n_min (by decide +kernel) (sa_cons (se_fn C_pairs_of hr (by rfl) (sa_cons (se_var 2) sa_nil) (fCons_len (fun _ _ _ _ h => fNil_len h))) (sa_cons (se_op op_fdivW od_fdiv (se_op op_mulW od_mul (se_var 2) (se_op op_sub od_sub (se_var 1) se_int)) se_int) sa_nil))))) sss_nil)
      (sss_cons (ss_par (i := 3) (j := 4) (fun ta h => ps_par rfl sc_most_groups.nd rfl rfl (by decide) rfl rfl h (by rfl)) (sa_cons (se_op op_fdivW od_fdiv (se_var 2) (se_op op_sub od_sub (se_var 1) se_int)) (sa_cons (se_op op_mod od_mod (se_var 2) (se_op op_sub od_sub (se_var 1) se_int)) sa_nil)))
      (sss_cons (ss_if (st_cmp (op_eqAll hr) od_eq (se_var 0) se_str (nomark _)) (sss_one (ss_ret (se_op op_addX od_addX (se_op op_mulW od_mul (se_var 3) (se_fn C_pairs_of hr (by rfl) (sa_cons (se_op op_sub od_sub (se_var 1) se_int) sa_nil) (fCons_len (fun _ _ _ _ h => fNil_len h)))) (se_fn C_pairs_of hr (by rfl) (sa_cons (se_var 4) sa_nil) (fCons_len (fun _ _ _ _ h => fNil_len h)))))) sss_nil)
      (sss_one (ss_ret (se_op op_sub od_sub (se_op op_sub od_sub (se_fn C_pairs_of hr (by rfl) (sa_cons (se_var 2) sa_nil) (fCons_len (fun _ _ _ _ h => fNil_len h))) (se_op op_mulW od_mul (se_var 4) (se_fn C_pairs_of hr (by rfl) (sa_cons (se_op op_addX od_addX (se_var 3) se_int) sa_nil) (fCons_len (fun _ _ _ _ h => fNil_len h))))) (se_op op_mulW od_mul (se_op op_sub od_sub (se_op op_sub od_sub (se_var 1) se_int) (se_var 4)) (se_fn C_pairs_of hr (by rfl) (sa_cons (se_var 3) sa_nil) (fCons_len (fun _ _ _ _ h => fNil_len h))))))))))
theorem sc_is_all_tied : FnScope ["kind", "number", "people"] ["kind", "number", "people"] (defScope s_is_all_tied) := ⟨rfl, rfl, rfl, by decide +kernel, rfl, by decide +kernel, by decide +kernel⟩
def b_is_all_tied : FS :=
  (sSeq (sIf (fTest (fBin gEq (fVar 0) (fC (.str "pairs")))) (sRet (fBin gLtX (fVar 2) (fBin gMul (fC (.int 2)) (fVar 1)))) sSkip)
    (sRet (fIf (fTest (fBin gEq (fVar 0) (fC (.str "core")))) (fBin gLtX (fVar 2) (fVar 1)) (fBin gLeX (fVar 2) (fVar 1)))))
def d_is_all_tied : FD := runD 3 (b_is_all_tied)
theorem ok_is_all_tied {k : Nat} (T : Txt w K mg ct C_Thing) : Callee P w K mg base ct (k + 1) "is_all_tied" 3 (d_is_all_tied) :=
  callee_of T.d_is_all_tied sc_is_all_tied fun f cdv A outer s H E hr =>
    (sss_cons (ss_if (st_cmp (op_eqAll hr) od_eq (se_var 0) se_str (nomark _)) (sss_one (ss_ret (se_cmp (op_ltX hr) od_ltX (se_var 2) (se_op op_mulW od_mul se_int (se_var 1)) (nomark _)))) sss_nil)
      (sss_one (ss_ret (se_if (st_cmp (op_eqAll hr) od_eq (se_var 0) se_str (nomark _)) (se_cmp (op_ltX hr) od_ltX (se_var 2) (se_var 1) (nomark _)) (se_cmp (op_leX hr) od_leX (se_var 2) (se_var 1) (nomark _))))))
theorem sc_most_of : FnScope ["kind", "number", "people"] ["kind", "number", "people"] (defScope s_most_of) := ⟨rfl, rfl, rfl, by decide +kernel, rfl, by decide +kernel, by decide +kernel⟩
def b_most_of (c_pairs_of : FD) (c_most_pairs : FD) (c_is_all_tied : FD) (c_most_groups : FD) (c_most_rings : FD) : FS :=
  (sSeq (sIf (fTest (fBin (gInX false) (fC (.str "ring")) (fVar 0))) (sRet (fCall c_most_rings (fCons (fVar 0) (fCons (fVar 1) (fCons (fVar 2) fNil))))) sSkip)
    (sSeq (sIf (fTest (fBin (gInX false) (fVar 0) (fTup (fCons (fC (.str "crowd")) (fCons (fC (.str "star")) (fCons (fC (.str "row")) fNil)))))) (sRet (fCall c_most_groups (fCons (fVar 0) (fCons (fVar 1) (fCons (fVar 2) fNil))))) sSkip)
    (sSeq (sIf (fTest (fCall c_is_all_tied (fCons (fVar 0) (fCons (fVar 1) (fCons (fVar 2) fNil))))) (sRet (fCall c_pairs_of (fCons (fVar 2) fNil))) sSkip)
    (sSeq (sIf (fTest (fBin gEq (fVar 0) (fC (.str "pairs")))) (sRet (fCall cMaxT (fCons (fCall c_most_pairs (fCons (fVar 1) (fCons (fVar 2) fNil))) fNil))) sSkip)
    (sSeq (sIf (fTest (fBin gEq (fVar 0) (fC (.str "core")))) (sRet (fBin gSubI (fBin gMul (fBin gSubI (fVar 1) (fC (.int 1))) (fVar 2)) (fCall c_pairs_of (fCons (fVar 1) fNil)))) sSkip)
    (sRet (fBin gSubI (fBin gAddX (fCall c_pairs_of (fCons (fBin gSubI (fVar 2) (fC (.int 1))) fNil)) (fVar 1)) (fC (.int 1)))))))))
def d_most_of (c_pairs_of : FD) (c_most_pairs : FD) (c_is_all_tied : FD) (c_most_groups : FD) (c_most_rings : FD) : FD := runD 3 (b_most_of c_pairs_of c_most_pairs c_is_all_tied c_most_groups c_most_rings)
theorem ok_most_of {c_pairs_of : FD} {c_most_pairs : FD} {c_is_all_tied : FD} {c_most_groups : FD} {c_most_rings : FD} {k : Nat} (T : Txt w K mg ct C_Thing) (C_pairs_of : Callee P w K mg base ct k "pairs_of" 1 c_pairs_of) (C_most_pairs : Callee P w K mg base ct k "most_pairs" 2 c_most_pairs) (C_is_all_tied : Callee P w K mg base ct k "is_all_tied" 3 c_is_all_tied) (C_most_groups : Callee P w K mg base ct k "most_groups" 3 c_most_groups) (C_most_rings : Callee P w K mg base ct k "most_rings" 3 c_most_rings) : Callee P w K mg base ct (k + 1) "most_of" 3 (d_most_of c_pairs_of c_most_pairs c_is_all_tied c_most_groups c_most_rings) :=
  callee_of T.d_most_of sc_most_of fun f cdv A outer s H E hr =>
    (sss_cons (ss_if (st_cmp (op_inX hr) od_inX se_str (se_var 0) (by rfl)) (sss_one (ss_ret (se_fn C_most_rings hr (by rfl) (sa_cons (se_var 0) (sa_cons (se_var 1) (sa_cons (se_var 2) sa_nil))) (fCons_len (fCons_len (fCons_len (fun _ _ _ _ h => fNil_len h))))))) sss_nil)
      (sss_cons (ss_if (st_cmp (op_inX hr) od_inX (se_var 0) (se_tup (sa_cons se_str (sa_cons se_str (sa_cons se_str sa_nil)))) (by rfl)) (sss_one (ss_ret (se_fn C_most_groups hr (by rfl) (sa_cons (se_var 0) (sa_cons (se_var 1) (sa_cons (se_var 2) sa_nil))) (fCons_len (fCons_len (fCons_len (fun _ _ _ _ h => fNil_len h))))))) sss_nil)
      (sss_cons (ss_if (st_val (se_fn C_is_all_tied hr (by rfl) (sa_cons (se_var 0) (sa_cons (se_var 1) (sa_cons (se_var 2) sa_nil))) (fCons_len (fCons_len (fCons_len (fun _ _ _ _ h => fNil_len h)))))) (sss_one (ss_ret (se_fn C_pairs_of hr (by rfl) (sa_cons (se_var 2) sa_nil) (fCons_len (fun _ _ _ _ h => fNil_len h))))) sss_nil)
      (sss_cons (ss_if (st_cmp (op_eqAll hr) od_eq (se_var 0) se_str (nomark _)) (sss_one (ss_ret (se_callB (cr_maxT rfl) cd_maxT (by rfl) T.n_max (by decide +kernel) (sa_cons (se_fn C_most_pairs hr (by rfl) (sa_cons (se_var 1) (sa_cons (se_var 2) sa_nil)) (fCons_len (fCons_len (fun _ _ _ _ h => fNil_len h)))) sa_nil)))) sss_nil)
      (sss_cons (ss_if (st_cmp (op_eqAll hr) od_eq (se_var 0) se_str (nomark _)) (sss_one (ss_ret (se_op op_sub od_sub (se_op op_mulW od_mul (se_op op_sub od_sub (se_var 1) se_int) (se_var 2)) (se_fn C_pairs_of hr (by rfl) (sa_cons (se_var 1) sa_nil) (fCons_len (fun _ _ _ _ h => fNil_len h)))))) sss_nil)
      (sss_one (ss_ret (se_op op_sub od_sub (se_op op_addX od_addX (se_fn C_pairs_of hr (by rfl) (sa_cons (se_op op_sub od_sub (se_var 2) se_int) sa_nil) (fCons_len (fun _ _ _ _ h => fNil_len h))) (se_var 1)) se_int))))))))
theorem sc_Thing___init__ : FnScope ["self", "kind", "size"] ["self", "kind", "size"] (defScope s_Thing___init__) := ⟨rfl, rfl, rfl, by decide +kernel, rfl, by decide +kernel, by decide +kernel⟩
def b_Thing___init__ (c_is_between : FD) : FS :=
  (sSeq (sIf (tOrD (tNotD (fTest (fIsi "str" (fVar 1)))) (tAndD (fTest (fKIn true tab_LEAST (fVar 1))) (fTest (fBin (gInX true) (fVar 1) (fC (.tup [.str "odd ring", .str "even ring"])))))) sNever sSkip)
    (sSeq (sIf (tOrD (tAndD (fTest (fBin (gInX false) (fVar 1) (fC (.tup [.str "odd ring", .str "even ring"])))) (fTest (fBin gNotN (fVar 2) (fC .non)))) (tAndD (fTest (fKIn false tab_LEAST (fVar 1))) (tNotD (fTest (fCall c_is_between (fCons (fVar 2) (fCons (fKIx tab_LEAST (fVar 1)) (fCons (fC (.int 10000000000000000000000000000000000000000)) fNil)))))))) sNever sSkip)
    (sSeq (sFldD "Thing" "word" (fVar 0) (fVar 1))
    (sFldD "Thing" "many" (fVar 0) (fVar 2)))))
def d_Thing___init__ (c_is_between : FD) : FD := runD 3 (b_Thing___init__ c_is_between)
theorem ok_Thing___init__ {c_is_between : FD} {k : Nat} (T : Txt w K mg ct C_Thing) (C_is_between : Callee P w K mg base ct k "is_between" 3 c_is_between) : Initer P w K mg base ct (k + 1) "Thing" [.non] 3 (d_Thing___init__ c_is_between) :=
  initer_of T.kc_Thing T.g_Thing T.i_Thing sc_Thing___init__ fun f cdv A outer s H E hr =>
    (sss_cons (ss_if (SW.st (sw_or (st_not (st_val (se_isi (by rfl) T.n_isinstance (se_var 1) (by rfl) T.n_str (by decide +kernel)))) (sw_or1 (SW.st (sw_and (st_knotinG T.k_LEAST (by rfl) (se_var 1)) (sw_and1 (st_cmp (op_notInX hr) od_notInX (se_var 1) (se_globT (ds := [.str "odd ring", .str "even ring"]) (vs := [.str "odd ring", .str "even ring"]) (by rfl) T.t_PLAIN (fun _ _ => ⟨_, _, rfl, rfl, ⟨_, _, rfl, rfl, rfl⟩⟩)) (by rfl)))))))) (sss_one ss_never) sss_nil)
      (sss_cons (ss_if (SW.st (sw_or (SW.st (sw_and (st_cmp (op_inX hr) od_inX (se_var 1) (se_globT (ds := [.str "odd ring", .str "even ring"]) (vs := [.str "odd ring", .str "even ring"]) (by rfl) T.t_PLAIN (fun _ _ => ⟨_, _, rfl, rfl, ⟨_, _, rfl, rfl, rfl⟩⟩)) (by rfl)) (sw_and1 (st_cmp op_notN od_notN (se_var 2) se_non (nomark _))))) (sw_or1 (SW.st (sw_and (st_kinG T.k_LEAST (by rfl) (se_var 1)) (sw_and1 (st_not (st_val (se_fn C_is_between hr (by rfl) (sa_cons (se_var 2) (sa_cons (se_kixG T.k_LEAST (by rfl) (se_var 1) (fun _ _ => rfl)) (sa_cons (se_globC (d := (.int 10000000000000000000000000000000000000000)) (by rfl) T.c_MOST_ASKED (fun _ _ => rfl)) sa_nil))) (fCons_len (fCons_len (fCons_len (fun _ _ _ _ h => fNil_len h))))))))))))) (sss_one ss_never) sss_nil)
      (sss_cons (ss_fld T.kc_Thing T.na_Thing_word (se_var 0) (se_var 1))
      (sss_one (ss_fld T.kc_Thing T.na_Thing_many (se_var 0) (se_var 2))))))
theorem sc_Thing_fate : FnScope ["self", "people", "count", "least"] ["self", "people", "count"] (defScope s_Thing_fate) := ⟨rfl, rfl, rfl, by decide +kernel, rfl, by decide +kernel, by decide +kernel⟩
def b_Thing_fate (c_most_of : FD) (c_least_of : FD) (c_is_between : FD) (c_pairs_of : FD) (c_check_people : FD) : FS :=
  (sSeq (sExpr (fCall c_check_people (fCons (fVar 1) (fCons (fC (.int 10000000000000000000000000000000000000000)) fNil))))
    (sSeq (sIf (tNotD (fTest (fCall c_is_between (fCons (fVar 2) (fCons (fC (.int 0)) (fCons (fCall c_pairs_of (fCons (fVar 1) fNil)) fNil)))))) sNever sSkip)
    (sSeq (sAsg (fCall c_least_of (fCons (fFld "Thing" "word" (fVar 0)) (fCons (fFld "Thing" "many" (fVar 0)) (fCons (fVar 1) fNil)))) (gN 3))
    (sSeq (sIf (tOrD (fTest (fBin gIsN (fVar 3) (fC .non))) (fTest (fBin gLtX (fVar 2) (fVar 3)))) (sRet (fC (.str "never"))) sSkip)
    (sRet (fIf (fTest (fBin gGt (fVar 2) (fCall c_most_of (fCons (fFld "Thing" "word" (fVar 0)) (fCons (fFld "Thing" "many" (fVar 0)) (fCons (fVar 1) fNil)))))) (fC (.str "always")) (fC (.str "perhaps"))))))))
def d_Thing_fate (c_most_of : FD) (c_least_of : FD) (c_is_between : FD) (c_pairs_of : FD) (c_check_people : FD) : FD := runD 4 (b_Thing_fate c_most_of c_least_of c_is_between c_pairs_of c_check_people)
theorem ok_Thing_fate {c_most_of : FD} {c_least_of : FD} {c_is_between : FD} {c_pairs_of : FD} {c_check_people : FD} {k : Nat} (T : Txt w K mg ct C_Thing) (C_most_of : Callee P w K mg base ct k "most_of" 3 c_most_of) (C_least_of : Callee P w K mg base ct k "least_of" 3 c_least_of) (C_is_between : Callee P w K mg base ct k "is_between" 3 c_is_between) (C_pairs_of : Callee P w K mg base ct k "pairs_of" 1 c_pairs_of) (C_check_people : Callee P w K mg base ct k "check_people" 2 c_check_people) : CalleeM P w K mg base ct (k + 1) C_Thing "fate" 3 (d_Thing_fate c_most_of c_least_of c_is_between c_pairs_of c_check_people) [(["count", "people"], [1, 0])] :=
  calleeM_of T.m_Thing_fate sc_Thing_fate fun f cdv A outer s H E hr =>
    (sss_cons (ss_expr (se_fn C_check_people hr (by rfl) (sa_cons (se_var 1) (sa_cons (se_globC (d := (.int 10000000000000000000000000000000000000000)) (by rfl) T.c_MOST_ASKED (fun _ _ => rfl)) sa_nil)) (fCons_len (fCons_len (fun _ _ _ _ h => fNil_len h)))))
      (sss_cons (ss_if (st_not (st_val (se_fn C_is_between hr (by rfl) (sa_cons (se_var 2) (sa_cons se_int (sa_cons (se_fn C_pairs_of hr (by rfl) (sa_cons (se_var 1) sa_nil) (fCons_len (fun _ _ _ _ h => fNil_len h))) sa_nil))) (fCons_len (fCons_len (fCons_len (fun _ _ _ _ h => fNil_len h))))))) (sss_one ss_never) sss_nil)
      (sss_cons (ss_set (i := 3) sc_Thing_fate.nd rfl (Or.inl rfl) (se_fn C_least_of hr (by rfl) (sa_cons (se_fld T.kc_Thing T.na_Thing_word (se_var 0)) (sa_cons (se_fld T.kc_Thing T.na_Thing_many (se_var 0)) (sa_cons (se_var 1) sa_nil))) (fCons_len (fCons_len (fCons_len (fun _ _ _ _ h => fNil_len h))))))
      (sss_cons (ss_if (SW.st (sw_or (st_cmp op_isN od_isN (se_var 3) se_non (nomark _)) (sw_or1 (st_cmp (op_ltX hr) od_ltX (se_var 2) (se_var 3) (nomark _))))) (sss_one (ss_ret se_str)) sss_nil)
      (sss_one (ss_ret (se_if (st_cmp op_gt od_gt (se_var 2) (se_fn C_most_of hr (by rfl) (sa_cons (se_fld T.kc_Thing T.na_Thing_word (se_var 0)) (sa_cons (se_fld T.kc_Thing T.na_Thing_many (se_var 0)) (sa_cons (se_var 1) sa_nil))) (fCons_len (fCons_len (fCons_len (fun _ _ _ _ h => fNil_len h))))) (nomark _)) se_str se_str)))))))
theorem sc__law_purse : FnScope ["_law_script", "_law_spot", "_law_cell", "_law_seed", "_law_one"] ["_law_script", "_law_spot"] (defScope s__law_purse) := ⟨rfl, rfl, rfl, by decide +kernel, rfl, by decide +kernel, by decide +kernel⟩
def b__law_purse : FS :=
  (sSeq (sAsg (fIf (fTest (fBin gLtX (fVar 1) (fCall cLen (fCons (fVar 0) fNil)))) (fBin gIx (fVar 0) (fVar 1)) (fBin gMul (fC (.int 7919)) (fBin gAddX (fVar 1) (fC (.int 5))))) (gN 2))
    (sSeq (sAsg (fBin gAddX (fC (.int 211)) (fVar 1)) (gN 3))
    (sSeq (sFor (iLst (fBin gAddX (fSlX (fVar 0) oNone (oSome (fC (.int 5)))) (fLst (fCons (fVar 2) fNil)))) (gN 4) (sAsg (fBin gMod (fCall cInt (fCons (fBin gAddX (fBin gAddX (fBin gMul (fVar 3) (fC (.int 48271))) (fBin gMod (fCall cInt (fCons (fVar 4) fNil)) (fC (.int 2147483647)))) (fC (.int 101))) fNil)) (fC (.int 2147483647))) (gN 3)))
    (sRet (fLstM (fCons (fIf (fTest (fBin gGe (fCall cAbs (fCons (fVar 2) fNil)) (fBin gPow (fC (.int 10)) (fC (.int 18))))) (fCall cAbs (fCons (fVar 2) fNil)) (fC (.int 0))) (fCons (fVar 3) fNil)))))))
def d__law_purse : FD := runD 5 (b__law_purse)
theorem ok__law_purse {k : Nat} (T : Txt w K mg ct C_Thing) : Callee P w K mg base ct (k + 1) "_law_purse" 2 (d__law_purse) :=
  callee_of T.d__law_purse sc__law_purse fun f cdv A outer s H E hr =>
    (sss_cons (ss_set (i := 2) sc__law_purse.nd rfl (Or.inl rfl) (se_if (st_cmp (op_ltX hr) od_ltX (se_var 1) (se_callB call_lenAll cd_len (by rfl) T.n_len (by decide +kernel) (sa_cons (se_var 0) sa_nil)) (nomark _)) (se_ix ix_seq od_ix (se_var 0) (se_var 1) (fun _ _ => rfl)) (se_op op_mulW od_mul se_int (se_op op_addX od_addX (se_var 1) se_int))))
      (sss_cons (ss_set (i := 3) sc__law_purse.nd rfl (Or.inl rfl) (se_op op_addX od_addX se_int (se_var 1)))
      (sss_cons (ss_for PassesOwn.never rfl (si_list (se_op op_addX od_addX (se_sliceX (se_var 0) so_none (so_some se_int)) (se_lst (sa_cons (se_var 2) sa_nil)))) (sg_name (i := 4) sc__law_purse.nd rfl (Or.inl rfl)) (sss_one (ss_set (i := 3) sc__law_purse.nd rfl (Or.inl rfl) (se_op op_mod od_mod (se_callTy call_intAll cd_int (by rfl) T.n_int (by decide +kernel) (sa_cons (se_op op_addX od_addX (se_op op_addX od_addX (se_op op_mulW od_mul (se_var 3) se_int) (se_op op_mod od_mod (se_callTy call_intAll cd_int (by rfl) T.n_int (by decide +kernel) (sa_cons (se_var 4) sa_nil)) se_int)) se_int) sa_nil)) se_int))))
      (sss_one (ss_ret (se_lstM (sa_cons (se_if (st_cmp op_ge od_ge (se_callB call_abs cd_abs (by rfl) T.n_abs (by decide +kernel) (sa_cons (se_var 2) sa_nil)) (se_op op_pow od_pow se_int se_int) (nomark _)) (se_callB call_abs cd_abs (by rfl) T.n_abs (by decide +kernel) (sa_cons (se_var 2) sa_nil)) se_int) (sa_cons (se_var 3) sa_nil))))))))
theorem sc__law_draw : FnScope ["_law_purse_here", "_law_many", "_law_digit"] ["_law_purse_here", "_law_many"] (defScope s__law_draw) := ⟨rfl, rfl, rfl, by decide +kernel, rfl, by decide +kernel, by decide +kernel⟩
def b__law_draw : FS :=
  (sSeq (sIf (fTest (fBin gGt (fBin gIx (fVar 0) (fC (.int 0))) (fC (.int 0)))) (sSeq (sAsg (fCall cDivmod (fCons (fBin gIx (fVar 0) (fC (.int 0))) (fCons (fVar 1) fNil))) (gTup 2 (gCons (gSub gSetA (fVar 0) (fC (.int 0))) (gCons (gN 2) gNil))))
    (sRet (fVar 2))) sSkip)
    (sSeq (sAsg (fBin gMod (fCall cInt (fCons (fBin gAddX (fBin gMul (fBin gIx (fVar 0) (fC (.int 1))) (fC (.int 69621))) (fC (.int 40503))) fNil)) (fC (.int 2147483647))) (gSub gSetA (fVar 0) (fC (.int 1))))
    (sRet (fBin gMod (fCall cInt (fCons (fBin gFdiv (fBin gIx (fVar 0) (fC (.int 1))) (fC (.int 1024))) fNil)) (fVar 1)))))
def d__law_draw : FD := runD 3 (b__law_draw)
theorem ok__law_draw {k : Nat} (T : Txt w K mg ct C_Thing) : Callee P w K mg base ct (k + 1) "_law_draw" 2 (d__law_draw) :=
  callee_of T.d__law_draw sc__law_draw fun f cdv A outer s H E hr =>
    (sss_cons (ss_if (st_cmp op_gt od_gt (se_ix ix_seq od_ix (se_var 0) se_int (fun _ _ => rfl)) se_int (nomark _)) (sss_cons (ss_asg (se_callB call_divmodW cd_divmod (by rfl) T.n_divmod (by decide +kernel) (sa_cons (se_ix ix_seq od_ix (se_var 0) se_int (fun _ _ => rfl)) (sa_cons (se_var 1) sa_nil))) (sg_tup rfl (sgs_cons (sg_sub (se_var 0) se_int (set_all hr) sd_all) (sgs_cons (sg_name (i := 2) sc__law_draw.nd rfl (Or.inl rfl)) sgs_nil))))
      (sss_one (ss_ret (se_var 2)))) sss_nil)
      (sss_cons (ss_asg (se_op op_mod od_mod (se_callTy call_intAll cd_int (by rfl) T.n_int (by decide +kernel) (sa_cons (se_op op_addX od_addX (se_op op_mulW od_mul (se_ix ix_seq od_ix (se_var 0) se_int (fun _ _ => rfl)) se_int) se_int) sa_nil)) se_int) (sg_sub (se_var 0) se_int (set_all hr) sd_all))
      (sss_one (ss_ret (se_op op_mod od_mod (se_callTy call_intAll cd_int (by rfl) T.n_int (by decide +kernel) (sa_cons (se_op op_fdivW od_fdiv (se_ix ix_seq od_ix (se_var 0) se_int (fun _ _ => rfl)) se_int) sa_nil)) (se_var 1))))))
theorem sc__law_all : FnScope ["_law_many", "_law_found", "_law_x", "_law_y"] ["_law_many"] (defScope s__law_all) := ⟨rfl, rfl, rfl, by decide +kernel, rfl, by decide +kernel, by decide +kernel⟩
def b__law_all : FS :=
  (sSeq (sAsg (fLst fNil) (gN 1))
    (sSeq (sFor (iRange1 (fCons (fVar 0) fNil)) (gN 2) (sAsg (fBin gAddX (fVar 1) (fLc (iRange2 (fCons (fBin gAddX (fVar 2) (fC (.int 1))) (fCons (fVar 0) fNil))) (gN 3) tYesD (fTup (fCons (fVar 2) (fCons (fVar 3) fNil))) [3])) (gN 1)))
    (sRet (fCall cTupleX (fCons (fVar 1) fNil)))))
def d__law_all : FD := runD 4 (b__law_all)
theorem ok__law_all {k : Nat} (T : Txt w K mg ct C_Thing) : Callee P w K mg base ct (k + 1) "_law_all" 1 (d__law_all) :=
  callee_of T.d__law_all sc__law_all fun f cdv A outer s H E hr =>
    (sss_cons (ss_set (i := 1) sc__law_all.nd rfl (Or.inl rfl) (se_lst sa_nil))
      (sss_cons (ss_for PassesOwn.never rfl (si_range1 (by rfl) T.n_range (sa_cons (se_var 0) sa_nil)) (sg_name (i := 2) sc__law_all.nd rfl (Or.inr rfl)) (sss_one (ss_set (i := 1) sc__law_all.nd rfl (Or.inl rfl) (se_op op_addX od_addX (se_var 1) (se_lc (own := [("_law_y", 3)]) rfl sc__law_all.nd (si_range2 (by rfl) T.n_range (sa_cons (se_op op_addX od_addX (se_var 2) se_int) (sa_cons (se_var 0) sa_nil))) (blkOk_by (own := [("_law_y", 3)]) (N := ["_law_many", "_law_found", "_law_x", "_law_y"]) (sc := defScope s__law_all) (by decide +kernel)) (fun _ _ _ _ _ => (sgw_name (i := 3) sc__law_all.nd rfl (Or.inl rfl) (by decide))) (fun _ _ _ _ _ => sts_nil) (fun _ _ _ _ _ => (se_tup (sa_cons (se_var 2) (sa_cons (se_var 3) sa_nil)))))))))
      (sss_one (ss_ret (se_callTy call_tuple_of cd_tupleX (by rfl) T.n_tuple (by decide +kernel) (sa_cons (se_var 1) sa_nil))))))
theorem sc__law_tied : FnScope ["_law_ties", "_law_x", "_law_y"] ["_law_ties", "_law_x", "_law_y"] (defScope s__law_tied) := ⟨rfl, rfl, rfl, by decide +kernel, rfl, by decide +kernel, by decide +kernel⟩
def b__law_tied : FS :=
  (sRet (fBin (gInX false) (fTup (fCons (fCall cMin2 (fCons (fVar 1) (fCons (fVar 2) fNil))) (fCons (fCall cMax2 (fCons (fVar 1) (fCons (fVar 2) fNil))) fNil))) (fVar 0)))
def d__law_tied : FD := runD 3 (b__law_tied)
theorem ok__law_tied {k : Nat} (T : Txt w K mg ct C_Thing) : Callee P w K mg base ct (k + 1) "_law_tied" 3 (d__law_tied) :=
  callee_of T.d__law_tied sc__law_tied fun f cdv A outer s H E hr =>
    (sss_one (ss_ret (se_cmp (op_inX hr) od_inX (se_tup (sa_cons (se_callB (call_min2 rfl) cd_min2 (by rfl) T.n_min (by decide +kernel) (sa_cons (se_var 1) (sa_cons (se_var 2) sa_nil))) (sa_cons (se_callB (call_max2 rfl) cd_max2 (by rfl) T.n_max (by decide +kernel) (sa_cons (se_var 1) (sa_cons (se_var 2) sa_nil))) sa_nil))) (se_var 0) (by rfl))))
theorem sc__law_subsets : FnScope ["_law_row", "_law_found", "_law_x", "_law_part"] ["_law_row"] (defScope s__law_subsets) := ⟨rfl, rfl, rfl, by decide +kernel, rfl, by decide +kernel, by decide +kernel⟩
def b__law_subsets : FS :=
  (sSeq (sAsg (fLst (fCons (fTup fNil) fNil)) (gN 1))
    (sSeq (sFor (iTup (fVar 0)) (gN 2) (sAsg (fBin gAddX (fVar 1) (fLc (iLst (fVar 1)) (gN 3) tYesD (fBin gAddX (fVar 3) (fTup (fCons (fVar 2) fNil))) [3])) (gN 1)))
    (sRet (fVar 1))))
def d__law_subsets : FD := runD 4 (b__law_subsets)
theorem ok__law_subsets {k : Nat} (T : Txt w K mg ct C_Thing) : Callee P w K mg base ct (k + 1) "_law_subsets" 1 (d__law_subsets) :=
  callee_of T.d__law_subsets sc__law_subsets fun f cdv A outer s H E hr =>
    (sss_cons (ss_set (i := 1) sc__law_subsets.nd rfl (Or.inl rfl) (se_lst (sa_cons (se_tup sa_nil) sa_nil)))
      (sss_cons (ss_for PassesOwn.never rfl (si_tup (se_var 0)) (sg_name (i := 2) sc__law_subsets.nd rfl (Or.inr rfl)) (sss_one (ss_set (i := 1) sc__law_subsets.nd rfl (Or.inl rfl) (se_op op_addX od_addX (se_var 1) (se_lc (own := [("_law_part", 3)]) rfl sc__law_subsets.nd (si_list (se_var 1)) (blkOk_by (own := [("_law_part", 3)]) (N := ["_law_row", "_law_found", "_law_x", "_law_part"]) (sc := defScope s__law_subsets) (by decide +kernel)) (fun _ _ _ _ _ => (sgw_name (i := 3) sc__law_subsets.nd rfl (Or.inl rfl) (by decide))) (fun _ _ _ _ _ => sts_nil) (fun _ _ _ _ _ => (se_op op_addX od_addX (se_var 3) (se_tup (sa_cons (se_var 2) sa_nil)))))))))
      (sss_one (ss_ret (se_var 1)))))
theorem sc__law_joined : FnScope ["_law_ties", "_law_left", "_law_seen", "_law_turn", "_law_x", "_law_y"] ["_law_ties", "_law_left"] (defScope s__law_joined) := ⟨rfl, rfl, rfl, by decide +kernel, rfl, by decide +kernel, by decide +kernel⟩
def b__law_joined (c__law_tied : FD) : FS :=
  (sSeq (sAsg (fCall cListX (fCons (fSlX (fVar 1) oNone (oSome (fC (.int 1)))) fNil)) (gN 2))
    (sSeq (sFor (iRange1 (fCons (fCall cLen (fCons (fVar 1) fNil)) fNil)) (gN 3) (sAsg (fBin gAddX (fVar 2) (fLc (iLst (fVar 1)) (gN 4) (tAndD (fTest (fBin (gInX true) (fVar 4) (fVar 2))) (fTest (fBin gNe (fLc (iLst (fVar 2)) (gN 5) (fTest (fCall c__law_tied (fCons (fVar 0) (fCons (fVar 4) (fCons (fVar 5) fNil))))) (fVar 5) [5]) (fLst fNil)))) (fVar 4) [4])) (gN 2)))
    (sRet (fBin gEq (fCall cLen (fCons (fVar 2) fNil)) (fCall cLen (fCons (fVar 1) fNil))))))
def d__law_joined (c__law_tied : FD) : FD := runD 6 (b__law_joined c__law_tied)
theorem ok__law_joined {c__law_tied : FD} {k : Nat} (T : Txt w K mg ct C_Thing) (C__law_tied : Callee P w K mg base ct k "_law_tied" 3 c__law_tied) : Callee P w K mg base ct (k + 1) "_law_joined" 2 (d__law_joined c__law_tied) :=
  callee_of T.d__law_joined sc__law_joined fun f cdv A outer s H E hr =>
    (sss_cons (ss_set (i := 2) sc__law_joined.nd rfl (Or.inr rfl) (se_callTy call_list_of cd_listX (by rfl) T.n_list (by decide +kernel) (sa_cons (se_sliceX (se_var 1) so_none (so_some se_int)) sa_nil)))
      (sss_cons (ss_for PassesOwn.never rfl (si_range1 (by rfl) T.n_range (sa_cons (se_callB call_lenAll cd_len (by rfl) T.n_len (by decide +kernel) (sa_cons (se_var 1) sa_nil)) sa_nil)) (sg_name (i := 3) sc__law_joined.nd rfl (Or.inl rfl)) (sss_one (ss_set (i := 2) sc__law_joined.nd rfl (Or.inr rfl) (se_op op_addX od_addX (se_var 2) (se_lc (own := [("_law_x", 4)]) rfl sc__law_joined.nd (si_list (se_var 1)) (blkOk_by (own := [("_law_x", 4)]) (N := ["_law_ties", "_law_left", "_law_seen", "_law_turn", "_law_x", "_law_y"]) (sc := defScope s__law_joined) (by decide +kernel)) (fun _ _ _ _ _ => (sgw_name (i := 4) sc__law_joined.nd rfl (Or.inr rfl) (by decide))) (fun _ _ _ _ _ => (sts_one (SW.st (sw_and (st_cmp (op_notInX hr) od_notInX (se_var 4) (se_var 2) (by rfl)) (sw_and1 (st_cmp (op_neAll hr) od_ne (se_lc (own := [("_law_y", 5)]) rfl sc__law_joined.nd (si_list (se_var 2)) (blkOk_by (by kernel_rfl)) (fun _ _ _ _ _ => (sgw_name (i := 5) sc__law_joined.nd rfl (Or.inl rfl) (by decide))) (fun _ _ _ _ _ => (sts_one (st_val (se_fn C__law_tied hr (by rfl) (sa_cons (se_var 0) (sa_cons (se_var 4) (sa_cons (se_var 5) sa_nil))) (fCons_len (fCons_len (fCons_len (fun _ _ _ _ h => fNil_len h)))))))) (fun _ _ _ _ _ => (se_var 5))) (se_lst sa_nil) (nomark _))))))) (fun _ _ _ _ _ => (se_var 4)))))))
      (sss_one (ss_ret (se_cmp (op_eqAll hr) od_eq (se_callB call_lenAll cd_len (by rfl) T.n_len (by decide +kernel) (sa_cons (se_var 2) sa_nil)) (se_callB call_lenAll cd_len (by rfl) T.n_len (by decide +kernel) (sa_cons (se_var 1) sa_nil)) (nomark _))))))
theorem sc__law_rows_of : FnScope ["_law_many", "_law_ties", "_law_tally", "_law_found", "_law_turn", "_law_later", "_law_part", "_law_last", "_law_x"] ["_law_many", "_law_ties", "_law_tally"] (defScope s__law_rows_of) := ⟨rfl, rfl, rfl, by decide +kernel, rfl, by decide +kernel, by decide +kernel⟩
def b__law_rows_of (c__law_tied : FD) : FS :=
  (sSeq (sAsg (fLc (iRange1 (fCons (fVar 0) fNil)) (gN 8) tYesD (fTup (fCons (fTup (fCons (fVar 8) fNil)) (fCons (fVar 8) fNil))) [8]) (gN 3))
    (sSeq (sFor (iRange1 (fCons (fBin gSubI (fVar 2) (fC (.int 1))) fNil)) (gN 4) (sSeq (sAsg (fLstM fNil) (gN 5))
    (sSeq (sFor (iLst (fVar 3)) (gTup 2 (gCons (gN 6) (gCons (gN 7) gNil))) (sFor (iRange1 (fCons (fVar 0) fNil)) (gN 8) (sIf (tAndD (fTest (fBin (gInX true) (fVar 8) (fVar 6))) (fTest (fCall c__law_tied (fCons (fVar 1) (fCons (fVar 7) (fCons (fVar 8) fNil)))))) (sExpr (fAppend (fVar 5) (fTup (fCons (fCall cTupleX (fCons (fCall cSorted (fCons (fBin gAddX (fVar 6) (fTup (fCons (fVar 8) fNil))) fNil)) fNil)) (fCons (fVar 8) fNil))))) sSkip)))
    (sAsg (fSortK (fVar 5)) (gN 3)))))
    (sRet (fVar 3))))
def d__law_rows_of (c__law_tied : FD) : FD := runD 9 (b__law_rows_of c__law_tied)
theorem ok__law_rows_of {c__law_tied : FD} {k : Nat} (T : Txt w K mg ct C_Thing) (C__law_tied : Callee P w K mg base ct k "_law_tied" 3 c__law_tied) : Callee P w K mg base ct (k + 1) "_law_rows_of" 3 (d__law_rows_of c__law_tied) :=
  callee_of T.d__law_rows_of sc__law_rows_of fun f cdv A outer s H E hr =>
    (sss_cons (ss_setLc (i := 3) (own := [("_law_x", 8)]) rfl sc__law_rows_of.nd rfl rfl (sw_true rfl rfl rfl (by decide +kernel)) (si_range1 (by rfl) T.n_range (sa_cons (se_var 0) sa_nil)) (blkOk_by (own := [("_law_x", 8)]) (N := ["_law_many", "_law_ties", "_law_tally", "_law_found", "_law_turn", "_law_later", "_law_part", "_law_last", "_law_x"]) (sc := defScope s__law_rows_of) (by decide +kernel)) (fun _ _ _ _ _ => (sgw_name (i := 8) sc__law_rows_of.nd rfl (Or.inl rfl) (by decide))) (fun _ _ _ _ _ => sts_nil) (fun _ _ _ _ _ => (se_tup (sa_cons (se_tup (sa_cons (se_var 8) sa_nil)) (sa_cons (se_var 8) sa_nil)))))
      (sss_cons (ss_for PassesOwn.never rfl (si_range1 (by rfl) T.n_range (sa_cons (se_op op_sub od_sub (se_var 2) se_int) sa_nil)) (sg_name (i := 4) sc__law_rows_of.nd rfl (Or.inl rfl)) (sss_cons (ss_set (i := 5) sc__law_rows_of.nd rfl (Or.inl rfl) (se_lstM sa_nil))
      (sss_cons (ss_for PassesOwn.never rfl (si_list (se_var 3)) (sg_tup rfl (sgs_cons (sg_name (i := 6) sc__law_rows_of.nd rfl (Or.inl rfl)) (sgs_cons (sg_name (i := 7) sc__law_rows_of.nd rfl (Or.inl rfl)) sgs_nil))) (sss_one (ss_for PassesOwn.never rfl (si_range1 (by rfl) T.n_range (sa_cons (se_var 0) sa_nil)) (sg_name (i := 8) sc__law_rows_of.nd rfl (Or.inl rfl)) (sss_one (ss_if (SW.st (sw_and (st_cmp (op_notInX hr) od_notInX (se_var 8) (se_var 6) (by rfl)) (sw_and1 (st_val (se_fn C__law_tied hr (by rfl) (sa_cons (se_var 1) (sa_cons (se_var 7) (sa_cons (se_var 8) sa_nil))) (fCons_len (fCons_len (fCons_len (fun _ _ _ _ h => fNil_len h))))))))) (sss_one (ss_expr (se_append (se_var 5) (se_tup (sa_cons (se_callTy call_tuple_of cd_tupleX (by rfl) T.n_tuple (by decide +kernel) (sa_cons (se_callB (cr_sortX hr) cd_sorted (by rfl) T.n_sorted (by decide +kernel) (sa_cons (se_op op_addX od_addX (se_var 6) (se_tup (sa_cons (se_var 8) sa_nil))) sa_nil)) sa_nil)) (sa_cons (se_var 8) sa_nil)))))) sss_nil)))))
      (sss_one (ss_set (i := 3) sc__law_rows_of.nd rfl (Or.inl rfl) (se_sortK rfl hr (by rfl) T.n_sorted (by rfl) T.n_set (se_var 5)))))))
      (sss_one (ss_ret (se_var 3)))))
theorem sc__law_rings : FnScope ["_law_many", "_law_ties", "_law_found", "_law_first", "_law_rows", "_law_tally", "_law_later", "_law_part", "_law_last", "_law_free", "_law_closed", "_law_row", "_law_x"] ["_law_many", "_law_ties"] (defScope s__law_rings) := ⟨rfl, rfl, rfl, by decide +kernel, rfl, by decide +kernel, by decide +kernel⟩
def b__law_rings (c__law_tied : FD) : FS :=
  (sSeq (sAsg (fLstM fNil) (gN 2))
    (sSeq (sFor (iRange1 (fCons (fVar 0) fNil)) (gN 3) (sSeq (sAsg (fLst (fCons (fTup (fCons (fTup (fCons (fVar 3) fNil)) (fCons (fVar 3) fNil))) fNil)) (gN 4))
    (sFor (iRange2 (fCons (fC (.int 2)) (fCons (fBin gAddX (fVar 0) (fC (.int 1))) fNil))) (gN 5) (sSeq (sAsg (fLst fNil) (gN 6))
    (sSeq (sFor (iLst (fVar 4)) (gTup 2 (gCons (gN 7) (gCons (gN 8) gNil))) (sSeq (sAsg (fLc (iRange2 (fCons (fBin gAddX (fVar 3) (fC (.int 1))) (fCons (fVar 0) fNil))) (gN 12) (fTest (fBin (gInX true) (fVar 12) (fVar 7))) (fVar 12) [12]) (gN 9))
    (sAsg (fBin gAddX (fVar 6) (fLc (iLst (fVar 9)) (gN 12) (fTest (fCall c__law_tied (fCons (fVar 1) (fCons (fVar 8) (fCons (fVar 12) fNil))))) (fTup (fCons (fBin gAddX (fVar 7) (fTup (fCons (fVar 12) fNil))) (fCons (fVar 12) fNil))) [12])) (gN 6))))
    (sSeq (sAsg (fVar 6) (gN 4))
    (sSeq (sAsg (fLc (iLst (fVar 4)) (gN 11) (fTest (fCall c__law_tied (fCons (fVar 1) (fCons (fBin gIx (fVar 11) (fC (.int 1))) (fCons (fVar 3) fNil))))) (fVar 11) [11]) (gN 10))
    (sIf (tAndD (fTest (fBin gGt (fVar 5) (fC (.int 2)))) (fTest (fBin gNe (fVar 10) (fLst fNil)))) (sExpr (fAppend (fVar 2) (fVar 5))) sSkip))))))))
    (sRet (fSortK (fVar 2)))))
def d__law_rings (c__law_tied : FD) : FD := runD 13 (b__law_rings c__law_tied)
theorem ok__law_rings {c__law_tied : FD} {k : Nat} (T : Txt w K mg ct C_Thing) (C__law_tied : Callee P w K mg base ct k "_law_tied" 3 c__law_tied) : Callee P w K mg base ct (k + 1) "_law_rings" 2 (d__law_rings c__law_tied) :=
  callee_of T.d__law_rings sc__law_rings fun f cdv A outer s H E hr =>
    (sss_cons (ss_set (i := 2) sc__law_rings.nd rfl (Or.inl rfl) (se_lstM sa_nil))
      (sss_cons (ss_for PassesOwn.never rfl (si_range1 (by rfl) T.n_range (sa_cons (se_var 0) sa_nil)) (sg_name (i := 3) sc__law_rings.nd rfl (Or.inr rfl)) (sss_cons (ss_set (i := 4) sc__law_rings.nd rfl (Or.inl rfl) (se_lst (sa_cons (se_tup (sa_cons (se_tup (sa_cons (se_var 3) sa_nil)) (sa_cons (se_var 3) sa_nil))) sa_nil)))
      (sss_one (ss_for PassesOwn.never rfl (si_range2 (by rfl) T.n_range (sa_cons se_int (sa_cons (se_op op_addX od_addX (se_var 0) se_int) sa_nil))) (sg_name (i := 5) sc__law_rings.nd rfl (Or.inl rfl)) (sss_cons (ss_set (i := 6) sc__law_rings.nd rfl (Or.inl rfl) (se_lst sa_nil))
      (sss_cons (ss_for PassesOwn.never rfl (si_list (se_var 4)) (sg_tup rfl (sgs_cons (sg_name (i := 7) sc__law_rings.nd rfl (Or.inr rfl)) (sgs_cons (sg_name (i := 8) sc__law_rings.nd rfl (Or.inr rfl)) sgs_nil))) (sss_cons (ss_setLc (i := 9) (own := [("_law_x", 12)]) rfl sc__law_rings.nd rfl rfl (sw_true rfl rfl rfl (by decide +kernel)) (si_range2 (by rfl) T.n_range (sa_cons (se_op op_addX od_addX (se_var 3) se_int) (sa_cons (se_var 0) sa_nil))) (blkOk_by (own := [("_law_x", 12)]) (N := ["_law_many", "_law_ties", "_law_found", "_law_first", "_law_rows", "_law_tally", "_law_later", "_law_part", "_law_last", "_law_free", "_law_closed", "_law_row", "_law_x"]) (sc := defScope s__law_rings) (by decide +kernel)) (fun _ _ _ _ _ => (sgw_name (i := 12) sc__law_rings.nd rfl (Or.inl rfl) (by decide))) (fun _ _ _ _ _ => (sts_one (st_cmp (op_notInX hr) od_notInX (se_var 12) (se_var 7) (by rfl)))) (fun _ _ _ _ _ => (se_var 12)))
      (sss_one (ss_set (i := 6) sc__law_rings.nd rfl (Or.inl rfl) (se_op op_addX od_addX (se_var 6) (se_lc (own := [("_law_x", 12)]) rfl sc__law_rings.nd (si_list (se_var 9)) (blkOk_by (own := [("_law_x", 12)]) (N := ["_law_many", "_law_ties", "_law_found", "_law_first", "_law_rows", "_law_tally", "_law_later", "_law_part", "_law_last", "_law_free", "_law_closed", "_law_row", "_law_x"]) (sc := defScope s__law_rings) (by decide +kernel)) (fun _ _ _ _ _ => (sgw_name (i := 12) sc__law_rings.nd rfl (Or.inl rfl) (by decide))) (fun _ _ _ _ _ => (sts_one (st_val (se_fn C__law_tied hr (by rfl) (sa_cons (se_var 1) (sa_cons (se_var 8) (sa_cons (se_var 12) sa_nil))) (fCons_len (fCons_len (fCons_len (fun _ _ _ _ h => fNil_len h)))))))) (fun _ _ _ _ _ => (se_tup (sa_cons (se_op op_addX od_addX (se_var 7) (se_tup (sa_cons (se_var 12) sa_nil))) (sa_cons (se_var 12) sa_nil))))))))))
      (sss_cons (ss_set (i := 4) sc__law_rings.nd rfl (Or.inl rfl) (se_var 6))
      (sss_cons (ss_setLc (i := 10) (own := [("_law_row", 11)]) rfl sc__law_rings.nd rfl rfl (sw_true rfl rfl rfl (by decide +kernel)) (si_list (se_var 4)) (blkOk_by (own := [("_law_row", 11)]) (N := ["_law_many", "_law_ties", "_law_found", "_law_first", "_law_rows", "_law_tally", "_law_later", "_law_part", "_law_last", "_law_free", "_law_closed", "_law_row", "_law_x"]) (sc := defScope s__law_rings) (by decide +kernel)) (fun _ _ _ _ _ => (sgw_name (i := 11) sc__law_rings.nd rfl (Or.inl rfl) (by decide))) (fun _ _ _ _ _ => (sts_one (st_val (se_fn C__law_tied hr (by rfl) (sa_cons (se_var 1) (sa_cons (se_ix ix_seq od_ix (se_var 11) se_int (fun _ _ => rfl)) (sa_cons (se_var 3) sa_nil))) (fCons_len (fCons_len (fCons_len (fun _ _ _ _ h => fNil_len h)))))))) (fun _ _ _ _ _ => (se_var 11)))
      (sss_one (ss_if (SW.st (sw_and (st_cmp op_gt od_gt (se_var 5) se_int (nomark _)) (sw_and1 (st_cmp (op_neAll hr) od_ne (se_var 10) (se_lst sa_nil) (nomark _))))) (sss_one (ss_expr (se_append (se_var 2) (se_var 5)))) sss_nil))))))))))
      (sss_one (ss_ret (se_sortK rfl hr (by rfl) T.n_sorted (by rfl) T.n_set (se_var 2))))))
theorem sc__law_pairs_apart : FnScope ["_law_ties", "_law_x", "_law_y", "_law_rest", "_law_tie"] ["_law_ties"] (defScope s__law_pairs_apart) := ⟨rfl, rfl, rfl, by decide +kernel, rfl, by decide +kernel, by decide +kernel⟩
def b__law_pairs_apart (c__law_pairs_apart : FD) : FS :=
  (sSeq (sIf (fTest (fBin gEq (fVar 0) (fTup fNil))) (sRet (fC (.int 0))) sSkip)
    (sSeq (sAsg (fBin gIx (fVar 0) (fC (.int 0))) (gTup 2 (gCons (gN 1) (gCons (gN 2) gNil))))
    (sSeq (sAsg (fCall cTupleX (fCons (fLc (iTup (fVar 0)) (gN 4) (tAndD (fTest (fBin (gInX true) (fVar 1) (fVar 4))) (fTest (fBin (gInX true) (fVar 2) (fVar 4)))) (fVar 4) [4]) fNil)) (gN 3))
    (sRet (fCall cMax2 (fCons (fBin gAddX (fC (.int 1)) (fCall c__law_pairs_apart (fCons (fVar 3) fNil))) (fCons (fCall c__law_pairs_apart (fCons (fSlX (fVar 0) (oSome (fC (.int 1))) oNone) fNil)) fNil)))))))
def d__law_pairs_apart (c__law_pairs_apart : FD) : FD := runD 5 (b__law_pairs_apart c__law_pairs_apart)
theorem ok__law_pairs_apart {c__law_pairs_apart : FD} {k : Nat} (T : Txt w K mg ct C_Thing) (C__law_pairs_apart : Callee P w K mg base ct k "_law_pairs_apart" 1 c__law_pairs_apart) : Callee P w K mg base ct (k + 1) "_law_pairs_apart" 1 (d__law_pairs_apart c__law_pairs_apart) :=
  callee_of T.d__law_pairs_apart sc__law_pairs_apart fun f cdv A outer s H E hr =>
    (sss_cons (ss_if (st_cmp (op_eqAll hr) od_eq (se_var 0) (se_tup sa_nil) (nomark _)) (sss_one (ss_ret se_int)) sss_nil)
      (sss_cons (ss_asg (se_ix ix_seq od_ix (se_var 0) se_int (fun _ _ => rfl)) (sg_tup rfl (sgs_cons (sg_name (i := 1) sc__law_pairs_apart.nd rfl (Or.inr rfl)) (sgs_cons (sg_name (i := 2) sc__law_pairs_apart.nd rfl (Or.inr rfl)) sgs_nil))))
      (sss_cons (ss_set (i := 3) sc__law_pairs_apart.nd rfl (Or.inl rfl) (se_callTy call_tuple_of cd_tupleX (by rfl) T.n_tuple (by decide +kernel) (sa_cons (se_lc (own := [("_law_tie", 4)]) rfl sc__law_pairs_apart.nd (si_tup (se_var 0)) (blkOk_by (own := [("_law_tie", 4)]) (N := ["_law_ties", "_law_x", "_law_y", "_law_rest", "_law_tie"]) (sc := defScope s__law_pairs_apart) (by decide +kernel)) (fun _ _ _ _ _ => (sgw_name (i := 4) sc__law_pairs_apart.nd rfl (Or.inl rfl) (by decide))) (fun _ _ _ _ _ => (sts_one (SW.st (sw_and (st_cmp (op_notInX hr) od_notInX (se_var 1) (se_var 4) (by rfl)) (sw_and1 (st_cmp (op_notInX hr) od_notInX (se_var 2) (se_var 4) (by rfl))))))) (fun _ _ _ _ _ => (se_var 4))) sa_nil)))
      (sss_one (ss_ret (se_callB (call_max2 rfl) cd_max2 (by rfl) T.n_max (by decide +kernel) (sa_cons (se_op op_addX od_addX se_int (se_fn C__law_pairs_apart hr (by rfl) (sa_cons (se_var 3) sa_nil) (fCons_len (fun _ _ _ _ h => fNil_len h)))) (sa_cons (se_fn C__law_pairs_apart hr (by rfl) (sa_cons (se_sliceX (se_var 0) (so_some se_int) so_none) sa_nil) (fCons_len (fun _ _ _ _ h => fNil_len h))) sa_nil))))))))
theorem sc__law_is_crowd : FnScope ["_law_part", "_law_ties", "_law_x", "_law_y"] ["_law_part", "_law_ties"] (defScope s__law_is_crowd) := ⟨rfl, rfl, rfl, by decide +kernel, rfl, by decide +kernel, by decide +kernel⟩
def b__law_is_crowd : FS :=
  (sSeq (sFor (iTup (fVar 0)) (gN 2) (sIf (fTest (fBin gNe (fLc (iTup (fVar 0)) (gN 3) (tAndD (fTest (fBin gLtX (fVar 2) (fVar 3))) (fTest (fBin (gInX true) (fTup (fCons (fVar 2) (fCons (fVar 3) fNil))) (fVar 1)))) (fVar 3) [3]) (fLst fNil))) (sRet (fC (.bl false))) sSkip))
    (sRet (fC (.bl true))))
def d__law_is_crowd : FD := runD 4 (b__law_is_crowd)
theorem ok__law_is_crowd {k : Nat} (T : Txt w K mg ct C_Thing) : Callee P w K mg base ct (k + 1) "_law_is_crowd" 2 (d__law_is_crowd) :=
  callee_of T.d__law_is_crowd sc__law_is_crowd fun f cdv A outer s H E hr =>
    (sss_cons (ss_for PassesOwn.never rfl (si_tup (se_var 0)) (sg_name (i := 2) sc__law_is_crowd.nd rfl (Or.inr rfl)) (sss_one (ss_if (st_cmp (op_neAll hr) od_ne (se_lc (own := [("_law_y", 3)]) rfl sc__law_is_crowd.nd (si_tup (se_var 0)) (blkOk_by (own := [("_law_y", 3)]) (N := ["_law_part", "_law_ties", "_law_x", "_law_y"]) (sc := defScope s__law_is_crowd) (by decide +kernel)) (fun _ _ _ _ _ => (sgw_name (i := 3) sc__law_is_crowd.nd rfl (Or.inl rfl) (by decide))) (fun _ _ _ _ _ => (sts_one (SW.st (sw_and (st_cmp (op_ltX hr) od_ltX (se_var 2) (se_var 3) (nomark _)) (sw_and1 (st_cmp (op_notInX hr) od_notInX (se_tup (sa_cons (se_var 2) (sa_cons (se_var 3) sa_nil))) (se_var 1) (by rfl))))))) (fun _ _ _ _ _ => (se_var 3))) (se_lst sa_nil) (nomark _)) (sss_one (ss_ret se_bl)) sss_nil)))
      (sss_one (ss_ret se_bl)))
theorem sc__law_core : FnScope ["_law_ties", "_law_folk", "_law_k", "_law_left", "_law_turn", "_law_x", "_law_y"] ["_law_ties", "_law_folk", "_law_k"] (defScope s__law_core) := ⟨rfl, rfl, rfl, by decide +kernel, rfl, by decide +kernel, by decide +kernel⟩
def b__law_core (c__law_tied : FD) : FS :=
  (sSeq (sAsg (fVar 1) (gN 3))
    (sSeq (sFor (iRange1 (fCons (fCall cLen (fCons (fVar 1) fNil)) fNil)) (gN 4) (sAsg (fCall cTupleX (fCons (fLc (iTup (fVar 3)) (gN 5) (fTest (fBin gGe (fCall cLen (fCons (fLc (iTup (fVar 3)) (gN 6) (fTest (fCall c__law_tied (fCons (fVar 0) (fCons (fVar 5) (fCons (fVar 6) fNil))))) (fVar 6) [6]) fNil)) (fVar 2))) (fVar 5) [5]) fNil)) (gN 3)))
    (sRet (fVar 3))))
def d__law_core (c__law_tied : FD) : FD := runD 7 (b__law_core c__law_tied)
theorem ok__law_core {c__law_tied : FD} {k : Nat} (T : Txt w K mg ct C_Thing) (C__law_tied : Callee P w K mg base ct k "_law_tied" 3 c__law_tied) : Callee P w K mg base ct (k + 1) "_law_core" 3 (d__law_core c__law_tied) :=
  callee_of T.d__law_core sc__law_core fun f cdv A outer s H E hr =>
    (sss_cons (ss_set (i := 3) sc__law_core.nd rfl (Or.inr rfl) (se_var 1))
      (sss_cons (ss_for PassesOwn.never rfl (si_range1 (by rfl) T.n_range (sa_cons (se_callB call_lenAll cd_len (by rfl) T.n_len (by decide +kernel) (sa_cons (se_var 1) sa_nil)) sa_nil)) (sg_name (i := 4) sc__law_core.nd rfl (Or.inl rfl)) (sss_one (ss_set (i := 3) sc__law_core.nd rfl (Or.inr rfl) (se_callTy call_tuple_of cd_tupleX (by rfl) T.n_tuple (by decide +kernel) (sa_cons (se_lc (own := [("_law_x", 5)]) rfl sc__law_core.nd (si_tup (se_var 3)) (blkOk_by (own := [("_law_x", 5)]) (N := ["_law_ties", "_law_folk", "_law_k", "_law_left", "_law_turn", "_law_x", "_law_y"]) (sc := defScope s__law_core) (by decide +kernel)) (fun _ _ _ _ _ => (sgw_name (i := 5) sc__law_core.nd rfl (Or.inr rfl) (by decide))) (fun _ _ _ _ _ => (sts_one (st_cmp op_ge od_ge (se_callB call_lenAll cd_len (by rfl) T.n_len (by decide +kernel) (sa_cons (se_lc (own := [("_law_y", 6)]) rfl sc__law_core.nd (si_tup (se_var 3)) (blkOk_by (by kernel_rfl)) (fun _ _ _ _ _ => (sgw_name (i := 6) sc__law_core.nd rfl (Or.inl rfl) (by decide))) (fun _ _ _ _ _ => (sts_one (st_val (se_fn C__law_tied hr (by rfl) (sa_cons (se_var 0) (sa_cons (se_var 5) (sa_cons (se_var 6) sa_nil))) (fCons_len (fCons_len (fCons_len (fun _ _ _ _ h => fNil_len h)))))))) (fun _ _ _ _ _ => (se_var 6))) sa_nil)) (se_var 2) (nomark _)))) (fun _ _ _ _ _ => (se_var 5))) sa_nil)))))
      (sss_one (ss_ret (se_var 3)))))
theorem sc__law_holds : FnScope ["_law_kind", "_law_k", "_law_many", "_law_ties", "_law_folk", "_law_sizes", "_law_lot", "_law_part", "_law_size", "_law_x", "_law_tie"] ["_law_kind", "_law_k", "_law_many", "_law_ties"] (defScope s__law_holds) := ⟨rfl, rfl, rfl, by decide +kernel, rfl, by decide +kernel, by decide +kernel⟩
def b__law_holds (c__law_subsets : FD) (c__law_joined : FD) (c__law_core : FD) (c__law_is_crowd : FD) (c__law_rings : FD) (c__law_rows_of : FD) (c__law_pairs_apart : FD) : FS :=
  (sSeq (sAsg (fTupR1 (fVar 2)) (gN 4))
    (sSeq (sIf (fTest (fBin gEq (fVar 0) (fC (.str "pairs")))) (sRet (fBin gGe (fCall c__law_pairs_apart (fCons (fVar 3) fNil)) (fVar 1))) sSkip)
    (sSeq (sIf (fTest (fBin gEq (fVar 0) (fC (.str "row")))) (sRet (fAnd (fBin gLeX (fVar 1) (fVar 2)) (fBin gNe (fCall c__law_rows_of (fCons (fVar 2) (fCons (fVar 3) (fCons (fVar 1) fNil)))) (fLst fNil)))) sSkip)
    (sSeq (sIf (fTest (fBin (gInX false) (fC (.str "ring")) (fVar 0))) (sSeq (sAsg (fCall c__law_rings (fCons (fVar 2) (fCons (fVar 3) fNil))) (gN 5))
    (sSeq (sIf (fTest (fBin gEq (fVar 0) (fC (.str "ring")))) (sRet (fBin gNe (fLc (iLst (fVar 5)) (gN 8) (fTest (fBin gGe (fVar 8) (fVar 1))) (fVar 8) [8]) (fLst fNil))) sSkip)
    (sRet (fBin gNe (fLc (iLst (fVar 5)) (gN 8) (fTest (fBin gEq (fBin gMod (fCall cInt (fCons (fVar 8) fNil)) (fC (.int 2))) (fCall cInt (fCons (fBin gEq (fVar 0) (fC (.str "odd ring"))) fNil)))) (fVar 8) [8]) (fLst fNil))))) sSkip)
    (sSeq (sIf (fTest (fBin gEq (fVar 0) (fC (.str "star")))) (sRet (fBin gNe (fLc (iTup (fVar 4)) (gN 9) (fTest (fBin gGe (fCall cLen (fCons (fLc (iTup (fVar 3)) (gN 10) (fTest (fBin (gInX false) (fVar 9) (fVar 10))) (fVar 10) [10]) fNil)) (fVar 1))) (fVar 9) [9]) (fLst fNil))) sSkip)
    (sSeq (sIf (fTest (fBin gEq (fVar 0) (fC (.str "crowd")))) (sRet (fBin gNe (fLc (iLst (fCall c__law_subsets (fCons (fVar 4) fNil))) (gN 7) (tAndD (fTest (fBin gEq (fCall cLen (fCons (fVar 7) fNil)) (fVar 1))) (fTest (fCall c__law_is_crowd (fCons (fVar 7) (fCons (fVar 3) fNil))))) (fVar 7) [7]) (fLst fNil))) sSkip)
    (sSeq (sIf (fTest (fBin gEq (fVar 0) (fC (.str "core")))) (sRet (fBin gNe (fCall c__law_core (fCons (fVar 3) (fCons (fVar 4) (fCons (fVar 1) fNil)))) (fTup fNil))) sSkip)
    (sSeq (sFor (iLst (fLc (iLst (fCall c__law_subsets (fCons (fVar 4) fNil))) (gN 7) (fTest (fBin gLtX (fCall cLen (fCons (fVar 7) fNil)) (fVar 1))) (fVar 7) [7])) (gN 6) (sIf (tNotD (fTest (fCall c__law_joined (fCons (fVar 3) (fCons (fLc (iTup (fVar 4)) (gN 9) (fTest (fBin (gInX true) (fVar 9) (fVar 6))) (fVar 9) [9]) fNil))))) (sRet (fC (.bl false))) sSkip))
    (sRet (fBin gGt (fVar 2) (fVar 1)))))))))))
def d__law_holds (c__law_subsets : FD) (c__law_joined : FD) (c__law_core : FD) (c__law_is_crowd : FD) (c__law_rings : FD) (c__law_rows_of : FD) (c__law_pairs_apart : FD) : FD := runD 11 (b__law_holds c__law_subsets c__law_joined c__law_core c__law_is_crowd c__law_rings c__law_rows_of c__law_pairs_apart)
theorem ok__law_holds {c__law_subsets : FD} {c__law_joined : FD} {c__law_core : FD} {c__law_is_crowd : FD} {c__law_rings : FD} {c__law_rows_of : FD} {c__law_pairs_apart : FD} {k : Nat} (T : Txt w K mg ct C_Thing) (C__law_subsets : Callee P w K mg base ct k "_law_subsets" 1 c__law_subsets) (C__law_joined : Callee P w K mg base ct k "_law_joined" 2 c__law_joined) (C__law_core : Callee P w K mg base ct k "_law_core" 3 c__law_core) (C__law_is_crowd : Callee P w K mg base ct k "_law_is_crowd" 2 c__law_is_crowd) (C__law_rings : Callee P w K mg base ct k "_law_rings" 2 c__law_rings) (C__law_rows_of : Callee P w K mg base ct k "_law_rows_of" 3 c__law_rows_of) (C__law_pairs_apart : Callee P w K mg base ct k "_law_pairs_apart" 1 c__law_pairs_apart) : Callee P w K mg base ct (k + 1) "_law_holds" 4 (d__law_holds c__law_subsets c__law_joined c__law_core c__law_is_crowd c__law_rings c__law_rows_of c__law_pairs_apart) :=
  callee_of T.d__law_holds sc__law_holds fun f cdv A outer s H E hr =>
    (sss_cons (ss_set (i := 4) sc__law_holds.nd rfl (Or.inl rfl) (se_tupR1 rfl (by rfl) T.n_tuple (by rfl) T.n_range (se_var 2)))
      (sss_cons (ss_if (st_cmp (op_eqAll hr) od_eq (se_var 0) se_str (nomark _)) (sss_one (ss_ret (se_cmp op_ge od_ge (se_fn C__law_pairs_apart hr (by rfl) (sa_cons (se_var 3) sa_nil) (fCons_len (fun _ _ _ _ h => fNil_len h))) (se_var 1) (nomark _)))) sss_nil)
      (sss_cons (ss_if (st_cmp (op_eqAll hr) od_eq (se_var 0) se_str (nomark _)) (sss_one (ss_ret (se_and (se_cmp (op_leX hr) od_leX (se_var 1) (se_var 2) (nomark _)) (se_one (se_cmp (op_neAll hr) od_ne (se_fn C__law_rows_of hr (by rfl) (sa_cons (se_var 2) (sa_cons (se_var 3) (sa_cons (se_var 1) sa_nil))) (fCons_len (fCons_len (fCons_len (fun _ _ _ _ h => fNil_len h))))) (se_lst sa_nil) (nomark _)))))) sss_nil)
      (sss_cons (ss_if (st_cmp (op_inX hr) od_inX se_str (se_var 0) (by rfl)) (sss_cons (ss_set (i := 5) sc__law_holds.nd rfl (Or.inl rfl) (se_fn C__law_rings hr (by rfl) (sa_cons (se_var 2) (sa_cons (se_var 3) sa_nil)) (fCons_len (fCons_len (fun _ _ _ _ h => fNil_len h)))))
      (sss_cons (ss_if (st_cmp (op_eqAll hr) od_eq (se_var 0) se_str (nomark _)) (sss_one (ss_ret (se_cmp (op_neAll hr) od_ne (se_lc (own := [("_law_size", 8)]) rfl sc__law_holds.nd (si_list (se_var 5)) (blkOk_by (own := [("_law_size", 8)]) (N := ["_law_kind", "_law_k", "_law_many", "_law_ties", "_law_folk", "_law_sizes", "_law_lot", "_law_part", "_law_size", "_law_x", "_law_tie"]) (sc := defScope s__law_holds) (by decide +kernel)) (fun _ _ _ _ _ => (sgw_name (i := 8) sc__law_holds.nd rfl (Or.inl rfl) (by decide))) (fun _ _ _ _ _ => (sts_one (st_cmp op_ge od_ge (se_var 8) (se_var 1) (nomark _)))) (fun _ _ _ _ _ => (se_var 8))) (se_lst sa_nil) (nomark _)))) sss_nil)
      (sss_one (ss_ret (se_cmp (op_neAll hr) od_ne (se_lc (own := [("_law_size", 8)]) rfl sc__law_holds.nd (si_list (se_var 5)) (blkOk_by (own := [("_law_size", 8)]) (N := ["_law_kind", "_law_k", "_law_many", "_law_ties", "_law_folk", "_law_sizes", "_law_lot", "_law_part", "_law_size", "_law_x", "_law_tie"]) (sc := defScope s__law_holds) (by decide +kernel)) (fun _ _ _ _ _ => (sgw_name (i := 8) sc__law_holds.nd rfl (Or.inl rfl) (by decide))) (fun _ _ _ _ _ => (sts_one (st_cmp (op_eqAll hr) od_eq (se_op op_mod od_mod (se_callTy call_intAll cd_int (by rfl) T.n_int (by decide +kernel) (sa_cons (se_var 8) sa_nil)) se_int) (se_callTy call_intAll cd_int (by rfl) T.n_int (by decide +kernel) (sa_cons (se_cmp (op_eqAll hr) od_eq (se_var 0) se_str (nomark _)) sa_nil)) (nomark _)))) (fun _ _ _ _ _ => (se_var 8))) (se_lst sa_nil) (nomark _)))))) sss_nil)
      (sss_cons (ss_if (st_cmp (op_eqAll hr) od_eq (se_var 0) se_str (nomark _)) (sss_one (ss_ret (se_cmp (op_neAll hr) od_ne (se_lc (own := [("_law_x", 9)]) rfl sc__law_holds.nd (si_tup (se_var 4)) (blkOk_by (own := [("_law_x", 9)]) (N := ["_law_kind", "_law_k", "_law_many", "_law_ties", "_law_folk", "_law_sizes", "_law_lot", "_law_part", "_law_size", "_law_x", "_law_tie"]) (sc := defScope s__law_holds) (by decide +kernel)) (fun _ _ _ _ _ => (sgw_name (i := 9) sc__law_holds.nd rfl (Or.inr rfl) (by decide))) (fun _ _ _ _ _ => (sts_one (st_cmp op_ge od_ge (se_callB call_lenAll cd_len (by rfl) T.n_len (by decide +kernel) (sa_cons (se_lc (own := [("_law_tie", 10)]) rfl sc__law_holds.nd (si_tup (se_var 3)) (blkOk_by (by kernel_rfl)) (fun _ _ _ _ _ => (sgw_name (i := 10) sc__law_holds.nd rfl (Or.inl rfl) (by decide))) (fun _ _ _ _ _ => (sts_one (st_cmp (op_inX hr) od_inX (se_var 9) (se_var 10) (by rfl)))) (fun _ _ _ _ _ => (se_var 10))) sa_nil)) (se_var 1) (nomark _)))) (fun _ _ _ _ _ => (se_var 9))) (se_lst sa_nil) (nomark _)))) sss_nil)
      (sss_cons (ss_if (st_cmp (op_eqAll hr) od_eq (se_var 0) se_str (nomark _)) (sss_one (ss_ret (se_cmp (op_neAll hr) od_ne (se_lc (own := [("_law_part", 7)]) rfl sc__law_holds.nd (si_list (se_fn C__law_subsets hr (by rfl) (sa_cons (se_var 4) sa_nil) (fCons_len (fun _ _ _ _ h => fNil_len h)))) (blkOk_by (own := [("_law_part", 7)]) (N := ["_law_kind", "_law_k", "_law_many", "_law_ties", "_law_folk", "_law_sizes", "_law_lot", "_law_part", "_law_size", "_law_x", "_law_tie"]) (sc := defScope s__law_holds) (by decide +kernel)) (fun _ _ _ _ _ => (sgw_name (i := 7) sc__law_holds.nd rfl (Or.inl rfl) (by decide))) (fun _ _ _ _ _ => (sts_one (SW.st (sw_and (st_cmp (op_eqAll hr) od_eq (se_callB call_lenAll cd_len (by rfl) T.n_len (by decide +kernel) (sa_cons (se_var 7) sa_nil)) (se_var 1) (nomark _)) (sw_and1 (st_val (se_fn C__law_is_crowd hr (by rfl) (sa_cons (se_var 7) (sa_cons (se_var 3) sa_nil)) (fCons_len (fCons_len (fun _ _ _ _ h => fNil_len h)))))))))) (fun _ _ _ _ _ => (se_var 7))) (se_lst sa_nil) (nomark _)))) sss_nil)
      (sss_cons (ss_if (st_cmp (op_eqAll hr) od_eq (se_var 0) se_str (nomark _)) (sss_one (ss_ret (se_cmp (op_neAll hr) od_ne (se_fn C__law_core hr (by rfl) (sa_cons (se_var 3) (sa_cons (se_var 4) (sa_cons (se_var 1) sa_nil))) (fCons_len (fCons_len (fCons_len (fun _ _ _ _ h => fNil_len h))))) (se_tup sa_nil) (nomark _)))) sss_nil)
      (sss_cons (ss_for PassesOwn.never rfl (si_list (se_lc (own := [("_law_part", 7)]) rfl sc__law_holds.nd (si_list (se_fn C__law_subsets hr (by rfl) (sa_cons (se_var 4) sa_nil) (fCons_len (fun _ _ _ _ h => fNil_len h)))) (blkOk_by (own := [("_law_part", 7)]) (N := ["_law_kind", "_law_k", "_law_many", "_law_ties", "_law_folk", "_law_sizes", "_law_lot", "_law_part", "_law_size", "_law_x", "_law_tie"]) (sc := defScope s__law_holds) (by decide +kernel)) (fun _ _ _ _ _ => (sgw_name (i := 7) sc__law_holds.nd rfl (Or.inl rfl) (by decide))) (fun _ _ _ _ _ => (sts_one (st_cmp (op_ltX hr) od_ltX (se_callB call_lenAll cd_len (by rfl) T.n_len (by decide +kernel) (sa_cons (se_var 7) sa_nil)) (se_var 1) (nomark _)))) (fun _ _ _ _ _ => (se_var 7)))) (sg_name (i := 6) sc__law_holds.nd rfl (Or.inr rfl)) (sss_one (ss_if (st_not (st_val (se_fn C__law_joined hr (by rfl) (sa_cons (se_var 3) (sa_cons (se_lc (own := [("_law_x", 9)]) rfl sc__law_holds.nd (si_tup (se_var 4)) (blkOk_by (own := [("_law_x", 9)]) (N := ["_law_kind", "_law_k", "_law_many", "_law_ties", "_law_folk", "_law_sizes", "_law_lot", "_law_part", "_law_size", "_law_x", "_law_tie"]) (sc := defScope s__law_holds) (by decide +kernel)) (fun _ _ _ _ _ => (sgw_name (i := 9) sc__law_holds.nd rfl (Or.inl rfl) (by decide))) (fun _ _ _ _ _ => (sts_one (st_cmp (op_notInX hr) od_notInX (se_var 9) (se_var 6) (by rfl)))) (fun _ _ _ _ _ => (se_var 9))) sa_nil)) (fCons_len (fCons_len (fun _ _ _ _ h => fNil_len h)))))) (sss_one (ss_ret se_bl)) sss_nil)))
      (sss_one (ss_ret (se_cmp op_gt od_gt (se_var 2) (se_var 1) (nomark _))))))))))))
theorem sc__law_things : FnScope ["_law_most_here", "_law_found", "_law_kind", "_law_least_here", "_law_k"] ["_law_most_here"] (defScope s__law_things) := ⟨rfl, rfl, rfl, by decide +kernel, rfl, by decide +kernel, by decide +kernel⟩
def b__law_things : FS :=
  (sSeq (sAsg (fLst (fCons (fTup (fCons (fC (.str "odd ring")) (fCons (fC .non) fNil))) (fCons (fTup (fCons (fC (.str "even ring")) (fCons (fC .non) fNil))) fNil))) (gN 1))
    (sSeq (sFor (iLst (fLst (fCons (fTup (fCons (fC (.str "crowd")) (fCons (fC (.int 2)) fNil))) (fCons (fTup (fCons (fC (.str "star")) (fCons (fC (.int 1)) fNil))) (fCons (fTup (fCons (fC (.str "pairs")) (fCons (fC (.int 1)) fNil))) (fCons (fTup (fCons (fC (.str "row")) (fCons (fC (.int 2)) fNil))) (fCons (fTup (fCons (fC (.str "ring")) (fCons (fC (.int 3)) fNil))) (fCons (fTup (fCons (fC (.str "core")) (fCons (fC (.int 1)) fNil))) (fCons (fTup (fCons (fC (.str "linked")) (fCons (fC (.int 1)) fNil))) fNil))))))))) (gTup 2 (gCons (gN 2) (gCons (gN 3) gNil))) (sAsg (fBin gAddX (fVar 1) (fLc (iRange2 (fCons (fVar 3) (fCons (fBin gAddX (fVar 0) (fC (.int 1))) fNil))) (gN 4) tYesD (fTup (fCons (fVar 2) (fCons (fVar 4) fNil))) [4])) (gN 1)))
    (sRet (fVar 1))))
def d__law_things : FD := runD 5 (b__law_things)
theorem ok__law_things {k : Nat} (T : Txt w K mg ct C_Thing) : Callee P w K mg base ct (k + 1) "_law_things" 1 (d__law_things) :=
  callee_of T.d__law_things sc__law_things fun f cdv A outer s H E hr =>
    (sss_cons (ss_set (i := 1) sc__law_things.nd rfl (Or.inl rfl) (se_lst (sa_cons (se_tup (sa_cons se_str (sa_cons se_non sa_nil))) (sa_cons (se_tup (sa_cons se_str (sa_cons se_non sa_nil))) sa_nil))))
      (sss_cons (ss_for PassesOwn.never rfl (si_list (se_lst (sa_cons (se_tup (sa_cons se_str (sa_cons se_int sa_nil))) (sa_cons (se_tup (sa_cons se_str (sa_cons se_int sa_nil))) (sa_cons (se_tup (sa_cons se_str (sa_cons se_int sa_nil))) (sa_cons (se_tup (sa_cons se_str (sa_cons se_int sa_nil))) (sa_cons (se_tup (sa_cons se_str (sa_cons se_int sa_nil))) (sa_cons (se_tup (sa_cons se_str (sa_cons se_int sa_nil))) (sa_cons (se_tup (sa_cons se_str (sa_cons se_int sa_nil))) sa_nil))))))))) (sg_tup rfl (sgs_cons (sg_name (i := 2) sc__law_things.nd rfl (Or.inr rfl)) (sgs_cons (sg_name (i := 3) sc__law_things.nd rfl (Or.inl rfl)) sgs_nil))) (sss_one (ss_set (i := 1) sc__law_things.nd rfl (Or.inl rfl) (se_op op_addX od_addX (se_var 1) (se_lc (own := [("_law_k", 4)]) rfl sc__law_things.nd (si_range2 (by rfl) T.n_range (sa_cons (se_var 3) (sa_cons (se_op op_addX od_addX (se_var 0) se_int) sa_nil))) (blkOk_by (own := [("_law_k", 4)]) (N := ["_law_most_here", "_law_found", "_law_kind", "_law_least_here", "_law_k"]) (sc := defScope s__law_things) (by decide +kernel)) (fun _ _ _ _ _ => (sgw_name (i := 4) sc__law_things.nd rfl (Or.inl rfl) (by decide))) (fun _ _ _ _ _ => sts_nil) (fun _ _ _ _ _ => (se_tup (sa_cons (se_var 2) (sa_cons (se_var 4) sa_nil)))))))))
      (sss_one (ss_ret (se_var 1)))))
theorem sc__law_two : FnScope ["_law_many"] ["_law_many"] (defScope s__law_two) := ⟨rfl, rfl, rfl, by decide +kernel, rfl, by decide +kernel, by decide +kernel⟩
def b__law_two : FS :=
  (sRet (fBin gFdiv (fBin gMul (fVar 0) (fBin gSubI (fVar 0) (fC (.int 1)))) (fC (.int 2))))
def d__law_two : FD := runD 1 (b__law_two)
theorem ok__law_two {k : Nat} (T : Txt w K mg ct C_Thing) : Callee P w K mg base ct (k + 1) "_law_two" 1 (d__law_two) :=
  callee_of T.d__law_two sc__law_two fun f cdv A outer s H E hr =>
    (sss_one (ss_ret (se_op op_fdivW od_fdiv (se_op op_mulW od_mul (se_var 0) (se_op op_sub od_sub (se_var 0) se_int)) se_int)))
theorem sc__law_most : FnScope ["_law_kind", "_law_k", "_law_n", "_law_size", "_law_rest", "_law_more"] ["_law_kind", "_law_k", "_law_n"] (defScope s__law_most) := ⟨rfl, rfl, rfl, by decide +kernel, rfl, by decide +kernel, by decide +kernel⟩
def b__law_most (c__law_two : FD) : FS :=
  (sSeq (sIf (fTest (fBin gEq (fVar 0) (fC (.str "crowd")))) (sSeq (sPar 3 4 (fCons (fBin gFdiv (fVar 2) (fBin gSubI (fVar 1) (fC (.int 1)))) (fCons (fBin gMod (fCall cInt (fCons (fVar 2) fNil)) (fBin gSubI (fVar 1) (fC (.int 1)))) fNil)))
    (sRet (fBin gSubI (fBin gSubI (fCall c__law_two (fCons (fVar 2) fNil)) (fBin gMul (fVar 4) (fCall c__law_two (fCons (fBin gAddX (fVar 3) (fC (.int 1))) fNil)))) (fBin gMul (fBin gSubI (fBin gSubI (fVar 1) (fC (.int 1))) (fVar 4)) (fCall c__law_two (fCons (fVar 3) fNil)))))) sSkip)
    (sSeq (sIf (fTest (fBin gEq (fVar 0) (fC (.str "star")))) (sRet (fCall cMin2 (fCons (fCall c__law_two (fCons (fVar 2) fNil)) (fCons (fBin gFdiv (fBin gMul (fVar 2) (fBin gSubI (fVar 1) (fC (.int 1)))) (fC (.int 2))) fNil)))) sSkip)
    (sSeq (sIf (fTest (fBin gEq (fVar 0) (fC (.str "pairs")))) (sSeq (sAsg (fBin gAddX (fCall c__law_two (fCons (fBin gSubI (fVar 1) (fC (.int 1))) fNil)) (fBin gMul (fBin gSubI (fVar 1) (fC (.int 1))) (fBin gAddX (fBin gSubI (fVar 2) (fVar 1)) (fC (.int 1))))) (gN 5))
    (sRet (fIf (fTest (fBin gLtX (fVar 2) (fBin gMul (fC (.int 2)) (fVar 1)))) (fCall c__law_two (fCons (fVar 2) fNil)) (fCall cMax2 (fCons (fCall c__law_two (fCons (fBin gSubI (fBin gMul (fC (.int 2)) (fVar 1)) (fC (.int 1))) fNil)) (fCons (fVar 5) fNil)))))) sSkip)
    (sSeq (sIf (fTest (fBin gEq (fVar 0) (fC (.str "row")))) (sRet (fBin gAddX (fBin gMul (fBin gFdiv (fVar 2) (fBin gSubI (fVar 1) (fC (.int 1)))) (fCall c__law_two (fCons (fBin gSubI (fVar 1) (fC (.int 1))) fNil))) (fCall c__law_two (fCons (fBin gMod (fCall cInt (fCons (fVar 2) fNil)) (fBin gSubI (fVar 1) (fC (.int 1)))) fNil)))) sSkip)
    (sSeq (sIf (fTest (fBin gEq (fVar 0) (fC (.str "core")))) (sRet (fIf (fTest (fBin gLtX (fVar 2) (fVar 1))) (fCall c__law_two (fCons (fVar 2) fNil)) (fBin gSubI (fBin gMul (fBin gSubI (fVar 1) (fC (.int 1))) (fVar 2)) (fCall c__law_two (fCons (fVar 1) fNil))))) sSkip)
    (sSeq (sIf (fTest (fBin gEq (fVar 0) (fC (.str "linked")))) (sRet (fIf (fTest (fBin gLeX (fVar 2) (fVar 1))) (fCall c__law_two (fCons (fVar 2) fNil)) (fBin gSubI (fBin gAddX (fCall c__law_two (fCons (fBin gSubI (fVar 2) (fC (.int 1))) fNil)) (fVar 1)) (fC (.int 1))))) sSkip)
    (sSeq (sIf (tOrD (fTest (fBin gEq (fVar 2) (fC (.int 0)))) (fTest (fBin gEq (fVar 0) (fC (.str "odd ring"))))) (sRet (fBin gFdiv (fBin gMul (fVar 2) (fVar 2)) (fC (.int 4)))) sSkip)
    (sSeq (sIf (fTest (fBin gEq (fVar 0) (fC (.str "even ring")))) (sRet (fBin gFdiv (fBin gMul (fC (.int 3)) (fBin gSubI (fVar 2) (fC (.int 1)))) (fC (.int 2)))) sSkip)
    (sRet (fBin gAddX (fBin gMul (fBin gFdiv (fBin gSubI (fVar 2) (fC (.int 1))) (fBin gSubI (fVar 1) (fC (.int 2)))) (fCall c__law_two (fCons (fBin gSubI (fVar 1) (fC (.int 1))) fNil))) (fCall c__law_two (fCons (fBin gAddX (fBin gMod (fCall cInt (fCons (fBin gSubI (fVar 2) (fC (.int 1))) fNil)) (fBin gSubI (fVar 1) (fC (.int 2)))) (fC (.int 1))) fNil))))))))))))
def d__law_most (c__law_two : FD) : FD := runD 6 (b__law_most c__law_two)
theorem ok__law_most {c__law_two : FD} {k : Nat} (T : Txt w K mg ct C_Thing) (C__law_two : Callee P w K mg base ct k "_law_two" 1 c__law_two) : Callee P w K mg base ct (k + 1) "_law_most" 3 (d__law_most c__law_two) :=
  callee_of T.d__law_most sc__law_most fun f cdv A outer s H E hr =>
    (sss_cons (ss_if (st_cmp (op_eqAll hr) od_eq (se_var 0) se_str (nomark _)) (sss_cons (ss_par (i := 3) (j := 4) (fun ta h => ps_par rfl sc__law_most.nd rfl rfl (by decide) rfl rfl h (by rfl)) (sa_cons (se_op op_fdivW od_fdiv (se_var 2) (se_op op_sub od_sub (se_var 1) se_int)) (sa_cons (se_op op_mod od_mod (se_callTy call_intAll cd_int (by rfl) T.n_int (by decide +kernel) (sa_cons (se_var 2) sa_nil)) (se_op op_sub od_sub (se_var 1) se_int)) sa_nil)))
      (sss_one (ss_ret (se_op op_sub od_sub (se_op op_sub od_sub (se_fn C__law_two hr (by rfl) (sa_cons (se_var 2) sa_nil) (fCons_len (fun _ _ _ _ h => fNil_len h))) (se_op op_mulW od_mul (se_var 4) (se_fn C__law_two hr (by rfl) (sa_cons (se_op op_addX od_addX (se_var 3) se_int) sa_nil) (fCons_len (fun _ _ _ _ h => fNil_len h))))) (se_op op_mulW od_mul (se_op op_sub od_sub (se_op op_sub od_sub (se_var 1) se_int) (se_var 4)) (se_fn C__law_two hr (by rfl) (sa_cons (se_var 3) sa_nil) (fCons_len (fun _ _ _ _ h => fNil_len h)))))))) sss_nil)
      (sss_cons (ss_if (st_cmp (op_eqAll hr) od_eq (se_var 0) se_str (nomark _)) (sss_one (ss_ret (se_callB (call_min2 rfl) cd_min2 (by rfl) T.n_min (by decide +kernel) (sa_cons (se_fn C__law_two hr (by rfl) (sa_cons (se_var 2) sa_nil) (fCons_len (fun _ _ _ _ h => fNil_len h))) (sa_cons (se_op op_fdivW od_fdiv (se_op op_mulW od_mul (se_var 2) (se_op op_sub od_sub (se_var 1) se_int)) se_int) sa_nil))))) sss_nil)
      (sss_cons (ss_if (st_cmp (op_eqAll hr) od_eq (se_var 0) se_str (nomark _)) (sss_cons (ss_set (i := 5) sc__law_most.nd rfl (Or.inl rfl) (se_op op_addX od_addX (se_fn C__law_two hr (by rfl) (sa_cons (se_op op_sub od_sub (se_var 1) se_int) sa_nil) (fCons_len (fun _ _ _ _ h => fNil_len h))) (se_op op_mulW od_mul (se_op op_sub od_sub (se_var 1) se_int) (se_op op_addX od_addX (se_op op_sub od_sub (se_var 2) (se_var 1)) se_int))))
      (sss_one (ss_ret (se_if (st_cmp (op_ltX hr) od_ltX (se_var 2) (se_op op_mulW od_mul se_int (se_var 1)) (nomark _)) (se_fn C__law_two hr (by rfl) (sa_cons (se_var 2) sa_nil) (fCons_len (fun _ _ _ _ h => fNil_len h))) (se_callB (call_max2 rfl) cd_max2 (by rfl) T.n_max (by decide +kernel) (sa_cons (se_fn C__law_two hr (by rfl) (sa_cons (se_op op_sub od_sub (se_op op_mulW od_mul se_int (se_var 1)) se_int) sa_nil) (fCons_len (fun _ _ _ _ h => fNil_len h))) (sa_cons (se_var 5) sa_nil))))))) sss_nil)
      (sss_cons (ss_if (st_cmp (op_eqAll hr) od_eq (se_var 0) se_str (nomark _)) (sss_one (ss_ret (se_op op_addX od_addX (se_op op_mulW od_mul (se_op op_fdivW od_fdiv (se_var 2) (se_op op_sub od_sub (se_var 1) se_int)) (se_fn C__law_two hr (by rfl) (sa_cons (se_op op_sub od_sub (se_var 1) se_int) sa_nil) (fCons_len (fun _ _ _ _ h => fNil_len h)))) (se_fn C__law_two hr (by rfl) (sa_cons (se_op op_mod od_mod (se_callTy call_intAll cd_int (by rfl) T.n_int (by decide +kernel) (sa_cons (se_var 2) sa_nil)) (se_op op_sub od_sub (se_var 1) se_int)) sa_nil) (fCons_len (fun _ _ _ _ h => fNil_len h)))))) sss_nil)
      (sss_cons (ss_if (st_cmp (op_eqAll hr) od_eq (se_var 0) se_str (nomark _)) (sss_one (ss_ret (se_if (st_cmp (op_ltX hr) od_ltX (se_var 2) (se_var 1) (nomark _)) (se_fn C__law_two hr (by rfl) (sa_cons (se_var 2) sa_nil) (fCons_len (fun _ _ _ _ h => fNil_len h))) (se_op op_sub od_sub (se_op op_mulW od_mul (se_op op_sub od_sub (se_var 1) se_int) (se_var 2)) (se_fn C__law_two hr (by rfl) (sa_cons (se_var 1) sa_nil) (fCons_len (fun _ _ _ _ h => fNil_len h))))))) sss_nil)
      (sss_cons (ss_if (st_cmp (op_eqAll hr) od_eq (se_var 0) se_str (nomark _)) (sss_one (ss_ret (se_if (st_cmp (op_leX hr) od_leX (se_var 2) (se_var 1) (nomark _)) (se_fn C__law_two hr (by rfl) (sa_cons (se_var 2) sa_nil) (fCons_len (fun _ _ _ _ h => fNil_len h))) (se_op op_sub od_sub (se_op op_addX od_addX (se_fn C__law_two hr (by rfl) (sa_cons (se_op op_sub od_sub (se_var 2) se_int) sa_nil) (fCons_len (fun _ _ _ _ h => fNil_len h))) (se_var 1)) se_int)))) sss_nil)
      (sss_cons (ss_if (SW.st (sw_or (st_cmp (op_eqAll hr) od_eq (se_var 2) se_int (nomark _)) (sw_or1 (st_cmp (op_eqAll hr) od_eq (se_var 0) se_str (nomark _))))) (sss_one (ss_ret (se_op op_fdivW od_fdiv (se_op op_mulW od_mul (se_var 2) (se_var 2)) se_int))) sss_nil)
      (sss_cons (ss_if (st_cmp (op_eqAll hr) od_eq (se_var 0) se_str (nomark _)) (sss_one (ss_ret (se_op op_fdivW od_fdiv (se_op op_mulW od_mul se_int (se_op op_sub od_sub (se_var 2) se_int)) se_int))) sss_nil)
      (sss_one (ss_ret (se_op op_addX od_addX (se_op op_mulW od_mul (se_op op_fdivW od_fdiv (se_op op_sub od_sub (se_var 2) se_int) (se_op op_sub od_sub (se_var 1) se_int)) (se_fn C__law_two hr (by rfl) (sa_cons (se_op op_sub od_sub (se_var 1) se_int) sa_nil) (fCons_len (fun _ _ _ _ h => fNil_len h)))) (se_fn C__law_two hr (by rfl) (sa_cons (se_op op_addX od_addX (se_op op_mod od_mod (se_callTy call_intAll cd_int (by rfl) T.n_int (by decide +kernel) (sa_cons (se_op op_sub od_sub (se_var 2) se_int) sa_nil)) (se_op op_sub od_sub (se_var 1) se_int)) se_int) sa_nil) (fCons_len (fun _ _ _ _ h => fNil_len h))))))))))))))
theorem sc__law_fewest : FnScope ["_law_kind", "_law_k"] ["_law_kind", "_law_k"] (defScope s__law_fewest) := ⟨rfl, rfl, rfl, by decide +kernel, rfl, by decide +kernel, by decide +kernel⟩
def b__law_fewest : FS :=
  (sSeq (sIf (fTest (fBin (gInX false) (fC (.str "ring")) (fVar 0))) (sRet (fDIx (fDispF ["ring", "odd ring", "even ring"] (fCons (fVar 1) (fCons (fC (.int 3)) (fCons (fC (.int 4)) fNil)))) (fVar 0))) sSkip)
    (sSeq (sIf (fTest (fBin gEq (fVar 0) (fC (.str "pairs")))) (sRet (fBin gMul (fC (.int 2)) (fVar 1))) sSkip)
    (sRet (fIf (fTest (fBin (gInX false) (fVar 0) (fLst (fCons (fC (.str "crowd")) (fCons (fC (.str "row")) fNil))))) (fVar 1) (fBin gAddX (fVar 1) (fC (.int 1)))))))
def d__law_fewest : FD := runD 2 (b__law_fewest)
theorem ok__law_fewest {k : Nat} (T : Txt w K mg ct C_Thing) : Callee P w K mg base ct (k + 1) "_law_fewest" 2 (d__law_fewest) :=
  callee_of T.d__law_fewest sc__law_fewest fun f cdv A outer s H E hr =>
    (sss_cons (ss_if (st_cmp (op_inX hr) od_inX se_str (se_var 0) (by rfl)) (sss_one (ss_ret (se_dix hr (se_dispF (sds_cons (se_var 1) (sds_cons se_int (sds_cons se_int sds_nil))) rfl rfl (fun z => by cases z)) (se_var 0) (fun _ _ => rfl)))) sss_nil)
      (sss_cons (ss_if (st_cmp (op_eqAll hr) od_eq (se_var 0) se_str (nomark _)) (sss_one (ss_ret (se_op op_mulW od_mul se_int (se_var 1)))) sss_nil)
      (sss_one (ss_ret (se_if (st_cmp (op_inX hr) od_inX (se_var 0) (se_lst (sa_cons se_str (sa_cons se_str sa_nil))) (by rfl)) (se_var 1) (se_op op_addX od_addX (se_var 1) se_int))))))
theorem sc__law_least : FnScope ["_law_kind", "_law_k", "_law_n"] ["_law_kind", "_law_k", "_law_n"] (defScope s__law_least) := ⟨rfl, rfl, rfl, by decide +kernel, rfl, by decide +kernel, by decide +kernel⟩
def b__law_least (c__law_two : FD) (c__law_fewest : FD) : FS :=
  (sSeq (sIf (fTest (fBin gLtX (fVar 2) (fCall c__law_fewest (fCons (fVar 0) (fCons (fVar 1) fNil))))) (sRet (fC .non)) sSkip)
    (sSeq (sIf (fTest (fBin gEq (fVar 0) (fC (.str "linked")))) (sRet (fIf (fTest (fBin gEq (fVar 1) (fC (.int 1)))) (fBin gSubI (fVar 2) (fC (.int 1))) (fBin gFdiv (fBin gAddX (fBin gMul (fVar 2) (fVar 1)) (fC (.int 1))) (fC (.int 2))))) sSkip)
    (sSeq (sIf (fTest (fBin (gInX false) (fVar 0) (fLst (fCons (fC (.str "star")) (fCons (fC (.str "pairs")) fNil))))) (sRet (fVar 1)) sSkip)
    (sSeq (sIf (fTest (fBin (gInX false) (fC (.str "ring")) (fVar 0))) (sRet (fCall c__law_fewest (fCons (fVar 0) (fCons (fVar 1) fNil)))) sSkip)
    (sSeq (sIf (fTest (fBin gEq (fVar 0) (fC (.str "row")))) (sRet (fBin gSubI (fVar 1) (fC (.int 1)))) sSkip)
    (sRet (fIf (fTest (fBin gEq (fVar 0) (fC (.str "crowd")))) (fCall c__law_two (fCons (fVar 1) fNil)) (fCall c__law_two (fCons (fBin gAddX (fVar 1) (fC (.int 1))) fNil)))))))))
def d__law_least (c__law_two : FD) (c__law_fewest : FD) : FD := runD 3 (b__law_least c__law_two c__law_fewest)
theorem ok__law_least {c__law_two : FD} {c__law_fewest : FD} {k : Nat} (T : Txt w K mg ct C_Thing) (C__law_two : Callee P w K mg base ct k "_law_two" 1 c__law_two) (C__law_fewest : Callee P w K mg base ct k "_law_fewest" 2 c__law_fewest) : Callee P w K mg base ct (k + 1) "_law_least" 3 (d__law_least c__law_two c__law_fewest) :=
  callee_of T.d__law_least sc__law_least fun f cdv A outer s H E hr =>
    (sss_cons (ss_if (st_cmp (op_ltX hr) od_ltX (se_var 2) (se_fn C__law_fewest hr (by rfl) (sa_cons (se_var 0) (sa_cons (se_var 1) sa_nil)) (fCons_len (fCons_len (fun _ _ _ _ h => fNil_len h)))) (nomark _)) (sss_one (ss_ret se_non)) sss_nil)
      (sss_cons (ss_if (st_cmp (op_eqAll hr) od_eq (se_var 0) se_str (nomark _)) (sss_one (ss_ret (se_if (st_cmp (op_eqAll hr) od_eq (se_var 1) se_int (nomark _)) (se_op op_sub od_sub (se_var 2) se_int) (se_op op_fdivW od_fdiv (se_op op_addX od_addX (se_op op_mulW od_mul (se_var 2) (se_var 1)) se_int) se_int)))) sss_nil)
      (sss_cons (ss_if (st_cmp (op_inX hr) od_inX (se_var 0) (se_lst (sa_cons se_str (sa_cons se_str sa_nil))) (by rfl)) (sss_one (ss_ret (se_var 1))) sss_nil)
      (sss_cons (ss_if (st_cmp (op_inX hr) od_inX se_str (se_var 0) (by rfl)) (sss_one (ss_ret (se_fn C__law_fewest hr (by rfl) (sa_cons (se_var 0) (sa_cons (se_var 1) sa_nil)) (fCons_len (fCons_len (fun _ _ _ _ h => fNil_len h)))))) sss_nil)
      (sss_cons (ss_if (st_cmp (op_eqAll hr) od_eq (se_var 0) se_str (nomark _)) (sss_one (ss_ret (se_op op_sub od_sub (se_var 1) se_int))) sss_nil)
      (sss_one (ss_ret (se_if (st_cmp (op_eqAll hr) od_eq (se_var 0) se_str (nomark _)) (se_fn C__law_two hr (by rfl) (sa_cons (se_var 1) sa_nil) (fCons_len (fun _ _ _ _ h => fNil_len h))) (se_fn C__law_two hr (by rfl) (sa_cons (se_op op_addX od_addX (se_var 1) se_int) sa_nil) (fCons_len (fun _ _ _ _ h => fNil_len h)))))))))))
theorem sc__law_fate : FnScope ["_law_sort", "_law_k", "_law_many", "_law_tally", "_law_parts", "_law_held", "_law_part"] ["_law_sort", "_law_k", "_law_many", "_law_tally"] (defScope s__law_fate) := ⟨rfl, rfl, rfl, by decide +kernel, rfl, by decide +kernel, by decide +kernel⟩
def b__law_fate (c__law_holds : FD) (c__law_subsets : FD) (c__law_all : FD) : FS :=
  (sSeq (sAsg (fLc (iLst (fCall c__law_subsets (fCons (fCall c__law_all (fCons (fVar 2) fNil)) fNil))) (gN 6) (fTest (fBin gEq (fCall cLen (fCons (fVar 6) fNil)) (fVar 3))) (fVar 6) [6]) (gN 4))
    (sSeq (sAsg (fCall cLen (fCons (fLc (iLst (fVar 4)) (gN 6) (fTest (fCall c__law_holds (fCons (fVar 0) (fCons (fVar 1) (fCons (fVar 2) (fCons (fVar 6) fNil)))))) (fVar 6) [6]) fNil)) (gN 5))
    (sRet (fIf (fTest (fBin gEq (fVar 5) (fC (.int 0)))) (fC (.str "never")) (fIf (fTest (fBin gEq (fVar 5) (fCall cLen (fCons (fVar 4) fNil)))) (fC (.str "always")) (fC (.str "perhaps")))))))
def d__law_fate (c__law_holds : FD) (c__law_subsets : FD) (c__law_all : FD) : FD := runD 7 (b__law_fate c__law_holds c__law_subsets c__law_all)
theorem ok__law_fate {c__law_holds : FD} {c__law_subsets : FD} {c__law_all : FD} {k : Nat} (T : Txt w K mg ct C_Thing) (C__law_holds : Callee P w K mg base ct k "_law_holds" 4 c__law_holds) (C__law_subsets : Callee P w K mg base ct k "_law_subsets" 1 c__law_subsets) (C__law_all : Callee P w K mg base ct k "_law_all" 1 c__law_all) : Callee P w K mg base ct (k + 1) "_law_fate" 4 (d__law_fate c__law_holds c__law_subsets c__law_all) :=
  callee_of T.d__law_fate sc__law_fate fun f cdv A outer s H E hr =>
    (sss_cons (ss_setLc (i := 4) (own := [("_law_part", 6)]) rfl sc__law_fate.nd rfl rfl (sw_true rfl rfl rfl (by decide +kernel)) (si_list (se_fn C__law_subsets hr (by rfl) (sa_cons (se_fn C__law_all hr (by rfl) (sa_cons (se_var 2) sa_nil) (fCons_len (fun _ _ _ _ h => fNil_len h))) sa_nil) (fCons_len (fun _ _ _ _ h => fNil_len h)))) (blkOk_by (own := [("_law_part", 6)]) (N := ["_law_sort", "_law_k", "_law_many", "_law_tally", "_law_parts", "_law_held", "_law_part"]) (sc := defScope s__law_fate) (by decide +kernel)) (fun _ _ _ _ _ => (sgw_name (i := 6) sc__law_fate.nd rfl (Or.inl rfl) (by decide))) (fun _ _ _ _ _ => (sts_one (st_cmp (op_eqAll hr) od_eq (se_callB call_lenAll cd_len (by rfl) T.n_len (by decide +kernel) (sa_cons (se_var 6) sa_nil)) (se_var 3) (nomark _)))) (fun _ _ _ _ _ => (se_var 6)))
      (sss_cons (ss_set (i := 5) sc__law_fate.nd rfl (Or.inl rfl) (se_callB call_lenAll cd_len (by rfl) T.n_len (by decide +kernel) (sa_cons (se_lc (own := [("_law_part", 6)]) rfl sc__law_fate.nd (si_list (se_var 4)) (blkOk_by (own := [("_law_part", 6)]) (N := ["_law_sort", "_law_k", "_law_many", "_law_tally", "_law_parts", "_law_held", "_law_part"]) (sc := defScope s__law_fate) (by decide +kernel)) (fun _ _ _ _ _ => (sgw_name (i := 6) sc__law_fate.nd rfl (Or.inl rfl) (by decide))) (fun _ _ _ _ _ => (sts_one (st_val (se_fn C__law_holds hr (by rfl) (sa_cons (se_var 0) (sa_cons (se_var 1) (sa_cons (se_var 2) (sa_cons (se_var 6) sa_nil)))) (fCons_len (fCons_len (fCons_len (fCons_len (fun _ _ _ _ h => fNil_len h))))))))) (fun _ _ _ _ _ => (se_var 6))) sa_nil)))
      (sss_one (ss_ret (se_if (st_cmp (op_eqAll hr) od_eq (se_var 5) se_int (nomark _)) se_str (se_if (st_cmp (op_eqAll hr) od_eq (se_var 5) (se_callB call_lenAll cd_len (by rfl) T.n_len (by decide +kernel) (sa_cons (se_var 4) sa_nil)) (nomark _)) se_str se_str))))))
theorem sc__law_is_right : FnScope ["_law_sort", "_law_k", "_law_many", "_law_what", "_law_tally", "_law_due"] ["_law_sort", "_law_k", "_law_many"] (defScope s__law_is_right) := ⟨rfl, rfl, rfl, by decide +kernel, rfl, by decide +kernel, by decide +kernel⟩
def b__law_is_right (c__law_two : FD) (c_Thing_fate : FD) (c__law_fate : FD) (c_Thing_F : List D → Option (List D)) : FS :=
  (sSeq (sAsg (fMakeF "Thing" ["word", "many"] c_Thing_F [] (fCons (fVar 0) (fCons (fVar 1) fNil))) (gN 3))
    (sSeq (sFor (iRange1 (fCons (fBin gAddX (fCall c__law_two (fCons (fVar 2) fNil)) (fC (.int 1))) fNil)) (gN 4) (sSeq (sAsg (fCall c__law_fate (fCons (fVar 0) (fCons (fVar 1) (fCons (fVar 2) (fCons (fVar 4) fNil))))) (gN 5))
    (sIf (fTest (fBin gNe (fLst (fCons (fMeth "Thing" "fate" c_Thing_fate (fVar 3) (fCons (fVar 2) (fCons (fVar 4) fNil))) (fCons (fMethK "Thing" "fate" c_Thing_fate [1, 0] (fVar 3) (fCons (fVar 4) (fCons (fVar 2) fNil))) fNil))) (fLst (fCons (fVar 5) (fCons (fVar 5) fNil))))) (sRet (fC (.bl false))) sSkip)))
    (sRet (fC (.bl true)))))
def d__law_is_right (c__law_two : FD) (c_Thing_fate : FD) (c__law_fate : FD) (c_Thing_F : List D → Option (List D)) : FD := runD 6 (b__law_is_right c__law_two c_Thing_fate c__law_fate c_Thing_F)
theorem ok__law_is_right {c__law_two : FD} {c_Thing_fate : FD} {c__law_fate : FD} {c_Thing_F : List D → Option (List D)} {k : Nat} (T : Txt w K mg ct C_Thing) (C__law_two : Callee P w K mg base ct k "_law_two" 1 c__law_two) (C_Thing_fate : CalleeM P w K mg base ct k C_Thing "fate" 3 c_Thing_fate [(["count", "people"], [1, 0])]) (C__law_fate : Callee P w K mg base ct k "_law_fate" 4 c__law_fate) (C_Thing_mf2 : MakerF P w K mg base ct k "Thing" ["word", "many"] [] 3 c_Thing_F) : Callee P w K mg base ct (k + 1) "_law_is_right" 3 (d__law_is_right c__law_two c_Thing_fate c__law_fate c_Thing_F) :=
  callee_of T.d__law_is_right sc__law_is_right fun f cdv A outer s H E hr =>
    (sss_cons (ss_set (i := 3) sc__law_is_right.nd rfl (Or.inl rfl) (se_mkF (n := 2) (dds := []) C_Thing_mf2 hr (by rfl) (sa_cons (se_var 0) (sa_cons (se_var 1) sa_nil)) (fCons_len (fCons_len (fun _ _ _ _ h => fNil_len h)))))
      (sss_cons (ss_for PassesOwn.never rfl (si_range1 (by rfl) T.n_range (sa_cons (se_op op_addX od_addX (se_fn C__law_two hr (by rfl) (sa_cons (se_var 2) sa_nil) (fCons_len (fun _ _ _ _ h => fNil_len h))) se_int) sa_nil)) (sg_name (i := 4) sc__law_is_right.nd rfl (Or.inl rfl)) (sss_cons (ss_set (i := 5) sc__law_is_right.nd rfl (Or.inl rfl) (se_fn C__law_fate hr (by rfl) (sa_cons (se_var 0) (sa_cons (se_var 1) (sa_cons (se_var 2) (sa_cons (se_var 4) sa_nil)))) (fCons_len (fCons_len (fCons_len (fCons_len (fun _ _ _ _ h => fNil_len h)))))))
      (sss_one (ss_if (st_cmp (op_neAll hr) od_ne (se_lst (sa_cons (se_meth T.kc_Thing C_Thing_fate hr (se_var 3) (sa_cons (se_var 2) (sa_cons (se_var 4) sa_nil)) (fCons_len (fCons_len (fun _ _ _ _ h => fNil_len h)))) (sa_cons (se_methK (ks := ["count", "people"]) (idx := [1, 0]) T.kc_Thing C_Thing_fate (by simp) hr (se_var 3) (sk_cons (se_var 4) (sk_cons (se_var 2) sk_nil)) (fCons_len (fCons_len (fun _ _ _ _ h => fNil_len h))) (fun _ zs h => match zs, h with | [_, _], _ => rfl)) sa_nil))) (se_lst (sa_cons (se_var 5) (sa_cons (se_var 5) sa_nil))) (nomark _)) (sss_one (ss_ret se_bl)) sss_nil))))
      (sss_one (ss_ret se_bl))))
theorem sc__law_far_right : FnScope ["_law_purse_here", "_law_sort", "_law_k", "_law_many", "_law_what", "_law_least_here", "_law_most_here", "_law_some", "_law_tally", "_law_due", "_law_one"] ["_law_purse_here", "_law_sort", "_law_k"] (defScope s__law_far_right) := ⟨rfl, rfl, rfl, by decide +kernel, rfl, by decide +kernel, by decide +kernel⟩
def b__law_far_right (c__law_two : FD) (c_Thing_fate : FD) (c__law_draw : FD) (c__law_most : FD) (c__law_least : FD) (c_Thing_F : List D → Option (List D)) : FS :=
  (sSeq (sAsg (fTup (fCons (fBin gAddX (fC (.int 3)) (fCall c__law_draw (fCons (fVar 0) (fCons (fBin gPow (fC (.int 10)) (fC (.int 9))) fNil)))) (fCons (fMakeF "Thing" ["word", "many"] c_Thing_F [] (fCons (fVar 1) (fCons (fVar 2) fNil))) fNil))) (gTup 2 (gCons (gN 3) (gCons (gN 4) gNil))))
    (sSeq (sPar 5 6 (fCons (fCall c__law_least (fCons (fVar 1) (fCons (fVar 2) (fCons (fVar 3) fNil)))) (fCons (fCall c__law_most (fCons (fVar 1) (fCons (fVar 2) (fCons (fVar 3) fNil)))) fNil)))
    (sSeq (sAsg (fLst (fCons (fC (.int 0)) (fCons (fCall c__law_two (fCons (fVar 3) fNil)) (fCons (fVar 6) (fCons (fCall cMin2 (fCons (fBin gAddX (fVar 6) (fC (.int 1))) (fCons (fCall c__law_two (fCons (fVar 3) fNil)) fNil))) (fCons (fCall c__law_draw (fCons (fVar 0) (fCons (fBin gPow (fC (.int 10)) (fC (.int 9))) fNil))) fNil)))))) (gN 7))
    (sSeq (sIf (fTest (fBin gNotN (fVar 5) (fC .non))) (sAsg (fBin gAddX (fVar 7) (fLst (fCons (fVar 5) (fCons (fCall cMax2 (fCons (fC (.int 0)) (fCons (fBin gSubI (fVar 5) (fC (.int 1))) fNil))) fNil)))) (gN 7)) sSkip)
    (sSeq (sFor (iLst (fLc (iLst (fVar 7)) (gN 10) (fTest (fBin gLeX (fVar 10) (fCall c__law_two (fCons (fVar 3) fNil)))) (fVar 10) [10])) (gN 8) (sSeq (sAsg (fC (.str "perhaps")) (gN 9))
    (sSeq (sIf (tOrD (fTest (fBin gIsN (fVar 5) (fC .non))) (fTest (fBin gLtX (fVar 8) (fVar 5)))) (sAsg (fC (.str "never")) (gN 9)) (sIf (fTest (fBin gGt (fVar 8) (fVar 6))) (sAsg (fC (.str "always")) (gN 9)) sSkip))
    (sIf (fTest (fBin gNe (fMeth "Thing" "fate" c_Thing_fate (fVar 4) (fCons (fVar 3) (fCons (fVar 8) fNil))) (fVar 9))) (sRet (fC (.bl false))) sSkip))))
    (sRet (fC (.bl true))))))))
def d__law_far_right (c__law_two : FD) (c_Thing_fate : FD) (c__law_draw : FD) (c__law_most : FD) (c__law_least : FD) (c_Thing_F : List D → Option (List D)) : FD := runD 11 (b__law_far_right c__law_two c_Thing_fate c__law_draw c__law_most c__law_least c_Thing_F)
theorem ok__law_far_right {c__law_two : FD} {c_Thing_fate : FD} {c__law_draw : FD} {c__law_most : FD} {c__law_least : FD} {c_Thing_F : List D → Option (List D)} {k : Nat} (T : Txt w K mg ct C_Thing) (C__law_two : Callee P w K mg base ct k "_law_two" 1 c__law_two) (C_Thing_fate : CalleeM P w K mg base ct k C_Thing "fate" 3 c_Thing_fate [(["count", "people"], [1, 0])]) (C__law_draw : Callee P w K mg base ct k "_law_draw" 2 c__law_draw) (C__law_most : Callee P w K mg base ct k "_law_most" 3 c__law_most) (C__law_least : Callee P w K mg base ct k "_law_least" 3 c__law_least) (C_Thing_mf2 : MakerF P w K mg base ct k "Thing" ["word", "many"] [] 3 c_Thing_F) : Callee P w K mg base ct (k + 1) "_law_far_right" 3 (d__law_far_right c__law_two c_Thing_fate c__law_draw c__law_most c__law_least c_Thing_F) :=
  callee_of T.d__law_far_right sc__law_far_right fun f cdv A outer s H E hr =>
    (sss_cons (ss_asg (se_tup (sa_cons (se_op op_addX od_addX se_int (se_fn C__law_draw hr (by rfl) (sa_cons (se_var 0) (sa_cons (se_op op_pow od_pow se_int se_int) sa_nil)) (fCons_len (fCons_len (fun _ _ _ _ h => fNil_len h))))) (sa_cons (se_mkF (n := 2) (dds := []) C_Thing_mf2 hr (by rfl) (sa_cons (se_var 1) (sa_cons (se_var 2) sa_nil)) (fCons_len (fCons_len (fun _ _ _ _ h => fNil_len h)))) sa_nil))) (sg_tup rfl (sgs_cons (sg_name (i := 3) sc__law_far_right.nd rfl (Or.inr rfl)) (sgs_cons (sg_name (i := 4) sc__law_far_right.nd rfl (Or.inl rfl)) sgs_nil))))
      (sss_cons (ss_par (i := 5) (j := 6) (fun ta h => ps_par rfl sc__law_far_right.nd rfl rfl (by decide) rfl rfl h (by rfl)) (sa_cons (se_fn C__law_least hr (by rfl) (sa_cons (se_var 1) (sa_cons (se_var 2) (sa_cons (se_var 3) sa_nil))) (fCons_len (fCons_len (fCons_len (fun _ _ _ _ h => fNil_len h))))) (sa_cons (se_fn C__law_most hr (by rfl) (sa_cons (se_var 1) (sa_cons (se_var 2) (sa_cons (se_var 3) sa_nil))) (fCons_len (fCons_len (fCons_len (fun _ _ _ _ h => fNil_len h))))) sa_nil)))
      (sss_cons (ss_set (i := 7) sc__law_far_right.nd rfl (Or.inl rfl) (se_lst (sa_cons se_int (sa_cons (se_fn C__law_two hr (by rfl) (sa_cons (se_var 3) sa_nil) (fCons_len (fun _ _ _ _ h => fNil_len h))) (sa_cons (se_var 6) (sa_cons (se_callB (call_min2 rfl) cd_min2 (by rfl) T.n_min (by decide +kernel) (sa_cons (se_op op_addX od_addX (se_var 6) se_int) (sa_cons (se_fn C__law_two hr (by rfl) (sa_cons (se_var 3) sa_nil) (fCons_len (fun _ _ _ _ h => fNil_len h))) sa_nil))) (sa_cons (se_fn C__law_draw hr (by rfl) (sa_cons (se_var 0) (sa_cons (se_op op_pow od_pow se_int se_int) sa_nil)) (fCons_len (fCons_len (fun _ _ _ _ h => fNil_len h)))) sa_nil)))))))
      (sss_cons (ss_if (st_cmp op_notN od_notN (se_var 5) se_non (nomark _)) (sss_one (ss_set (i := 7) sc__law_far_right.nd rfl (Or.inl rfl) (se_op op_addX od_addX (se_var 7) (se_lst (sa_cons (se_var 5) (sa_cons (se_callB (call_max2 rfl) cd_max2 (by rfl) T.n_max (by decide +kernel) (sa_cons se_int (sa_cons (se_op op_sub od_sub (se_var 5) se_int) sa_nil))) sa_nil)))))) sss_nil)
      (sss_cons (ss_for PassesOwn.never rfl (si_list (se_lc (own := [("_law_one", 10)]) rfl sc__law_far_right.nd (si_list (se_var 7)) (blkOk_by (own := [("_law_one", 10)]) (N := ["_law_purse_here", "_law_sort", "_law_k", "_law_many", "_law_what", "_law_least_here", "_law_most_here", "_law_some", "_law_tally", "_law_due", "_law_one"]) (sc := defScope s__law_far_right) (by decide +kernel)) (fun _ _ _ _ _ => (sgw_name (i := 10) sc__law_far_right.nd rfl (Or.inl rfl) (by decide))) (fun _ _ _ _ _ => (sts_one (st_cmp (op_leX hr) od_leX (se_var 10) (se_fn C__law_two hr (by rfl) (sa_cons (se_var 3) sa_nil) (fCons_len (fun _ _ _ _ h => fNil_len h))) (nomark _)))) (fun _ _ _ _ _ => (se_var 10)))) (sg_name (i := 8) sc__law_far_right.nd rfl (Or.inl rfl)) (sss_cons (ss_set (i := 9) sc__law_far_right.nd rfl (Or.inl rfl) se_str)
      (sss_cons (ss_if (SW.st (sw_or (st_cmp op_isN od_isN (se_var 5) se_non (nomark _)) (sw_or1 (st_cmp (op_ltX hr) od_ltX (se_var 8) (se_var 5) (nomark _))))) (sss_one (ss_set (i := 9) sc__law_far_right.nd rfl (Or.inl rfl) se_str)) (sss_one (ss_if (st_cmp op_gt od_gt (se_var 8) (se_var 6) (nomark _)) (sss_one (ss_set (i := 9) sc__law_far_right.nd rfl (Or.inl rfl) se_str)) sss_nil)))
      (sss_one (ss_if (st_cmp (op_neAll hr) od_ne (se_meth T.kc_Thing C_Thing_fate hr (se_var 4) (sa_cons (se_var 3) (sa_cons (se_var 8) sa_nil)) (fCons_len (fCons_len (fun _ _ _ _ h => fNil_len h)))) (se_var 9) (nomark _)) (sss_one (ss_ret se_bl)) sss_nil)))))
      (sss_one (ss_ret se_bl)))))))
theorem sc__law_right : FnScope ["_law_purse_here", "_law_some", "_law_sort", "_law_k", "_law_many"] ["_law_purse_here"] (defScope s__law_right) := ⟨rfl, rfl, rfl, by decide +kernel, rfl, by decide +kernel, by decide +kernel⟩
def b__law_right (c__law_is_right : FD) (c__law_draw : FD) (c__law_far_right : FD) (c__law_things : FD) : FS :=
  (sSeq (sAsg (fCall c__law_things (fCons (fC (.int 4)) fNil)) (gN 1))
    (sSeq (sFor (iLst (fVar 1)) (gTup 2 (gCons (gN 2) (gCons (gN 3) gNil))) (sSeq (sIf (tNotD (fTest (fCall c__law_far_right (fCons (fVar 0) (fCons (fVar 2) (fCons (fVar 3) fNil)))))) (sRet (fC (.bl false))) sSkip)
    (sFor (iRange1 (fCons (fC (.int 4)) fNil)) (gN 4) (sIf (tNotD (fTest (fCall c__law_is_right (fCons (fVar 2) (fCons (fVar 3) (fCons (fVar 4) fNil)))))) (sRet (fC (.bl false))) sSkip))))
    (sSeq (sAsg (fBin gIx (fVar 1) (fCall c__law_draw (fCons (fVar 0) (fCons (fCall cLen (fCons (fVar 1) fNil)) fNil)))) (gTup 2 (gCons (gN 2) (gCons (gN 3) gNil))))
    (sRet (fCall c__law_is_right (fCons (fVar 2) (fCons (fVar 3) (fCons (fC (.int 4)) fNil))))))))
def d__law_right (c__law_is_right : FD) (c__law_draw : FD) (c__law_far_right : FD) (c__law_things : FD) : FD := runD 5 (b__law_right c__law_is_right c__law_draw c__law_far_right c__law_things)
theorem ok__law_right {c__law_is_right : FD} {c__law_draw : FD} {c__law_far_right : FD} {c__law_things : FD} {k : Nat} (T : Txt w K mg ct C_Thing) (C__law_is_right : Callee P w K mg base ct k "_law_is_right" 3 c__law_is_right) (C__law_draw : Callee P w K mg base ct k "_law_draw" 2 c__law_draw) (C__law_far_right : Callee P w K mg base ct k "_law_far_right" 3 c__law_far_right) (C__law_things : Callee P w K mg base ct k "_law_things" 1 c__law_things) : Callee P w K mg base ct (k + 1) "_law_right" 1 (d__law_right c__law_is_right c__law_draw c__law_far_right c__law_things) :=
  callee_of T.d__law_right sc__law_right fun f cdv A outer s H E hr =>
    (sss_cons (ss_set (i := 1) sc__law_right.nd rfl (Or.inl rfl) (se_fn C__law_things hr (by rfl) (sa_cons se_int sa_nil) (fCons_len (fun _ _ _ _ h => fNil_len h))))
      (sss_cons (ss_for PassesOwn.never rfl (si_list (se_var 1)) (sg_tup rfl (sgs_cons (sg_name (i := 2) sc__law_right.nd rfl (Or.inl rfl)) (sgs_cons (sg_name (i := 3) sc__law_right.nd rfl (Or.inl rfl)) sgs_nil))) (sss_cons (ss_if (st_not (st_val (se_fn C__law_far_right hr (by rfl) (sa_cons (se_var 0) (sa_cons (se_var 2) (sa_cons (se_var 3) sa_nil))) (fCons_len (fCons_len (fCons_len (fun _ _ _ _ h => fNil_len h))))))) (sss_one (ss_ret se_bl)) sss_nil)
      (sss_one (ss_for PassesOwn.never rfl (si_range1 (by rfl) T.n_range (sa_cons se_int sa_nil)) (sg_name (i := 4) sc__law_right.nd rfl (Or.inl rfl)) (sss_one (ss_if (st_not (st_val (se_fn C__law_is_right hr (by rfl) (sa_cons (se_var 2) (sa_cons (se_var 3) (sa_cons (se_var 4) sa_nil))) (fCons_len (fCons_len (fCons_len (fun _ _ _ _ h => fNil_len h))))))) (sss_one (ss_ret se_bl)) sss_nil))))))
      (sss_cons (ss_asg (se_ix ix_seq od_ix (se_var 1) (se_fn C__law_draw hr (by rfl) (sa_cons (se_var 0) (sa_cons (se_callB call_lenAll cd_len (by rfl) T.n_len (by decide +kernel) (sa_cons (se_var 1) sa_nil)) sa_nil)) (fCons_len (fCons_len (fun _ _ _ _ h => fNil_len h)))) (fun _ _ => rfl)) (sg_tup rfl (sgs_cons (sg_name (i := 2) sc__law_right.nd rfl (Or.inl rfl)) (sgs_cons (sg_name (i := 3) sc__law_right.nd rfl (Or.inl rfl)) sgs_nil))))
      (sss_one (ss_ret (se_fn C__law_is_right hr (by rfl) (sa_cons (se_var 2) (sa_cons (se_var 3) (sa_cons se_int sa_nil))) (fCons_len (fCons_len (fCons_len (fun _ _ _ _ h => fNil_len h))))))))))
theorem sc_law : FnScope ["_law_script", "_law_spot"] ["_law_script"] (defScope s_law) := ⟨rfl, rfl, rfl, by decide +kernel, rfl, by decide +kernel, by decide +kernel⟩
def b_law (c__law_right : FD) (c__law_purse : FD) : FS :=
  (sRet (fCall cAll (fCons (fLc (iRange1 (fCons (fC (.int 2)) fNil)) (gN 1) tYesD (fCall c__law_right (fCons (fCall c__law_purse (fCons (fVar 0) (fCons (fVar 1) fNil))) fNil)) [1]) fNil)))
def d_law (c__law_right : FD) (c__law_purse : FD) : FD := runD 2 (b_law c__law_right c__law_purse)
theorem fn_law {c__law_right : FD} {c__law_purse : FD} {k : Nat} {f : Addr} {fd : FuncData} (F : Fun K "law" "law" s_law f fd) (T : Txt w K mg ct C_Thing) (C__law_right : Callee P w K mg base ct k "_law_right" 1 c__law_right) (C__law_purse : Callee P w K mg base ct k "_law_purse" 2 c__law_purse) : FnG P w K mg base (k + 1) f fd ["_law_script"] (spD K ct 1 (d_law c__law_right c__law_purse)) :=
  def_ok F sc_law fun cdv A outer s H E hr =>
    (sss_one (ss_ret (se_callB (cr_all rfl) cd_all (by rfl) T.n_all (by decide +kernel) (sa_cons (se_lc (own := [("_law_spot", 1)]) rfl sc_law.nd (si_range1 (by rfl) T.n_range (sa_cons se_int sa_nil)) (blkOk_by (own := [("_law_spot", 1)]) (N := ["_law_script", "_law_spot"]) (sc := defScope s_law) (by decide +kernel)) (fun _ _ _ _ _ => (sgw_name (i := 1) sc_law.nd rfl (Or.inl rfl) (by decide))) (fun _ _ _ _ _ => sts_nil) (fun _ _ _ _ _ => (se_fn C__law_right hr (by rfl) (sa_cons (se_fn C__law_purse hr (by rfl) (sa_cons (se_var 0) (sa_cons (se_var 1) sa_nil)) (fCons_len (fCons_len (fun _ _ _ _ h => fNil_len h)))) sa_nil) (fCons_len (fun _ _ _ _ h => fNil_len h))))) sa_nil))))
abbrev w_is_integer : FD := d_is_integer
theorem wk_is_integer (T : Txt w K mg ct C_Thing) : Callee P w K mg base ct 1 "is_integer" 1 w_is_integer :=
  ok_is_integer (k := 0) T
abbrev w_is_between : FD := d_is_between w_is_integer
theorem wk_is_between (T : Txt w K mg ct C_Thing) : Callee P w K mg base ct 2 "is_between" 3 w_is_between :=
  ok_is_between (k := 1) T ((wk_is_integer T).mono (by decide))
abbrev w_check_people : FD := d_check_people w_is_integer
theorem wk_check_people (T : Txt w K mg ct C_Thing) : Callee P w K mg base ct 2 "check_people" 2 w_check_people :=
  ok_check_people (k := 1) T ((wk_is_integer T).mono (by decide))
abbrev w_pairs_of : FD := d_pairs_of
theorem wk_pairs_of (T : Txt w K mg ct C_Thing) : Callee P w K mg base ct 1 "pairs_of" 1 w_pairs_of :=
  ok_pairs_of (k := 0) T
abbrev w_ring_size : FD := d_ring_size
theorem wk_ring_size (T : Txt w K mg ct C_Thing) : Callee P w K mg base ct 1 "ring_size" 2 w_ring_size :=
  ok_ring_size (k := 0) T
abbrev w_fewest_people : FD := d_fewest_people w_ring_size
theorem wk_fewest_people (T : Txt w K mg ct C_Thing) : Callee P w K mg base ct 2 "fewest_people" 2 w_fewest_people :=
  ok_fewest_people (k := 1) T ((wk_ring_size T).mono (by decide))
abbrev w_least_of : FD := d_least_of w_pairs_of w_ring_size w_fewest_people
theorem wk_least_of (T : Txt w K mg ct C_Thing) : Callee P w K mg base ct 3 "least_of" 3 w_least_of :=
  ok_least_of (k := 2) T ((wk_pairs_of T).mono (by decide)) ((wk_ring_size T).mono (by decide)) ((wk_fewest_people T).mono (by decide))
abbrev w_most_pairs : FD := d_most_pairs w_pairs_of
theorem wk_most_pairs (T : Txt w K mg ct C_Thing) : Callee P w K mg base ct 2 "most_pairs" 2 w_most_pairs :=
  ok_most_pairs (k := 1) T ((wk_pairs_of T).mono (by decide))
abbrev w_most_rings : FD := d_most_rings w_pairs_of
theorem wk_most_rings (T : Txt w K mg ct C_Thing) : Callee P w K mg base ct 2 "most_rings" 3 w_most_rings :=
  ok_most_rings (k := 1) T ((wk_pairs_of T).mono (by decide))
abbrev w_most_groups : FD := d_most_groups w_pairs_of
theorem wk_most_groups (T : Txt w K mg ct C_Thing) : Callee P w K mg base ct 2 "most_groups" 3 w_most_groups :=
  ok_most_groups (k := 1) T ((wk_pairs_of T).mono (by decide))
abbrev w_is_all_tied : FD := d_is_all_tied
theorem wk_is_all_tied (T : Txt w K mg ct C_Thing) : Callee P w K mg base ct 1 "is_all_tied" 3 w_is_all_tied :=
  ok_is_all_tied (k := 0) T
abbrev w_most_of : FD := d_most_of w_pairs_of w_most_pairs w_is_all_tied w_most_groups w_most_rings
theorem wk_most_of (T : Txt w K mg ct C_Thing) : Callee P w K mg base ct 3 "most_of" 3 w_most_of :=
  ok_most_of (k := 2) T ((wk_pairs_of T).mono (by decide)) ((wk_most_pairs T).mono (by decide)) ((wk_is_all_tied T).mono (by decide)) ((wk_most_groups T).mono (by decide)) ((wk_most_rings T).mono (by decide))
abbrev w_Thing___init__ : FD := d_Thing___init__ w_is_between
theorem wk_Thing___init__ (T : Txt w K mg ct C_Thing) : Initer P w K mg base ct 3 "Thing" [.non] 3 w_Thing___init__ :=
  ok_Thing___init__ (k := 2) T ((wk_is_between T).mono (by decide))
local macro_rules | `(tactic| push_cast [$xs,*] $[$l]?) => `(tactic| simp only [↓q_Chain3, ↓q_iEnum, ↓q_sForR, ↓q_iR3, ↓q_repT, ↓q_ListR1, ↓q_TupR1, ↓q_iSeq, ↓q_zipM, ↓wzip_m, ↓q_nil0, ↓q_tIf, ↓q_star, ↓q_zip, ↓wseq_t, ↓wseq_l, ↓wzip_t, ↓wzip_l, ↓q_pfl_nx, ↓q_pfl_rt, ↓q_pfl_bk, ↓q_pfl_ct, ↓q_run_rt, ↓q_run_nx, ↓q_bk_nx, ↓q_bk_ct, ↓q_bk_bk, ↓q_bk_rt, ↓q_R_some, ↓q_R_none, ↓q_R_cond, ↓q_var0, ↓q_varS, ↓q_C, ↓q_Bin, ↓q_neg, ↓q_nil, ↓q_cons, ↓q_tup, ↓q_lst, ↓q_lstM, ↓q_Call, ↓q_And, ↓q_Or, ↓q_Not, ↓q_Test, ↓q_tAnd, ↓q_tOr, ↓q_tNot, ↓q_If, ↓q_Chain, ↓q_Skip, ↓q_Break, ↓q_Cont, ↓q_Never, ↓q_fNever, ↓q_Seq, ↓q_Expr, ↓q_Ret, ↓q_sIf, ↓q_Asg, ↓q_N, ↓q_gNil, ↓q_gCons, ↓q_gTup, ↓q_gSub, ↓q_Par, ↓q_Run, ↓q_For, ↓q_iLst, ↓q_iTup, ↓q_iR1, ↓q_iR2, ↓q_add, ↓q_addL, ↓q_addS, ↓q_I0, ↓q_mul, ↓q_fdiv, ↓q_mod, ↓q_eqI, ↓q_eqS, ↓q_eqB, ↓q_neI, ↓q_neS, ↓q_neB, ↓q_isN, ↓q_notN, ↓q_isi, ↓q_abs, ↓q_max2, ↓q_min2, ↓q_maxT, ↓q_intI, ↓q_intB, ↓q_lenS, ↓q_lenT, ↓q_lenL, ↓q_lenC, ↓q_divmod, ↓q_listL, ↓q_listT, ↓q_tupL, ↓q_tupT, ↓q_KIn, ↓q_Fld, ↓q_Meth, ↓q_MakeF, ↓q_sFld, ↓q_KIx, ↓q_inT, ↓q_inL, ↓q_inS, ↓q_ixL, ↓q_ixT, ↓q_ixC, ↓q_Lc, ↓q_Yes, ↓q_Sl, ↓q_oNone, ↓q_oSome, ↓q_slC, ↓q_slL, ↓q_slS, ↓q_MethK, ↓q_CallK, ↓q_Repr, ↓q_DispF, ↓q_DIx, ↓q_rep, ↓q_Prop, ↓q_IsC, ↓q_DGet1, ↓q_DIn, ↓q_gUnl, ↓q_DictK, ↓q_repM, ↓q_aXi, ↓q_aXs, ↓q_aXt, ↓q_aXl, ↓q_aMl, ↓q_ltX, ↓q_leX, ↓q_leX2, ↓q_SlX, ↓q_sXc, ↓q_sXl, ↓q_sXt, ↓q_sXs, ↓q_RevT, ↓q_sxI, ↓q_sxS, ↓q_lxT, ↓q_lxL, ↓q_txL, ↓q_txT, ↓q_lmT, ↓q_lmL, ↓q_Par3, ↓q_Join, ↓wp_two, ↓wp_r1, ↓wp_r2, ↓wp_someB, ↓wp_strE, ↓wp_FldO, ↓wp_someL, ↓wp_last, ↓wp_someX, ↓wp_three, ↓q_p40, ↓qi_t, ↓qi_f, ↓wb_bl, ↓wi_int, ↓wstr_str, ↓wtup_tup, ↓wlst_lst, ↓wref_ref, isn_int, isn_non, isn_str, isn_tup, isn_lst, isn_ref, isn_bl, isi_str_str, isi_int_int, isi_int_bl, isi_bool_int, isi_bool_bl, isi_int_non, isi_int_str, isi_tuple_tup, str_eq, String.reduceEq, List.any_cons, List.any_nil, List.all_cons, List.all_nil, Bool.and_true, Bool.or_false, Bool.true_and, Bool.false_and, Bool.and_false, Bool.false_or, Bool.or_true, Bool.true_or, Bool.not_not, flat_str, flat_int, flat_non, eqF_str, List.map_cons, List.map_nil, List.length_cons, List.length_nil, List.length_map, List.cons_append, List.nil_append, List.append_nil, List.set_cons_zero, List.set_cons_succ, List.replicate_succ, List.replicate_zero, Nat.reduceSub, Nat.reduceAdd, Nat.reduceLeDiff, Nat.zero_add, Nat.sub_self, Bool.not_eq_true', Bool.not_true, Bool.not_false, if_true, if_false, reduceIte, Bool.false_eq_true, true_and, and_true, decide_true, decide_false, Bool.true_eq_false, eq_self, $xs,*] $[$l]?)
theorem isint_int (i : Int) (S : Sto) : w_is_integer [.int i] S = some (.bl true, S) := by
  refine Qr_iff.mpr ?_ |> R.eq
  unfold w_is_integer d_is_integer b_is_integer
  push_cast []
theorem between_int (i a b : Int) (S : Sto) : w_is_between [.int i, .int a, .int b] S = some (.bl (decide (a ≤ i) && decide (i ≤ b)), S) := by
  refine Qr_iff.mpr ?_ |> R.eq
  unfold w_is_between d_is_between b_is_between
  push_cast [isint_int]
  by_cases h : a ≤ i
  · push_cast [h]
  · push_cast [h]
def mkF_Thing : List D → Option (List D)
  | [.str k, .non] => if k = "odd ring" ∨ k = "even ring" then some [.str k, .non] else none
  | [.str k, .int n] => match tab_LEAST.lookup k with
    | some lo => if lo ≤ n ∧ n ≤ 10000000000000000000000000000000000000000 then some [.str k, .int n] else none
    | none => none
  | _ => none
def ringK (k : Str) : Bool := ("odd ring" : Str) == k || ("even ring" : Str) == k
theorem inX_ring (neg : Bool) (k : Str) (S : Sto) : gInX neg (.str k) (.tup [.str "odd ring", .str "even ring"]) S = some (.bl (if neg then !ringK k else ringK k), S) := by
  have e : gInX neg (.str k) (.tup [.str "odd ring", .str "even ring"]) S = some (.bl (if neg then !(eqF (.str "odd ring") (.str k) || (eqF (.str "even ring") (.str k) || false)) else (eqF (.str "odd ring") (.str k) || (eqF (.str "even ring") (.str k) || false))), S) := rfl
  rw [e, Bool.or_false]
  rfl
theorem ringK_of {k : Str} (h : k = "odd ring" ∨ k = "even ring") : ringK k = true := by rcases h with rfl | rfl <;> decide +kernel
theorem ringK_no {k : Str} (h : tab_LEAST.lookup k ≠ none) : ringK k = false := by
  unfold ringK
  rw [Bool.or_eq_false_iff]
  refine ⟨beq_eq_false_iff_ne.mpr ?_, beq_eq_false_iff_ne.mpr ?_⟩ <;> (rintro rfl; exact h (by decide +kernel))
theorem two_puts (S : Sto) (a b : D) : 0 < 900 ∧ ∃ i, D.ref S.length = D.ref i ∧ ∃ c' fs ds, ((S ++ [Cell.ins "Thing" [] []]).set S.length (.ins "Thing" (putN [] "word") (putD [] [] "word" a)))[i]? = some (.ins c' fs ds) ∧ (c' = ("Thing" : Str) ∧ fs.length < 900) ∧
    ((S ++ [Cell.ins "Thing" [] []]).set S.length (.ins "Thing" (putN [] "word") (putD [] [] "word" a))).set i (.ins "Thing" (putN fs "many") (putD fs ds "many" b)) = S ++ [.ins "Thing" ["word", "many"] [a, b]] := by
  refine ⟨by decide, _, rfl, _, _, _, List.getElem?_set_self (by simp), ⟨rfl, by decide⟩, ?_⟩
  rw [List.set_set, List.set_append_right _ _ (Nat.le_refl _), Nat.sub_self]
  rfl
theorem mkF_Thing_ok : MkSpec "Thing" ["word", "many"] w_Thing___init__ mkF_Thing := by
  intro S args vals h
  unfold mkF_Thing at h
  split at h
  · rename_i k
    split at h
    · rename_i hk
      cases h
      refine ⟨?_, rfl⟩
      refine Qr_iff.mpr ?_ |> R.eq
      have hl : (tab_LEAST.lookup k) = none := by rcases hk with rfl | rfl <;> decide +kernel
      have hr := ringK_of hk
      unfold w_Thing___init__ d_Thing___init__ b_Thing___init__
      push_cast [hl, Option.isSome_none, Bool.not_false]
      push_cast [inX_ring, hr, hl, Option.isSome_none, Bool.not_false, Bool.not_true]
      exact two_puts S _ _
    · cases h
  · rename_i k n
    split at h
    · rename_i lo hl
      split at h
      · rename_i hn
        cases h
        refine ⟨?_, rfl⟩
        refine Qr_iff.mpr ?_ |> R.eq
        have hr := ringK_no (k := k) (by rw [hl]; simp)
        unfold w_Thing___init__ d_Thing___init__ b_Thing___init__
        push_cast [hl, Option.isSome_some, Bool.not_true]
        push_cast [inX_ring, hr, hl, Option.isSome_some, Bool.not_false, Bool.not_true, between_int]
        push_cast [decide_eq_true hn.1, decide_eq_true hn.2, Bool.and_true, Bool.not_true]
        exact two_puts S _ _
      · cases h
    · cases h
  · cases h
abbrev w_Thing_fate : FD := d_Thing_fate w_most_of w_least_of w_is_between w_pairs_of w_check_people
theorem wk_Thing_fate (T : Txt w K mg ct C_Thing) : CalleeM P w K mg base ct 4 C_Thing "fate" 3 w_Thing_fate [(["count", "people"], [1, 0])] :=
  ok_Thing_fate (k := 3) T ((wk_most_of T).mono (by decide)) ((wk_least_of T).mono (by decide)) ((wk_is_between T).mono (by decide)) ((wk_pairs_of T).mono (by decide)) ((wk_check_people T).mono (by decide))
abbrev w__law_purse : FD := d__law_purse
theorem wk__law_purse (T : Txt w K mg ct C_Thing) : Callee P w K mg base ct 1 "_law_purse" 2 w__law_purse :=
  ok__law_purse (k := 0) T
abbrev w__law_draw : FD := d__law_draw
theorem wk__law_draw (T : Txt w K mg ct C_Thing) : Callee P w K mg base ct 1 "_law_draw" 2 w__law_draw :=
  ok__law_draw (k := 0) T
abbrev w__law_all : FD := pureD (d__law_all)
theorem wk__law_all (T : Txt w K mg ct C_Thing) : Callee P w K mg base ct 1 "_law_all" 1 w__law_all :=
  (ok__law_all (k := 0) T).pure
abbrev w__law_tied : FD := d__law_tied
theorem wk__law_tied (T : Txt w K mg ct C_Thing) : Callee P w K mg base ct 1 "_law_tied" 3 w__law_tied :=
  ok__law_tied (k := 0) T
abbrev w__law_subsets : FD := d__law_subsets
theorem wk__law_subsets (T : Txt w K mg ct C_Thing) : Callee P w K mg base ct 1 "_law_subsets" 1 w__law_subsets :=
  ok__law_subsets (k := 0) T
abbrev w__law_joined : FD := d__law_joined w__law_tied
theorem wk__law_joined (T : Txt w K mg ct C_Thing) : Callee P w K mg base ct 2 "_law_joined" 2 w__law_joined :=
  ok__law_joined (k := 1) T ((wk__law_tied T).mono (by decide))
abbrev w__law_rows_of : FD := pureD (d__law_rows_of w__law_tied)
theorem wk__law_rows_of (T : Txt w K mg ct C_Thing) : Callee P w K mg base ct 2 "_law_rows_of" 3 w__law_rows_of :=
  (ok__law_rows_of (k := 1) T ((wk__law_tied T).mono (by decide))).pure
abbrev w__law_rings : FD := pureD (d__law_rings w__law_tied)
theorem wk__law_rings (T : Txt w K mg ct C_Thing) : Callee P w K mg base ct 2 "_law_rings" 2 w__law_rings :=
  (ok__law_rings (k := 1) T ((wk__law_tied T).mono (by decide))).pure
def w__law_pairs_apart_n : Nat → FD
  | 0 => fun _ _ => none
  | n + 1 => d__law_pairs_apart (w__law_pairs_apart_n n)
theorem wkn__law_pairs_apart (T : Txt w K mg ct C_Thing) : ∀ n : Nat, Callee P w K mg base ct (0 + n) "_law_pairs_apart" 1 (w__law_pairs_apart_n n)
  | 0 => callee_none T.d__law_pairs_apart
  | n + 1 => ok__law_pairs_apart (k := 0 + n) T (wkn__law_pairs_apart T n)
abbrev w__law_pairs_apart : FD := w__law_pairs_apart_n 24
theorem wk__law_pairs_apart (T : Txt w K mg ct C_Thing) : Callee P w K mg base ct 24 "_law_pairs_apart" 1 w__law_pairs_apart := wkn__law_pairs_apart T 24
abbrev w__law_is_crowd : FD := d__law_is_crowd
theorem wk__law_is_crowd (T : Txt w K mg ct C_Thing) : Callee P w K mg base ct 1 "_law_is_crowd" 2 w__law_is_crowd :=
  ok__law_is_crowd (k := 0) T
abbrev w__law_core : FD := d__law_core w__law_tied
theorem wk__law_core (T : Txt w K mg ct C_Thing) : Callee P w K mg base ct 2 "_law_core" 3 w__law_core :=
  ok__law_core (k := 1) T ((wk__law_tied T).mono (by decide))
abbrev w__law_holds : FD := d__law_holds w__law_subsets w__law_joined w__law_core w__law_is_crowd w__law_rings w__law_rows_of w__law_pairs_apart
theorem wk__law_holds (T : Txt w K mg ct C_Thing) : Callee P w K mg base ct 25 "_law_holds" 4 w__law_holds :=
  ok__law_holds (k := 24) T ((wk__law_subsets T).mono (by decide)) ((wk__law_joined T).mono (by decide)) ((wk__law_core T).mono (by decide)) ((wk__law_is_crowd T).mono (by decide)) ((wk__law_rings T).mono (by decide)) ((wk__law_rows_of T).mono (by decide)) ((wk__law_pairs_apart T).mono (by decide))
abbrev w__law_things : FD := d__law_things
theorem wk__law_things (T : Txt w K mg ct C_Thing) : Callee P w K mg base ct 1 "_law_things" 1 w__law_things :=
  ok__law_things (k := 0) T
abbrev w__law_two : FD := d__law_two
theorem wk__law_two (T : Txt w K mg ct C_Thing) : Callee P w K mg base ct 1 "_law_two" 1 w__law_two :=
  ok__law_two (k := 0) T
abbrev w__law_most : FD := d__law_most w__law_two
theorem wk__law_most (T : Txt w K mg ct C_Thing) : Callee P w K mg base ct 2 "_law_most" 3 w__law_most :=
  ok__law_most (k := 1) T ((wk__law_two T).mono (by decide))
abbrev w__law_fewest : FD := d__law_fewest
theorem wk__law_fewest (T : Txt w K mg ct C_Thing) : Callee P w K mg base ct 1 "_law_fewest" 2 w__law_fewest :=
  ok__law_fewest (k := 0) T
abbrev w__law_least : FD := d__law_least w__law_two w__law_fewest
theorem wk__law_least (T : Txt w K mg ct C_Thing) : Callee P w K mg base ct 2 "_law_least" 3 w__law_least :=
  ok__law_least (k := 1) T ((wk__law_two T).mono (by decide)) ((wk__law_fewest T).mono (by decide))
abbrev w__law_fate : FD := d__law_fate w__law_holds w__law_subsets w__law_all
theorem wk__law_fate (T : Txt w K mg ct C_Thing) : Callee P w K mg base ct 26 "_law_fate" 4 w__law_fate :=
  ok__law_fate (k := 25) T ((wk__law_holds T).mono (by decide)) ((wk__law_subsets T).mono (by decide)) ((wk__law_all T).mono (by decide))
abbrev w__law_is_right : FD := d__law_is_right w__law_two w_Thing_fate w__law_fate mkF_Thing
theorem wk__law_is_right (T : Txt w K mg ct C_Thing) : Callee P w K mg base ct 27 "_law_is_right" 3 w__law_is_right :=
  ok__law_is_right (k := 26) T ((wk__law_two T).mono (by decide)) ((wk_Thing_fate T).mono (by decide)) ((wk__law_fate T).mono (by decide)) ((makerF_of (maker_of (dds := []) (wk_Thing___init__ T) 1 (by simp) (fun _ _ => rfl)) mkF_Thing_ok).mono (by decide))
abbrev w__law_far_right : FD := d__law_far_right w__law_two w_Thing_fate w__law_draw w__law_most w__law_least mkF_Thing
theorem wk__law_far_right (T : Txt w K mg ct C_Thing) : Callee P w K mg base ct 5 "_law_far_right" 3 w__law_far_right :=
  ok__law_far_right (k := 4) T ((wk__law_two T).mono (by decide)) ((wk_Thing_fate T).mono (by decide)) ((wk__law_draw T).mono (by decide)) ((wk__law_most T).mono (by decide)) ((wk__law_least T).mono (by decide)) ((makerF_of (maker_of (dds := []) (wk_Thing___init__ T) 1 (by simp) (fun _ _ => rfl)) mkF_Thing_ok).mono (by decide))
abbrev w__law_right : FD := d__law_right w__law_is_right w__law_draw w__law_far_right w__law_things
theorem wk__law_right (T : Txt w K mg ct C_Thing) : Callee P w K mg base ct 28 "_law_right" 1 w__law_right :=
  ok__law_right (k := 27) T ((wk__law_is_right T).mono (by decide)) ((wk__law_draw T).mono (by decide)) ((wk__law_far_right T).mono (by decide)) ((wk__law_things T).mono (by decide))
def lawD : FD := d_law w__law_right w__law_purse
theorem law_fn {f : Addr} {fd : FuncData} (F : Fun K "law" "law" s_law f fd) (T : Txt w K mg ct C_Thing) : FnG P w K mg base 60 f fd ["_law_script"] (spD K ct 1 lawD) :=
  fn_law (k := 59) F T ((wk__law_right T).mono (by decide)) ((wk__law_purse T).mono (by decide))
end LW
namespace LW
open PySem PySem.Spec PyProof.Rows L2 TL DL
def ltP (p q : Int × Int) : Prop := p.1 < q.1 ∨ (p.1 = q.1 ∧ p.2 < q.2)
structure Ties (n : Int) (T : List (Int × Int)) : Prop where
  rng : ∀ p ∈ T, 0 ≤ p.1 ∧ p.1 < p.2 ∧ p.2 < n
  asc : T.Pairwise ltP
theorem asc_len : ∀ (l : List Int) (lo hi : Int), l.Pairwise (· < ·) → (∀ x ∈ l, lo ≤ x ∧ x < hi) → (l.length : Int) ≤ max 0 (hi - lo)
  | [], _, _, _, _ => by simp only [List.length_nil]; omega
  | x :: l, lo, hi, h, g => by
    rw [List.pairwise_cons] at h
    have ih := asc_len l (x + 1) hi h.2 fun y hy => ⟨h.1 y hy, (g y (List.mem_cons_of_mem _ hy)).2⟩
    have := g x (List.mem_cons_self ..)
    rw [List.length_cons]
    omega
theorem Ties.len {n : Int} {T : List (Int × Int)} (h : Ties n T) (hn : n ≤ 10) : T.length ≤ 100 := by
  have := asc_len (T.map fun p => 10 * p.1 + p.2) 0 100 (by
    rw [List.pairwise_map]
    refine (List.Pairwise.and_mem.mp h.asc).imp ?_
    intro p q ⟨hp, hq, l⟩
    have a := h.rng p hp
    have b := h.rng q hq
    unfold ltP at l
    omega) (fun x hx => by
      obtain ⟨p, hp, rfl⟩ := List.mem_map.mp hx
      have a := h.rng p hp
      omega)
  rw [List.length_map] at this
  omega
end LW
namespace LW
open PySem PySem.Spec L2 TL DL
open PyProof.Rows hiding pairD
def pk : D → Bool
  | .int _ => true
  | .bl _ => true
  | .non => true
  | .str _ => true
  | .tup _ => true
  | .lst _ => true
  | .dct _ _ => true
  | _ => false
def btw (lo hi : Int) : D → Bool
  | .int x => decide (lo ≤ x) && decide (x ≤ hi)
  | _ => false
theorem is_between_eq {d : D} (h : pk d = true) (lo hi : Int) (S : Sto) : w_is_between [d, .int lo, .int hi] S = some (.bl (btw lo hi d), S) := by
  cases d with
  | int x =>
    refine run_of (ret_of ?_)
    show fChain gLeX gLeX (fVar 1) (fVar 0) (fVar 2) [some (.int x), some (.int lo), some (.int hi)] S = _
    rw [chain_of (S1 := S) (S2 := S) (x := .int lo) (y := .int x) rfl rfl (b := decide (lo ≤ x)) (S3 := S) rfl]
    show _ = some (D.bl (decide (lo ≤ x) && decide (x ≤ hi)), S)
    cases decide (lo ≤ x) <;> rfl
  | bl b => rfl
  | non => rfl
  | str x => rfl
  | tup x => rfl
  | lst x => rfl
  | dct x y => rfl
  | _ => cases h
end LW
set_option exponentiation.threshold 2000
namespace LW
open PySem PySem.Spec L2 TL DL
open PyProof.Rows hiding pairD cutD
def MM : Int := 9223372036854775783
/-- the other cells are as they were -/
def Apart (S S' : Sto) (i : Nat) : Prop := S'.length = S.length ∧ ∀ j, j ≠ i → S'[j]? = S[j]?
theorem Apart.refl (S : Sto) (i : Nat) : Apart S S i := ⟨rfl, fun _ _ => rfl⟩
theorem Apart.trans {S S1 S2 : Sto} {i : Nat} (a : Apart S S1 i) (b : Apart S1 S2 i) : Apart S S2 i := ⟨b.1.trans a.1, fun j h => (b.2 j h).trans (a.2 j h)⟩
theorem Apart.set (S : Sto) (i : Nat) (c : Cell) : Apart S (S.set i c) i := ⟨by simp, fun j h => by rw [List.getElem?_set_ne (fun e => h e.symm)]⟩
theorem set_at {S : Sto} {i : Nat} {c c' : Cell} (h : S[i]? = some c) : (S.set i c')[i]? = some c' := List.getElem?_set_self (List.getElem?_eq_some_iff.mp h).1
end LW
namespace LW
open PySem PySem.Spec L2 TL DL
open PyProof.Rows hiding pairD cutD
def Sk (c : Cell) (m : Nat) : Prop := ∃ a b k : Int, c = .lst [.int a, .int b, .int k] ∧ 0 ≤ b ∧ b < MM ∧ 0 ≤ k ∧ k ≤ m
theorem Sk.mono {c : Cell} {m m' : Nat} (h : Sk c m) (l : m ≤ m') : Sk c m' := by
  obtain ⟨a, b, k, e, h1, h2, h3, h4⟩ := h
  exact ⟨a, b, k, e, h1, h2, h3, by omega⟩
instance decLtP (p q : Int × Int) : Decidable (ltP p q) := by unfold ltP; exact inferInstance
end LW
namespace LW
open PySem PySem.Spec L2 TL DL
open PyProof.Rows hiding pairD cutD
def Fd (d : D) (S : Sto) (T : List (Int × Int)) : Prop := d = .lst (T.map pairD) ∨ (d = .ref 1 ∧ S[1]? = some (.lst (T.map pairD)))
theorem Fd.of {d : D} {S : Sto} {T : List (Int × Int)} (h : Fd d S T) : lstOf S d = some (T.map pairD) := by
  rcases h with rfl | ⟨rfl, h⟩
  · rfl
  · show (match S[1]? with | some (.lst ds) => some ds | _ => none) = _
    rw [h]
end LW
namespace LW
open PySem PySem.Spec L2 TL DL
open PyProof.Rows hiding pairD cutD
theorem all_nil {Q : D → Prop} : ∀ p ∈ ([] : List D), Q p := fun p h => by cases h
theorem all_cons {Q : D → Prop} {d : D} {ds : List D} (h : Q d) (g : ∀ p ∈ ds, Q p) : ∀ p ∈ d :: ds, Q p := fun p hp => by
  rcases List.mem_cons.mp hp with rfl | hp
  · exact h
  · exact g p hp
end LW
namespace LW
open PySem PySem.Spec L2 TL DL
open PyProof.Rows hiding pairD cutD
/-- the stock at i -/
def At (S : Sto) (i m : Nat) : Prop := ∃ c, S[i]? = some c ∧ Sk c m
theorem At.set {S : Sto} {i m m' : Nat} {c : Cell} (h : At S i m) (hc : Sk c m') : At (S.set i c) i m' := by
  obtain ⟨c0, h0, _⟩ := h
  exact ⟨c, set_at h0, hc⟩
theorem At.put {S : Sto} {i m j : Nat} (h : At S i m) (hj : j ≠ i) (c : Cell) : At (S.set j c) i m := by
  obtain ⟨c0, h0, hc⟩ := h
  exact ⟨c0, by rw [List.getElem?_set_ne hj]; exact h0, hc⟩
end LW
namespace LW
open PySem PySem.Spec L2 TL DL
open PyProof.Rows hiding pairD cutD
theorem range_mem {m : Int} (hm : m ≤ 1000) {d : D} (hd : d ∈ DL.rangeD 0 m) : ∃ k : Nat, d = .int k ∧ k ≤ 1000 := by
  unfold DL.rangeD at hd
  obtain ⟨j, hj, rfl⟩ := List.mem_map.mp hd
  have := List.mem_range.mp hj
  exact ⟨j, by simp, by omega⟩
end LW
namespace LW
open PySem PySem.Spec L2 TL DL
open PyProof.Rows hiding pairD cutD
theorem lcQ {α : Type} {g : FG} {t : FT} {f : FE} {env : DEnv} {S : Sto} (φ ψ : α → D) (p : α → Bool) : ∀ {l : List α}, (∀ x ∈ l, R (g (φ x) env S) fun e S1 => R (t e S1) fun b S2 => b = p x ∧ S2 = S ∧ (p x = true → R (f e S) fun y S3 => y = ψ x ∧ S3 = S)) → lcD g t f env (l.map φ) S = some ((l.filter p).map ψ, S)
  | [], _ => rfl
  | x :: l, h => by
    obtain ⟨e, S1, h1, b, S2, h2, rfl, rfl, h3⟩ := h x (List.mem_cons_self ..)
    have ih := lcQ φ ψ p (l := l) fun y hy => h y (List.mem_cons_of_mem _ hy)
    show (g (φ x) env S2).bind _ = _
    rw [h1]
    show (t e S1).bind _ = _
    rw [h2]
    show (if p x = true then (f e S2).bind _ else lcD g t f env (l.map φ) S2) = _
    rw [List.filter_cons]
    split
    · rename_i hp
      obtain ⟨y, S3, h4, rfl, rfl⟩ := h3 hp
      rw [h4]
      show (lcD g t f env (l.map φ) S3).bind _ = _
      rw [ih]
      rfl
    · exact ih
end LW
namespace LW
open PySem PySem.Spec L2 TL DL
open PyProof.Rows hiding pairD cutD
structure NKind (k : Str) (lo : Int) : Prop where
  sp : 32 ∉ tl k
  lk : tab_LEAST.lookup k = some lo
  n1 : k ≠ "odd"
  n2 : k ≠ "even"
  len : k.length ≤ 100
theorem nk_crowd : NKind "crowd" 2 := ⟨by decide +kernel, by decide +kernel, by decide +kernel, by decide +kernel, by decide +kernel⟩
theorem nk_star : NKind "star" 1 := ⟨by decide +kernel, by decide +kernel, by decide +kernel, by decide +kernel, by decide +kernel⟩
theorem nk_pairs : NKind "pairs" 1 := ⟨by decide +kernel, by decide +kernel, by decide +kernel, by decide +kernel, by decide +kernel⟩
theorem nk_row : NKind "row" 2 := ⟨by decide +kernel, by decide +kernel, by decide +kernel, by decide +kernel, by decide +kernel⟩
theorem nk_ring : NKind "ring" 3 := ⟨by decide +kernel, by decide +kernel, by decide +kernel, by decide +kernel, by decide +kernel⟩
theorem nk_core : NKind "core" 1 := ⟨by decide +kernel, by decide +kernel, by decide +kernel, by decide +kernel, by decide +kernel⟩
theorem nk_linked : NKind "linked" 1 := ⟨by decide +kernel, by decide +kernel, by decide +kernel, by decide +kernel, by decide +kernel⟩
inductive NK1 : Str → Int → Prop
  | crowd : NK1 "crowd" 2
  | star : NK1 "star" 1
  | pairs : NK1 "pairs" 1
  | row : NK1 "row" 2
  | ring : NK1 "ring" 3
  | core : NK1 "core" 1
  | linked : NK1 "linked" 1
theorem NK1.kind {o : Str} {lo : Int} (h : NK1 o lo) : NKind o lo ∧ 0 ≤ lo := by
  cases h with
  | crowd => exact ⟨nk_crowd, by decide⟩
  | star => exact ⟨nk_star, by decide⟩
  | pairs => exact ⟨nk_pairs, by decide⟩
  | row => exact ⟨nk_row, by decide⟩
  | ring => exact ⟨nk_ring, by decide⟩
  | core => exact ⟨nk_core, by decide⟩
  | linked => exact ⟨nk_linked, by decide⟩
theorem NK1.or {o : Str} {lo : Int} (h : NK1 o lo) : o = "crowd" ∨ o = "star" ∨ o = "pairs" ∨ o = "row" ∨ o = "ring" ∨ o = "core" ∨ o = "linked" := by
  cases h <;> simp
end LW
namespace LW
open PySem PySem.Spec L2 TL DL
open PyProof.Rows hiding pairD cutD
open Tk
theorem q_lcQ {α : Type} {g : FG} {t : FT} {f : FE} {env : DEnv} {S : Sto} {P : Tk → List D → Sto → Prop} (φ ψ : α → D) (p : α → Bool) {l : List α} (h : ∀ x ∈ l, Qr go (g (φ x) env S) fun tk e S1 => Qr tk (t e S1) fun tk b S2 => b = p x ∧ S2 = S ∧ (p x = true → Qr tk (f e S) fun _ y S3 => y = ψ x ∧ S3 = S)) (q : P go ((l.filter p).map ψ) S) : Qr go (lcD g t f env (l.map φ) S) P :=
  ⟨_, _, lcQ φ ψ p h, q⟩
end LW
namespace LW
open PySem PySem.Spec L2 TL DL
open PyProof.Rows hiding pairD cutD
open Tk
/-- a comprehension whose turns change the store -/
theorem q_lcE {g : FG} {f : FE} {env : DEnv} {P : Tk → List D → Sto → Prop} (K : D → Prop) (J : Nat → Sto → Prop) {items : List D} {S : Sto} (h0 : J 0 S) (hs : ∀ i d S', items[i]? = some d → J i S' → Qr go (g d env S') fun tk e S1 => Qr tk (f e S1) fun _ y S2 => K y ∧ J (i + 1) S2)
    (k : ∀ ys S', (∀ y ∈ ys, K y) → ys.length = items.length → J items.length S' → P go ys S') : Qr go (lcD g tYesD f env items S) P := by
  suffices h : ∀ (r : List D) (i : Nat) (S : Sto), items.drop i = r → J i S → ∃ ys S', lcD g tYesD f env r S = some (ys, S') ∧ (∀ y ∈ ys, K y) ∧ ys.length = r.length ∧ J (i + r.length) S' by
    obtain ⟨ys, S', e, h1, h2, h3⟩ := h items 0 S rfl h0
    exact ⟨ys, S', e, k ys S' h1 h2 (by simpa using h3)⟩
  intro r
  induction r with
  | nil => intro i S _ hi; exact ⟨[], S, rfl, fun y hy => (by cases hy), rfl, hi⟩
  | cons d r ih =>
    intro i S hd hi
    have q1 : items[i]? = some d := by
      have := congrArg (fun l => l[0]?) hd
      simpa using this
    have q2 : items.drop (i + 1) = r := by
      have := congrArg List.tail hd
      simpa [List.tail_drop] using this
    obtain ⟨e, S1, e1, y, S2, e2, hy, h2⟩ := hs i d S q1 hi
    obtain ⟨ys, S3, e3, h3, h4, h5⟩ := ih (i + 1) S2 q2 h2
    refine ⟨y :: ys, S3, ?_, fun z hz => ?_, by rw [List.length_cons, List.length_cons, h4], by rw [List.length_cons]; rwa [Nat.add_assoc, Nat.add_comm 1] at h5⟩
    · show ((g d env S).bind _) = _
      rw [e1]
      show ((f e S1).bind _) = _
      rw [e2]
      show ((lcD g tYesD f env r S2).bind _) = _
      rw [e3]
      rfl
    · rcases List.mem_cons.mp hz with rfl | hz
      · exact hy
      · exact h3 z hz
end LW
set_option exponentiation.threshold 2000
namespace LW
open PySem PySem.Spec PyProof.Rows L2 DL
def Prs (S : Sto) (i : Nat) : Prop := ∃ a b : Int, S[i]? = some (.lst [.int a, .int b]) ∧ 0 ≤ b ∧ b < 2147483647
theorem small_lit {i : Int} (h : -1000000000000000000000 ≤ i) (h2 : i ≤ 1000000000000000000000) : smallI i = true := small_bd (a := 80) (by
  unfold Bd
  have : (2 : Nat) ^ 80 = 1208925819614629174706176 := by decide
  omega) (by decide) (by decide)
theorem lg_lit {i : Int} (h : 0 ≤ i) (h2 : i ≤ 10000000000000000000000000000000000000000000000000000000000000000000000000000000000) : lgI i := lg_bd (a := 300) (by
  unfold Bd
  have : (2 : Nat) ^ 300 = 2037035976334486086268445688409378161051468393665936250636140449354381299763336706183397376 := by decide
  omega) (by decide)
theorem r_draw {S : Sto} {i : Nat} {m : Int} {P : D → Sto → Prop} (h : Prs S i) (hm : 0 < m) (hm2 : m ≤ 10000000000000000000000000000000000000000000000000000000000000000000000000000000000)
    (k : ∀ r S', 0 ≤ r → r < m → Prs S' i → Apart S S' i → P (.int r) S') : R (w__law_draw [.ref i, .int m] S) P := by
  obtain ⟨a, b, hc, hb, hb2⟩ := h
  unfold w__law_draw d__law_draw b__law_draw
  simp only [R_some, wb_bl, wi_int, wstr_str, wtup_tup, wlst_lst, wref_ref, wp_var0, wp_varS, wp_C, wp_Bin, wp_neg, wp_nil, wp_cons, wp_tup, wp_lst, wp_lstM, wp_Call, wp_And, wp_Or, wp_Not, wp_Test, wp_tAnd, wp_tOr, wp_tNot, wp_If, wp_Chain, wp_Skip, wp_Break, wp_Cont, wp_Never, wp_fNever, wp_Seq, wp_pfl_nx, wp_pfl_rt, wp_pfl_bk, wp_pfl_ct, wp_Expr, wp_Ret, wp_sIf, wp_Asg, wp_N, wp_gNil, wp_gCons, wp_gTup, wp_gSub, wp_Par, wp_two, wp_Run, wp_run_rt, wp_run_nx, wp_bk_nx, wp_bk_ct, wp_bk_bk, wp_bk_rt, wp_r1, wp_r2, wp_add, wp_addL, wp_addS, wp_mul, wp_fdiv, wp_mod, wp_I0, wp_eqI, wp_eqS, wp_eqB, wp_neI, wp_neS, wp_neB, wp_isN, wp_notN, isn_int, isn_non, isn_str, isn_tup, isn_lst, isn_ref, isn_bl, wp_isi, wp_someB, isi_str_str, isi_int_int, isi_int_bl, isi_bool_int, isi_bool_bl, isi_int_non, isi_int_str, isi_tuple_tup, wp_abs, wp_max2, wp_min2, wp_maxT, wp_intI, wp_intB, wp_lenS, wp_lenT, wp_lenL, wp_lenC, wp_divmod, wp_listL, wp_listT, wp_tupL, wp_tupT, wp_KIn, wp_strE, wp_Fld, wp_FldO, wp_Meth, wp_MakeF, wp_someL, wp_iR1, wp_iR2, wp_iLst, wp_iTup, wp_Prop, wp_IsC, wp_DGet1, wp_DIn, wp_gUnl, wp_DictK, wp_rep, wp_MethK, wp_CallK, wp_DispF, wp_DIx, wp_someX, wp_ixL, wp_ixT, wp_ixC, atI0, atI1, atI2, ixN0, ixN1, wp_Sl, wp_oNone, wp_oSome, wp_slC, wp_slL, wp_slS, str_eq, String.reduceEq, in_ring_crowd, in_ring_star, in_ring_pairs, in_ring_row, in_ring_ring, in_ring_core, in_ring_linked, in_ring_odd_ring, in_ring_even_ring, Bool.or_self, Bool.and_self, wp_Lc, wp_Yes, wp_pow10_9, wp_pow10_18, wp_pow10_40, wp_For, wp_sFld, wp_last, set_last, wp_KIx, wp_inT, wp_inL, eqF_str, flat_str, flat_int, flat_non, List.any_cons, List.any_nil, List.all_cons, List.all_nil, Bool.and_true, Bool.or_false, Bool.true_and, Bool.false_and, Bool.and_false, Bool.false_or, Bool.or_true, Bool.true_or, Bool.not_not, List.map_cons, List.map_nil, List.length_cons, List.length_nil, List.cons_append, List.nil_append, List.append_nil, List.set_cons_zero, List.set_cons_succ, List.replicate_succ, List.replicate_zero, Nat.reduceSub, Nat.reduceAdd, Nat.reduceLeDiff, Nat.zero_add, Nat.sub_self, decide_eq_true_eq, Bool.not_eq_true', Bool.not_eq_eq_eq_not, Bool.not_true, Bool.not_false, decide_eq_false_iff_not, if_true, if_false, reduceIte, Bool.false_eq_true, true_and, and_true, decide_true, decide_false, Bool.true_eq_false, eq_self, wp_ixR hc, wp_setR hc, wp_aXi, wp_ltX, wp_leX, wp_SlX, wp_sXc, wp_sXl, wp_aXl, wp_intI]
  have hs : smallI b = true := small_lit (by omega) (by omega)
  by_cases ha : 0 < a
  · rw [if_pos ha]
    refine ⟨⟨hm, lg_lit (by omega) hm2⟩, k _ _ (Int.emod_nonneg _ (by omega)) (Int.emod_lt_of_pos _ hm) ⟨a / m, b, set_at hc, hb, hb2⟩ (Apart.set _ _ _)⟩
  · rw [if_neg ha]
    have hc2 : (S.set i (Cell.lst [.int a, .int ((b * 69621 + 40503) % 2147483647)]))[i]? = some (.lst [.int a, .int ((b * 69621 + 40503) % 2147483647)]) := set_at hc
    simp only [R_some, wb_bl, wi_int, wstr_str, wtup_tup, wlst_lst, wref_ref, wp_var0, wp_varS, wp_C, wp_Bin, wp_neg, wp_nil, wp_cons, wp_tup, wp_lst, wp_lstM, wp_Call, wp_And, wp_Or, wp_Not, wp_Test, wp_tAnd, wp_tOr, wp_tNot, wp_If, wp_Chain, wp_Skip, wp_Break, wp_Cont, wp_Never, wp_fNever, wp_Seq, wp_pfl_nx, wp_pfl_rt, wp_pfl_bk, wp_pfl_ct, wp_Expr, wp_Ret, wp_sIf, wp_Asg, wp_N, wp_gNil, wp_gCons, wp_gTup, wp_gSub, wp_Par, wp_two, wp_Run, wp_run_rt, wp_run_nx, wp_bk_nx, wp_bk_ct, wp_bk_bk, wp_bk_rt, wp_r1, wp_r2, wp_add, wp_addL, wp_addS, wp_mul, wp_fdiv, wp_mod, wp_I0, wp_eqI, wp_eqS, wp_eqB, wp_neI, wp_neS, wp_neB, wp_isN, wp_notN, isn_int, isn_non, isn_str, isn_tup, isn_lst, isn_ref, isn_bl, wp_isi, wp_someB, isi_str_str, isi_int_int, isi_int_bl, isi_bool_int, isi_bool_bl, isi_int_non, isi_int_str, isi_tuple_tup, wp_abs, wp_max2, wp_min2, wp_maxT, wp_intI, wp_intB, wp_lenS, wp_lenT, wp_lenL, wp_lenC, wp_divmod, wp_listL, wp_listT, wp_tupL, wp_tupT, wp_KIn, wp_strE, wp_Fld, wp_FldO, wp_Meth, wp_MakeF, wp_someL, wp_iR1, wp_iR2, wp_iLst, wp_iTup, wp_Prop, wp_IsC, wp_DGet1, wp_DIn, wp_gUnl, wp_DictK, wp_rep, wp_MethK, wp_CallK, wp_DispF, wp_DIx, wp_someX, wp_ixL, wp_ixT, wp_ixC, atI0, atI1, atI2, ixN0, ixN1, wp_Sl, wp_oNone, wp_oSome, wp_slC, wp_slL, wp_slS, str_eq, String.reduceEq, in_ring_crowd, in_ring_star, in_ring_pairs, in_ring_row, in_ring_ring, in_ring_core, in_ring_linked, in_ring_odd_ring, in_ring_even_ring, Bool.or_self, Bool.and_self, wp_Lc, wp_Yes, wp_pow10_9, wp_pow10_18, wp_pow10_40, wp_For, wp_sFld, wp_last, set_last, wp_KIx, wp_inT, wp_inL, eqF_str, flat_str, flat_int, flat_non, List.any_cons, List.any_nil, List.all_cons, List.all_nil, Bool.and_true, Bool.or_false, Bool.true_and, Bool.false_and, Bool.and_false, Bool.false_or, Bool.or_true, Bool.true_or, Bool.not_not, List.map_cons, List.map_nil, List.length_cons, List.length_nil, List.cons_append, List.nil_append, List.append_nil, List.set_cons_zero, List.set_cons_succ, List.replicate_succ, List.replicate_zero, Nat.reduceSub, Nat.reduceAdd, Nat.reduceLeDiff, Nat.zero_add, Nat.sub_self, decide_eq_true_eq, Bool.not_eq_true', Bool.not_eq_eq_eq_not, Bool.not_true, Bool.not_false, decide_eq_false_iff_not, if_true, if_false, reduceIte, Bool.false_eq_true, true_and, and_true, decide_true, decide_false, Bool.true_eq_false, eq_self, wp_ixR hc2, wp_aXi, wp_ltX, wp_leX, wp_SlX, wp_sXc, wp_sXl, wp_aXl, wp_intI]
    refine ⟨⟨hs, small_lit (by decide) (by decide)⟩, by decide, ⟨by decide, lg_lit (by decide) (by decide)⟩, hm, ?_⟩
    exact k _ _ (Int.emod_nonneg _ (by omega)) (Int.emod_lt_of_pos _ hm) ⟨a, _, hc2, Int.emod_nonneg _ (by decide), Int.emod_lt_of_pos _ (by decide)⟩ (Apart.set _ _ _)
theorem r_purse (ns : List Int) (hns : ns.length ≤ 63) (k : Int) (h0 : 0 ≤ k) (hk : k ≤ 1000) (S : Sto) {P : D → Sto → Prop} (hP : ∀ S', S'.length = S.length + 1 → Prs S' S.length → (∀ j, j < S.length → S'[j]? = S[j]?) → P (.ref S.length) S') : R (w__law_purse [.scr ns, .int k] S) P := by
  have hcell : ∀ Q : D → Sto → Prop, (∀ z, Q (.int z) S) → R ((fIf (fTest (fBin gLt (fVar 1) (fCall cLen (fCons (fVar 0) fNil)))) (fBin gIx (fVar 0) (fVar 1)) (fBin gMul (fC (.int 7919)) (fBin gAdd (fVar 1) (fC (.int 5))))) [some (.scr ns), some (.int k), none, none, none] S) Q := by
    intro Q hQ
    simp only [R_some, wb_bl, wi_int, wstr_str, wtup_tup, wlst_lst, wref_ref, wp_var0, wp_varS, wp_C, wp_Bin, wp_neg, wp_nil, wp_cons, wp_tup, wp_lst, wp_lstM, wp_Call, wp_And, wp_Or, wp_Not, wp_Test, wp_tAnd, wp_tOr, wp_tNot, wp_If, wp_Chain, wp_Skip, wp_Break, wp_Cont, wp_Never, wp_fNever, wp_Seq, wp_pfl_nx, wp_pfl_rt, wp_pfl_bk, wp_pfl_ct, wp_Expr, wp_Ret, wp_sIf, wp_Asg, wp_N, wp_gNil, wp_gCons, wp_gTup, wp_gSub, wp_Par, wp_two, wp_Run, wp_run_rt, wp_run_nx, wp_bk_nx, wp_bk_ct, wp_bk_bk, wp_bk_rt, wp_r1, wp_r2, wp_add, wp_addL, wp_addS, wp_mul, wp_fdiv, wp_mod, wp_I0, wp_eqI, wp_eqS, wp_eqB, wp_neI, wp_neS, wp_neB, wp_isN, wp_notN, isn_int, isn_non, isn_str, isn_tup, isn_lst, isn_ref, isn_bl, wp_isi, wp_someB, isi_str_str, isi_int_int, isi_int_bl, isi_bool_int, isi_bool_bl, isi_int_non, isi_int_str, isi_tuple_tup, wp_abs, wp_max2, wp_min2, wp_maxT, wp_intI, wp_intB, wp_lenS, wp_lenT, wp_lenL, wp_lenC, wp_divmod, wp_listL, wp_listT, wp_tupL, wp_tupT, wp_KIn, wp_strE, wp_Fld, wp_FldO, wp_Meth, wp_MakeF, wp_someL, wp_iR1, wp_iR2, wp_iLst, wp_iTup, wp_Prop, wp_IsC, wp_DGet1, wp_DIn, wp_gUnl, wp_DictK, wp_rep, wp_MethK, wp_CallK, wp_DispF, wp_DIx, wp_someX, wp_ixL, wp_ixT, wp_ixC, atI0, atI1, atI2, ixN0, ixN1, wp_Sl, wp_oNone, wp_oSome, wp_slC, wp_slL, wp_slS, str_eq, String.reduceEq, in_ring_crowd, in_ring_star, in_ring_pairs, in_ring_row, in_ring_ring, in_ring_core, in_ring_linked, in_ring_odd_ring, in_ring_even_ring, Bool.or_self, Bool.and_self, wp_Lc, wp_Yes, wp_pow10_9, wp_pow10_18, wp_pow10_40, wp_For, wp_sFld, wp_last, set_last, wp_KIx, wp_inT, wp_inL, eqF_str, flat_str, flat_int, flat_non, List.any_cons, List.any_nil, List.all_cons, List.all_nil, Bool.and_true, Bool.or_false, Bool.true_and, Bool.false_and, Bool.and_false, Bool.false_or, Bool.or_true, Bool.true_or, Bool.not_not, List.map_cons, List.map_nil, List.length_cons, List.length_nil, List.cons_append, List.nil_append, List.append_nil, List.set_cons_zero, List.set_cons_succ, List.replicate_succ, List.replicate_zero, Nat.reduceSub, Nat.reduceAdd, Nat.reduceLeDiff, Nat.zero_add, Nat.sub_self, decide_eq_true_eq, Bool.not_eq_true', Bool.not_eq_eq_eq_not, Bool.not_true, Bool.not_false, decide_eq_false_iff_not, if_true, if_false, reduceIte, Bool.false_eq_true, true_and, and_true, decide_true, decide_false, Bool.true_eq_false, eq_self, wp_aXi, wp_ltX, wp_leX, wp_SlX, wp_sXc, wp_sXl, wp_aXl, wp_intI]
    split
    · rename_i hk
      obtain ⟨x, hx, _⟩ := atI_in (xs := ns) h0 hk
      exact ⟨x, hx, hQ x⟩
    · exact ⟨⟨small_lit (by decide) (by decide), small_lit (by omega) (by omega)⟩, hQ _⟩
  unfold w__law_purse d__law_purse b__law_purse
  simp only [R_some, wb_bl, wi_int, wstr_str, wtup_tup, wlst_lst, wref_ref, wp_var0, wp_varS, wp_C, wp_Bin, wp_neg, wp_nil, wp_cons, wp_tup, wp_lst, wp_lstM, wp_Call, wp_And, wp_Or, wp_Not, wp_Test, wp_tAnd, wp_tOr, wp_tNot, wp_Chain, wp_Skip, wp_Break, wp_Cont, wp_Never, wp_fNever, wp_Seq, wp_pfl_nx, wp_pfl_rt, wp_pfl_bk, wp_pfl_ct, wp_Expr, wp_Ret, wp_sIf, wp_Asg, wp_N, wp_gNil, wp_gCons, wp_gTup, wp_gSub, wp_Par, wp_two, wp_Run, wp_run_rt, wp_run_nx, wp_bk_nx, wp_bk_ct, wp_bk_bk, wp_bk_rt, wp_r1, wp_r2, wp_add, wp_addL, wp_addS, wp_mul, wp_fdiv, wp_mod, wp_I0, wp_eqI, wp_eqS, wp_eqB, wp_neI, wp_neS, wp_neB, wp_isN, wp_notN, isn_int, isn_non, isn_str, isn_tup, isn_lst, isn_ref, isn_bl, wp_isi, wp_someB, isi_str_str, isi_int_int, isi_int_bl, isi_bool_int, isi_bool_bl, isi_int_non, isi_int_str, isi_tuple_tup, wp_abs, wp_max2, wp_min2, wp_maxT, wp_intI, wp_intB, wp_lenS, wp_lenT, wp_lenL, wp_lenC, wp_divmod, wp_listL, wp_listT, wp_tupL, wp_tupT, wp_KIn, wp_strE, wp_Fld, wp_FldO, wp_Meth, wp_MakeF, wp_someL, wp_iR1, wp_iR2, wp_iLst, wp_iTup, wp_Prop, wp_IsC, wp_DGet1, wp_DIn, wp_gUnl, wp_DictK, wp_rep, wp_MethK, wp_CallK, wp_DispF, wp_DIx, wp_someX, wp_ixL, wp_ixT, wp_ixC, atI0, atI1, atI2, ixN0, ixN1, wp_Sl, wp_oNone, wp_oSome, wp_slC, wp_slL, wp_slS, str_eq, String.reduceEq, in_ring_crowd, in_ring_star, in_ring_pairs, in_ring_row, in_ring_ring, in_ring_core, in_ring_linked, in_ring_odd_ring, in_ring_even_ring, Bool.or_self, Bool.and_self, wp_Lc, wp_Yes, wp_pow10_9, wp_pow10_18, wp_pow10_40, wp_sFld, wp_last, set_last, wp_KIx, wp_inT, wp_inL, eqF_str, flat_str, flat_int, flat_non, List.any_cons, List.any_nil, List.all_cons, List.all_nil, Bool.and_true, Bool.or_false, Bool.true_and, Bool.false_and, Bool.and_false, Bool.false_or, Bool.or_true, Bool.true_or, Bool.not_not, List.map_cons, List.map_nil, List.length_cons, List.length_nil, List.cons_append, List.nil_append, List.append_nil, List.set_cons_zero, List.set_cons_succ, List.replicate_succ, List.replicate_zero, Nat.reduceSub, Nat.reduceAdd, Nat.reduceLeDiff, Nat.zero_add, Nat.sub_self, decide_eq_true_eq, Bool.not_eq_true', Bool.not_eq_eq_eq_not, Bool.not_true, Bool.not_false, decide_eq_false_iff_not, if_true, if_false, reduceIte, Bool.false_eq_true, true_and, and_true, decide_true, decide_false, Bool.true_eq_false, eq_self, wp_aXi, wp_ltX, wp_leX, wp_SlX, wp_sXc, wp_sXl, wp_aXl, wp_intI]
  refine hcell _ fun z => ?_
  refine r_forM (S1 := S) (items := (cutD ns none (some 5)).map D.int ++ [D.int z]) ?_ (fun env S2 => S2 = S ∧ ∃ (b : Int) (e : Option D), env = [some (.scr ns), some (.int k), some (.int z), some (.int b), e] ∧ 0 ≤ b ∧ b < 2147483647) ⟨rfl, _, _, rfl, by omega, by omega⟩ ?_ ?_
  · rw [← R_eq]
    simp only [R_some, wb_bl, wi_int, wstr_str, wtup_tup, wlst_lst, wref_ref, wp_var0, wp_varS, wp_C, wp_Bin, wp_neg, wp_nil, wp_cons, wp_tup, wp_lst, wp_lstM, wp_Call, wp_And, wp_Or, wp_Not, wp_Test, wp_tAnd, wp_tOr, wp_tNot, wp_If, wp_Chain, wp_Skip, wp_Break, wp_Cont, wp_Never, wp_fNever, wp_Seq, wp_pfl_nx, wp_pfl_rt, wp_pfl_bk, wp_pfl_ct, wp_Expr, wp_Ret, wp_sIf, wp_Asg, wp_N, wp_gNil, wp_gCons, wp_gTup, wp_gSub, wp_Par, wp_two, wp_Run, wp_run_rt, wp_run_nx, wp_bk_nx, wp_bk_ct, wp_bk_bk, wp_bk_rt, wp_r1, wp_r2, wp_add, wp_addL, wp_addS, wp_mul, wp_fdiv, wp_mod, wp_I0, wp_eqI, wp_eqS, wp_eqB, wp_neI, wp_neS, wp_neB, wp_isN, wp_notN, isn_int, isn_non, isn_str, isn_tup, isn_lst, isn_ref, isn_bl, wp_isi, wp_someB, isi_str_str, isi_int_int, isi_int_bl, isi_bool_int, isi_bool_bl, isi_int_non, isi_int_str, isi_tuple_tup, wp_abs, wp_max2, wp_min2, wp_maxT, wp_intI, wp_intB, wp_lenS, wp_lenT, wp_lenL, wp_lenC, wp_divmod, wp_listL, wp_listT, wp_tupL, wp_tupT, wp_KIn, wp_strE, wp_Fld, wp_FldO, wp_Meth, wp_MakeF, wp_someL, wp_iR1, wp_iR2, wp_iLst, wp_iTup, wp_Prop, wp_IsC, wp_DGet1, wp_DIn, wp_gUnl, wp_DictK, wp_rep, wp_MethK, wp_CallK, wp_DispF, wp_DIx, wp_someX, wp_ixL, wp_ixT, wp_ixC, atI0, atI1, atI2, ixN0, ixN1, wp_Sl, wp_oNone, wp_oSome, wp_slC, wp_slL, wp_slS, str_eq, String.reduceEq, in_ring_crowd, in_ring_star, in_ring_pairs, in_ring_row, in_ring_ring, in_ring_core, in_ring_linked, in_ring_odd_ring, in_ring_even_ring, Bool.or_self, Bool.and_self, wp_Lc, wp_Yes, wp_pow10_9, wp_pow10_18, wp_pow10_40, wp_For, wp_sFld, wp_last, set_last, wp_KIx, wp_inT, wp_inL, eqF_str, flat_str, flat_int, flat_non, List.any_cons, List.any_nil, List.all_cons, List.all_nil, Bool.and_true, Bool.or_false, Bool.true_and, Bool.false_and, Bool.and_false, Bool.false_or, Bool.or_true, Bool.true_or, Bool.not_not, List.map_cons, List.map_nil, List.length_cons, List.length_nil, List.cons_append, List.nil_append, List.append_nil, List.set_cons_zero, List.set_cons_succ, List.replicate_succ, List.replicate_zero, Nat.reduceSub, Nat.reduceAdd, Nat.reduceLeDiff, Nat.zero_add, Nat.sub_self, decide_eq_true_eq, Bool.not_eq_true', Bool.not_eq_eq_eq_not, Bool.not_true, Bool.not_false, decide_eq_false_iff_not, if_true, if_false, reduceIte, Bool.false_eq_true, true_and, and_true, decide_true, decide_false, Bool.true_eq_false, eq_self, wp_aXi, wp_ltX, wp_leX, wp_SlX, wp_sXc, wp_sXl, wp_aXl, wp_intI]
    rw [List.length_map]
    unfold DL.cutD
    rw [List.length_take, List.length_drop]
    omega
  · rintro d hd env S2 ⟨rfl, b, e, rfl, hb, hb2⟩
    have hz : ∃ y, d = .int y := by
      rcases List.mem_append.mp hd with q | q
      · obtain ⟨y, _, rfl⟩ := List.mem_map.mp q
        exact ⟨y, rfl⟩
      · exact ⟨z, by simpa using q⟩
    obtain ⟨y, rfl⟩ := hz
    simp only [R_some, wb_bl, wi_int, wstr_str, wtup_tup, wlst_lst, wref_ref, wp_var0, wp_varS, wp_C, wp_Bin, wp_neg, wp_nil, wp_cons, wp_tup, wp_lst, wp_lstM, wp_Call, wp_And, wp_Or, wp_Not, wp_Test, wp_tAnd, wp_tOr, wp_tNot, wp_If, wp_Chain, wp_Skip, wp_Break, wp_Cont, wp_Never, wp_fNever, wp_Seq, wp_pfl_nx, wp_pfl_rt, wp_pfl_bk, wp_pfl_ct, wp_Expr, wp_Ret, wp_sIf, wp_Asg, wp_N, wp_gNil, wp_gCons, wp_gTup, wp_gSub, wp_Par, wp_two, wp_Run, wp_run_rt, wp_run_nx, wp_bk_nx, wp_bk_ct, wp_bk_bk, wp_bk_rt, wp_r1, wp_r2, wp_add, wp_addL, wp_addS, wp_mul, wp_fdiv, wp_mod, wp_I0, wp_eqI, wp_eqS, wp_eqB, wp_neI, wp_neS, wp_neB, wp_isN, wp_notN, isn_int, isn_non, isn_str, isn_tup, isn_lst, isn_ref, isn_bl, wp_isi, wp_someB, isi_str_str, isi_int_int, isi_int_bl, isi_bool_int, isi_bool_bl, isi_int_non, isi_int_str, isi_tuple_tup, wp_abs, wp_max2, wp_min2, wp_maxT, wp_intI, wp_intB, wp_lenS, wp_lenT, wp_lenL, wp_lenC, wp_divmod, wp_listL, wp_listT, wp_tupL, wp_tupT, wp_KIn, wp_strE, wp_Fld, wp_FldO, wp_Meth, wp_MakeF, wp_someL, wp_iR1, wp_iR2, wp_iLst, wp_iTup, wp_Prop, wp_IsC, wp_DGet1, wp_DIn, wp_gUnl, wp_DictK, wp_rep, wp_MethK, wp_CallK, wp_DispF, wp_DIx, wp_someX, wp_ixL, wp_ixT, wp_ixC, atI0, atI1, atI2, ixN0, ixN1, wp_Sl, wp_oNone, wp_oSome, wp_slC, wp_slL, wp_slS, str_eq, String.reduceEq, in_ring_crowd, in_ring_star, in_ring_pairs, in_ring_row, in_ring_ring, in_ring_core, in_ring_linked, in_ring_odd_ring, in_ring_even_ring, Bool.or_self, Bool.and_self, wp_Lc, wp_Yes, wp_pow10_9, wp_pow10_18, wp_pow10_40, wp_For, wp_sFld, wp_last, set_last, wp_KIx, wp_inT, wp_inL, eqF_str, flat_str, flat_int, flat_non, List.any_cons, List.any_nil, List.all_cons, List.all_nil, Bool.and_true, Bool.or_false, Bool.true_and, Bool.false_and, Bool.and_false, Bool.false_or, Bool.or_true, Bool.true_or, Bool.not_not, List.map_cons, List.map_nil, List.length_cons, List.length_nil, List.cons_append, List.nil_append, List.append_nil, List.set_cons_zero, List.set_cons_succ, List.replicate_succ, List.replicate_zero, Nat.reduceSub, Nat.reduceAdd, Nat.reduceLeDiff, Nat.zero_add, Nat.sub_self, decide_eq_true_eq, Bool.not_eq_true', Bool.not_eq_eq_eq_not, Bool.not_true, Bool.not_false, decide_eq_false_iff_not, if_true, if_false, reduceIte, Bool.false_eq_true, true_and, and_true, decide_true, decide_false, Bool.true_eq_false, eq_self, wp_aXi, wp_ltX, wp_leX, wp_SlX, wp_sXc, wp_sXl, wp_aXl, wp_intI]
    refine ⟨⟨small_lit (by omega) (by omega), small_lit (by decide) (by decide)⟩, by decide, by decide, ⟨_, _, rfl, Int.emod_nonneg _ (by decide), Int.emod_lt_of_pos _ (by decide)⟩⟩
  · rintro env S2 ⟨rfl, b, e, rfl, hb, hb2⟩
    simp only [R_some, wb_bl, wi_int, wstr_str, wtup_tup, wlst_lst, wref_ref, wp_var0, wp_varS, wp_C, wp_Bin, wp_neg, wp_nil, wp_cons, wp_tup, wp_lst, wp_lstM, wp_Call, wp_And, wp_Or, wp_Not, wp_Test, wp_tAnd, wp_tOr, wp_tNot, wp_If, wp_Chain, wp_Skip, wp_Break, wp_Cont, wp_Never, wp_fNever, wp_Seq, wp_pfl_nx, wp_pfl_rt, wp_pfl_bk, wp_pfl_ct, wp_Expr, wp_Ret, wp_sIf, wp_Asg, wp_N, wp_gNil, wp_gCons, wp_gTup, wp_gSub, wp_Par, wp_two, wp_Run, wp_run_rt, wp_run_nx, wp_bk_nx, wp_bk_ct, wp_bk_bk, wp_bk_rt, wp_r1, wp_r2, wp_add, wp_addL, wp_addS, wp_mul, wp_fdiv, wp_mod, wp_I0, wp_eqI, wp_eqS, wp_eqB, wp_neI, wp_neS, wp_neB, wp_isN, wp_notN, isn_int, isn_non, isn_str, isn_tup, isn_lst, isn_ref, isn_bl, wp_isi, wp_someB, isi_str_str, isi_int_int, isi_int_bl, isi_bool_int, isi_bool_bl, isi_int_non, isi_int_str, isi_tuple_tup, wp_abs, wp_max2, wp_min2, wp_maxT, wp_intI, wp_intB, wp_lenS, wp_lenT, wp_lenL, wp_lenC, wp_divmod, wp_listL, wp_listT, wp_tupL, wp_tupT, wp_KIn, wp_strE, wp_Fld, wp_FldO, wp_Meth, wp_MakeF, wp_someL, wp_iR1, wp_iR2, wp_iLst, wp_iTup, wp_Prop, wp_IsC, wp_DGet1, wp_DIn, wp_gUnl, wp_DictK, wp_rep, wp_MethK, wp_CallK, wp_DispF, wp_DIx, wp_someX, wp_ixL, wp_ixT, wp_ixC, atI0, atI1, atI2, ixN0, ixN1, wp_Sl, wp_oNone, wp_oSome, wp_slC, wp_slL, wp_slS, str_eq, String.reduceEq, in_ring_crowd, in_ring_star, in_ring_pairs, in_ring_row, in_ring_ring, in_ring_core, in_ring_linked, in_ring_odd_ring, in_ring_even_ring, Bool.or_self, Bool.and_self, wp_Lc, wp_Yes, wp_pow10_9, wp_pow10_18, wp_pow10_40, wp_For, wp_sFld, wp_last, set_last, wp_KIx, wp_inT, wp_inL, eqF_str, flat_str, flat_int, flat_non, List.any_cons, List.any_nil, List.all_cons, List.all_nil, Bool.and_true, Bool.or_false, Bool.true_and, Bool.false_and, Bool.and_false, Bool.false_or, Bool.or_true, Bool.true_or, Bool.not_not, List.map_cons, List.map_nil, List.length_cons, List.length_nil, List.cons_append, List.nil_append, List.append_nil, List.set_cons_zero, List.set_cons_succ, List.replicate_succ, List.replicate_zero, Nat.reduceSub, Nat.reduceAdd, Nat.reduceLeDiff, Nat.zero_add, Nat.sub_self, decide_eq_true_eq, Bool.not_eq_true', Bool.not_eq_eq_eq_not, Bool.not_true, Bool.not_false, decide_eq_false_iff_not, if_true, if_false, reduceIte, Bool.false_eq_true, true_and, and_true, decide_true, decide_false, Bool.true_eq_false, eq_self, wp_aXi, wp_ltX, wp_leX, wp_SlX, wp_sXc, wp_sXl, wp_aXl, wp_intI]
    have q : ∀ a : Int, P (.ref S2.length) (S2 ++ [.lst [.int a, .int b]]) := fun a => hP _ (by simp) ⟨a, b, by simp, hb, hb2⟩ fun j hj => by rw [List.getElem?_append_left hj]
    repeat' split
    all_goals exact q _
end LW
namespace LW
open PySem PySem.Spec L2 TL DL
open PyProof.Rows hiding pairD cutD
open Tk
theorem drawQ {S : Sto} {i : Nat} {m : Int} {P : Tk → D → Sto → Prop} (h : Prs S i) (hm : 0 < m) (hm2 : m ≤ 1000000) (k : ∀ r S', 0 ≤ r → r < m → Prs S' i → DL.Apart S S' i → P go (.int r) S') : Qr go (w__law_draw [.ref i, .int m] S) P :=
  r_draw h hm (by omega) k
/-- the purse's cell -/
def PC (c : Cell) : Prop := ∃ a b : Int, c = .lst [.int a, .int b] ∧ 0 ≤ b ∧ b < 2147483647
theorem Prs.set {S : Sto} {i : Nat} {c' : Cell} (h : Prs S i) (hc : PC c') : Prs (S.set i c') i := by
  obtain ⟨a, b, e, _, _⟩ := h
  obtain ⟨a', b', rfl, h0, h1⟩ := hc
  exact ⟨a', b', set_at e, h0, h1⟩
def pg (L : List (Int × Int)) (k : Nat) : Int × Int := L.getD k (0, 0)
end LW
namespace LW
open PySem PySem.Spec L2 TL DL
open PyProof.Rows hiding pairD cutD
open Tk
def oD : Option Int → D
  | none => .non
  | some i => .int i
theorem small_two {x : Int} (h0 : 0 ≤ x) (h1 : x ≤ 3000000000) : smallI (x * (x - 1) / 2) = true := by
  have h2 : x * (x - 1) ≤ 3000000000 * 3000000000 := by
    rcases Int.lt_or_le 0 x with h | h
    · exact Int.mul_le_mul h1 (by omega) (by omega) (by decide)
    · have : x = 0 := by omega
      subst this
      decide
  have h3 : 0 ≤ x * (x - 1) := by
    rcases Int.lt_or_le 0 x with h | h
    · exact Int.mul_nonneg h0 (by omega)
    · have : x = 0 := by omega
      subst this
      decide
  generalize x * (x - 1) = y at h2 h3
  exact small_lit (by omega) (by omega)
/-- what is known of a thing and a number of people -/
structure LM (kd : Str) (z : D) (n : Int) (L : Option Int) (M : Int) : Prop where
  a : ∀ S, w_least_of [.str kd, z, .int n] S = some (oD L, S)
  b : ∀ S, w__law_least [.str kd, z, .int n] S = some (oD L, S)
  c : ∀ S, w_most_of [.str kd, z, .int n] S = some (.int M, S)
  d : ∀ S, w__law_most [.str kd, z, .int n] S = some (.int M, S)
  m0 : 0 ≤ M
  m1 : M ≤ 10000000000000000000
  l0 : ∀ l, L = some l → 0 ≤ l ∧ l ≤ 10000000000
theorem mul_bd {a b A B : Int} (a0 : 0 ≤ a) (a1 : a ≤ A) (b0 : 0 ≤ b) (b1 : b ≤ B) : 0 ≤ a * b ∧ a * b ≤ A * B := ⟨Int.mul_nonneg a0 b0, Int.mul_le_mul a1 b1 b0 (by omega)⟩
theorem tw (x : Int) : x * (x - 1) / 2 * 2 = x * (x - 1) := by
  have h : (x * (x - 1)) % 2 = 0 := by
    rcases Int.emod_two_eq x with h | h <;> simp [Int.mul_emod, Int.sub_emod, h]
  omega
theorem in0_0 (S : Sto) : gInX false (.str "ring") (.str "odd ring") S = some (.bl true, S) := by kernel_rfl
theorem in0_1 (S : Sto) : gInX false (.str "odd ring") (.tup [.str "crowd", .str "star", .str "row"]) S = some (.bl false, S) := by kernel_rfl
theorem in0_2 (S : Sto) : gInX false (.str "odd ring") (.tup [.str "crowd", .str "row"]) S = some (.bl false, S) := by kernel_rfl
theorem in0_3 (S : Sto) : gInX false (.str "odd ring") (.tup [.str "star", .str "pairs"]) S = some (.bl false, S) := by kernel_rfl
theorem in0_4 (S : Sto) : gInX false (.str "odd ring") (.lst [.str "crowd", .str "row"]) S = some (.bl false, S) := by kernel_rfl
theorem in0_5 (S : Sto) : gInX false (.str "odd ring") (.lst [.str "star", .str "pairs"]) S = some (.bl false, S) := by kernel_rfl
theorem in1_0 (S : Sto) : gInX false (.str "ring") (.str "even ring") S = some (.bl true, S) := by kernel_rfl
theorem in1_1 (S : Sto) : gInX false (.str "even ring") (.tup [.str "crowd", .str "star", .str "row"]) S = some (.bl false, S) := by kernel_rfl
theorem in1_2 (S : Sto) : gInX false (.str "even ring") (.tup [.str "crowd", .str "row"]) S = some (.bl false, S) := by kernel_rfl
theorem in1_3 (S : Sto) : gInX false (.str "even ring") (.tup [.str "star", .str "pairs"]) S = some (.bl false, S) := by kernel_rfl
theorem in1_4 (S : Sto) : gInX false (.str "even ring") (.lst [.str "crowd", .str "row"]) S = some (.bl false, S) := by kernel_rfl
theorem in1_5 (S : Sto) : gInX false (.str "even ring") (.lst [.str "star", .str "pairs"]) S = some (.bl false, S) := by kernel_rfl
theorem in2_0 (S : Sto) : gInX false (.str "ring") (.str "crowd") S = some (.bl false, S) := by kernel_rfl
theorem in2_1 (S : Sto) : gInX false (.str "crowd") (.tup [.str "crowd", .str "star", .str "row"]) S = some (.bl true, S) := by kernel_rfl
theorem in2_2 (S : Sto) : gInX false (.str "crowd") (.tup [.str "crowd", .str "row"]) S = some (.bl true, S) := by kernel_rfl
theorem in2_3 (S : Sto) : gInX false (.str "crowd") (.tup [.str "star", .str "pairs"]) S = some (.bl false, S) := by kernel_rfl
theorem in2_4 (S : Sto) : gInX false (.str "crowd") (.lst [.str "crowd", .str "row"]) S = some (.bl true, S) := by kernel_rfl
theorem in2_5 (S : Sto) : gInX false (.str "crowd") (.lst [.str "star", .str "pairs"]) S = some (.bl false, S) := by kernel_rfl
theorem in3_0 (S : Sto) : gInX false (.str "ring") (.str "star") S = some (.bl false, S) := by kernel_rfl
theorem in3_1 (S : Sto) : gInX false (.str "star") (.tup [.str "crowd", .str "star", .str "row"]) S = some (.bl true, S) := by kernel_rfl
theorem in3_2 (S : Sto) : gInX false (.str "star") (.tup [.str "crowd", .str "row"]) S = some (.bl false, S) := by kernel_rfl
theorem in3_3 (S : Sto) : gInX false (.str "star") (.tup [.str "star", .str "pairs"]) S = some (.bl true, S) := by kernel_rfl
theorem in3_4 (S : Sto) : gInX false (.str "star") (.lst [.str "crowd", .str "row"]) S = some (.bl false, S) := by kernel_rfl
theorem in3_5 (S : Sto) : gInX false (.str "star") (.lst [.str "star", .str "pairs"]) S = some (.bl true, S) := by kernel_rfl
theorem in4_0 (S : Sto) : gInX false (.str "ring") (.str "pairs") S = some (.bl false, S) := by kernel_rfl
theorem in4_1 (S : Sto) : gInX false (.str "pairs") (.tup [.str "crowd", .str "star", .str "row"]) S = some (.bl false, S) := by kernel_rfl
theorem in4_2 (S : Sto) : gInX false (.str "pairs") (.tup [.str "crowd", .str "row"]) S = some (.bl false, S) := by kernel_rfl
theorem in4_3 (S : Sto) : gInX false (.str "pairs") (.tup [.str "star", .str "pairs"]) S = some (.bl true, S) := by kernel_rfl
theorem in4_4 (S : Sto) : gInX false (.str "pairs") (.lst [.str "crowd", .str "row"]) S = some (.bl false, S) := by kernel_rfl
theorem in4_5 (S : Sto) : gInX false (.str "pairs") (.lst [.str "star", .str "pairs"]) S = some (.bl true, S) := by kernel_rfl
theorem in5_0 (S : Sto) : gInX false (.str "ring") (.str "row") S = some (.bl false, S) := by kernel_rfl
theorem in5_1 (S : Sto) : gInX false (.str "row") (.tup [.str "crowd", .str "star", .str "row"]) S = some (.bl true, S) := by kernel_rfl
theorem in5_2 (S : Sto) : gInX false (.str "row") (.tup [.str "crowd", .str "row"]) S = some (.bl true, S) := by kernel_rfl
theorem in5_3 (S : Sto) : gInX false (.str "row") (.tup [.str "star", .str "pairs"]) S = some (.bl false, S) := by kernel_rfl
theorem in5_4 (S : Sto) : gInX false (.str "row") (.lst [.str "crowd", .str "row"]) S = some (.bl true, S) := by kernel_rfl
theorem in5_5 (S : Sto) : gInX false (.str "row") (.lst [.str "star", .str "pairs"]) S = some (.bl false, S) := by kernel_rfl
theorem in6_0 (S : Sto) : gInX false (.str "ring") (.str "ring") S = some (.bl true, S) := by kernel_rfl
theorem in6_1 (S : Sto) : gInX false (.str "ring") (.tup [.str "crowd", .str "star", .str "row"]) S = some (.bl false, S) := by kernel_rfl
theorem in6_2 (S : Sto) : gInX false (.str "ring") (.tup [.str "crowd", .str "row"]) S = some (.bl false, S) := by kernel_rfl
theorem in6_3 (S : Sto) : gInX false (.str "ring") (.tup [.str "star", .str "pairs"]) S = some (.bl false, S) := by kernel_rfl
theorem in6_4 (S : Sto) : gInX false (.str "ring") (.lst [.str "crowd", .str "row"]) S = some (.bl false, S) := by kernel_rfl
theorem in6_5 (S : Sto) : gInX false (.str "ring") (.lst [.str "star", .str "pairs"]) S = some (.bl false, S) := by kernel_rfl
theorem in7_0 (S : Sto) : gInX false (.str "ring") (.str "core") S = some (.bl false, S) := by kernel_rfl
theorem in7_1 (S : Sto) : gInX false (.str "core") (.tup [.str "crowd", .str "star", .str "row"]) S = some (.bl false, S) := by kernel_rfl
theorem in7_2 (S : Sto) : gInX false (.str "core") (.tup [.str "crowd", .str "row"]) S = some (.bl false, S) := by kernel_rfl
theorem in7_3 (S : Sto) : gInX false (.str "core") (.tup [.str "star", .str "pairs"]) S = some (.bl false, S) := by kernel_rfl
theorem in7_4 (S : Sto) : gInX false (.str "core") (.lst [.str "crowd", .str "row"]) S = some (.bl false, S) := by kernel_rfl
theorem in7_5 (S : Sto) : gInX false (.str "core") (.lst [.str "star", .str "pairs"]) S = some (.bl false, S) := by kernel_rfl
theorem in8_0 (S : Sto) : gInX false (.str "ring") (.str "linked") S = some (.bl false, S) := by kernel_rfl
theorem in8_1 (S : Sto) : gInX false (.str "linked") (.tup [.str "crowd", .str "star", .str "row"]) S = some (.bl false, S) := by kernel_rfl
theorem in8_2 (S : Sto) : gInX false (.str "linked") (.tup [.str "crowd", .str "row"]) S = some (.bl false, S) := by kernel_rfl
theorem in8_3 (S : Sto) : gInX false (.str "linked") (.tup [.str "star", .str "pairs"]) S = some (.bl false, S) := by kernel_rfl
theorem in8_4 (S : Sto) : gInX false (.str "linked") (.lst [.str "crowd", .str "row"]) S = some (.bl false, S) := by kernel_rfl
theorem in8_5 (S : Sto) : gInX false (.str "linked") (.lst [.str "star", .str "pairs"]) S = some (.bl false, S) := by kernel_rfl
end LW
namespace LW
open PySem PySem.Spec L2 TL DL
open PyProof.Rows hiding pairD cutD
open Tk
theorem lm0_3 : LM "odd ring" (.non) 3 (some 3) 2 := ⟨fun S => by kernel_rfl, fun S => by kernel_rfl, fun S => by kernel_rfl, fun S => by kernel_rfl, by decide, by decide, fun l h => by cases h; decide⟩
theorem lm0_4 : LM "odd ring" (.non) 4 (some 3) 4 := ⟨fun S => by kernel_rfl, fun S => by kernel_rfl, fun S => by kernel_rfl, fun S => by kernel_rfl, by decide, by decide, fun l h => by cases h; decide⟩
theorem lm0_5 : LM "odd ring" (.non) 5 (some 3) 6 := ⟨fun S => by kernel_rfl, fun S => by kernel_rfl, fun S => by kernel_rfl, fun S => by kernel_rfl, by decide, by decide, fun l h => by cases h; decide⟩
theorem lm0_6 : LM "odd ring" (.non) 6 (some 3) 9 := ⟨fun S => by kernel_rfl, fun S => by kernel_rfl, fun S => by kernel_rfl, fun S => by kernel_rfl, by decide, by decide, fun l h => by cases h; decide⟩
theorem lm0_7 : LM "odd ring" (.non) 7 (some 3) 12 := ⟨fun S => by kernel_rfl, fun S => by kernel_rfl, fun S => by kernel_rfl, fun S => by kernel_rfl, by decide, by decide, fun l h => by cases h; decide⟩
theorem lm0_8 : LM "odd ring" (.non) 8 (some 3) 16 := ⟨fun S => by kernel_rfl, fun S => by kernel_rfl, fun S => by kernel_rfl, fun S => by kernel_rfl, by decide, by decide, fun l h => by cases h; decide⟩
theorem lm1_3 : LM "even ring" (.non) 3 none 3 := ⟨fun S => by kernel_rfl, fun S => by kernel_rfl, fun S => by kernel_rfl, fun S => by kernel_rfl, by decide, by decide, fun l h => by cases h⟩
theorem lm1_4 : LM "even ring" (.non) 4 (some 4) 4 := ⟨fun S => by kernel_rfl, fun S => by kernel_rfl, fun S => by kernel_rfl, fun S => by kernel_rfl, by decide, by decide, fun l h => by cases h; decide⟩
theorem lm1_5 : LM "even ring" (.non) 5 (some 4) 6 := ⟨fun S => by kernel_rfl, fun S => by kernel_rfl, fun S => by kernel_rfl, fun S => by kernel_rfl, by decide, by decide, fun l h => by cases h; decide⟩
theorem lm1_6 : LM "even ring" (.non) 6 (some 4) 7 := ⟨fun S => by kernel_rfl, fun S => by kernel_rfl, fun S => by kernel_rfl, fun S => by kernel_rfl, by decide, by decide, fun l h => by cases h; decide⟩
theorem lm1_7 : LM "even ring" (.non) 7 (some 4) 9 := ⟨fun S => by kernel_rfl, fun S => by kernel_rfl, fun S => by kernel_rfl, fun S => by kernel_rfl, by decide, by decide, fun l h => by cases h; decide⟩
theorem lm1_8 : LM "even ring" (.non) 8 (some 4) 10 := ⟨fun S => by kernel_rfl, fun S => by kernel_rfl, fun S => by kernel_rfl, fun S => by kernel_rfl, by decide, by decide, fun l h => by cases h; decide⟩
theorem lm2_3 : LM "crowd" (.int 2) 3 (some 1) 0 := ⟨fun S => by kernel_rfl, fun S => by kernel_rfl, fun S => by kernel_rfl, fun S => by kernel_rfl, by decide, by decide, fun l h => by cases h; decide⟩
theorem lm2_4 : LM "crowd" (.int 2) 4 (some 1) 0 := ⟨fun S => by kernel_rfl, fun S => by kernel_rfl, fun S => by kernel_rfl, fun S => by kernel_rfl, by decide, by decide, fun l h => by cases h; decide⟩
theorem lm2_5 : LM "crowd" (.int 2) 5 (some 1) 0 := ⟨fun S => by kernel_rfl, fun S => by kernel_rfl, fun S => by kernel_rfl, fun S => by kernel_rfl, by decide, by decide, fun l h => by cases h; decide⟩
theorem lm2_6 : LM "crowd" (.int 2) 6 (some 1) 0 := ⟨fun S => by kernel_rfl, fun S => by kernel_rfl, fun S => by kernel_rfl, fun S => by kernel_rfl, by decide, by decide, fun l h => by cases h; decide⟩
theorem lm2_7 : LM "crowd" (.int 2) 7 (some 1) 0 := ⟨fun S => by kernel_rfl, fun S => by kernel_rfl, fun S => by kernel_rfl, fun S => by kernel_rfl, by decide, by decide, fun l h => by cases h; decide⟩
theorem lm2_8 : LM "crowd" (.int 2) 8 (some 1) 0 := ⟨fun S => by kernel_rfl, fun S => by kernel_rfl, fun S => by kernel_rfl, fun S => by kernel_rfl, by decide, by decide, fun l h => by cases h; decide⟩
theorem lm3_3 : LM "crowd" (.int 3) 3 (some 3) 2 := ⟨fun S => by kernel_rfl, fun S => by kernel_rfl, fun S => by kernel_rfl, fun S => by kernel_rfl, by decide, by decide, fun l h => by cases h; decide⟩
theorem lm3_4 : LM "crowd" (.int 3) 4 (some 3) 4 := ⟨fun S => by kernel_rfl, fun S => by kernel_rfl, fun S => by kernel_rfl, fun S => by kernel_rfl, by decide, by decide, fun l h => by cases h; decide⟩
theorem lm3_5 : LM "crowd" (.int 3) 5 (some 3) 6 := ⟨fun S => by kernel_rfl, fun S => by kernel_rfl, fun S => by kernel_rfl, fun S => by kernel_rfl, by decide, by decide, fun l h => by cases h; decide⟩
theorem lm3_6 : LM "crowd" (.int 3) 6 (some 3) 9 := ⟨fun S => by kernel_rfl, fun S => by kernel_rfl, fun S => by kernel_rfl, fun S => by kernel_rfl, by decide, by decide, fun l h => by cases h; decide⟩
theorem lm3_7 : LM "crowd" (.int 3) 7 (some 3) 12 := ⟨fun S => by kernel_rfl, fun S => by kernel_rfl, fun S => by kernel_rfl, fun S => by kernel_rfl, by decide, by decide, fun l h => by cases h; decide⟩
theorem lm3_8 : LM "crowd" (.int 3) 8 (some 3) 16 := ⟨fun S => by kernel_rfl, fun S => by kernel_rfl, fun S => by kernel_rfl, fun S => by kernel_rfl, by decide, by decide, fun l h => by cases h; decide⟩
theorem lm4_3 : LM "crowd" (.int 4) 3 none 3 := ⟨fun S => by kernel_rfl, fun S => by kernel_rfl, fun S => by kernel_rfl, fun S => by kernel_rfl, by decide, by decide, fun l h => by cases h⟩
theorem lm4_4 : LM "crowd" (.int 4) 4 (some 6) 5 := ⟨fun S => by kernel_rfl, fun S => by kernel_rfl, fun S => by kernel_rfl, fun S => by kernel_rfl, by decide, by decide, fun l h => by cases h; decide⟩
theorem lm4_5 : LM "crowd" (.int 4) 5 (some 6) 8 := ⟨fun S => by kernel_rfl, fun S => by kernel_rfl, fun S => by kernel_rfl, fun S => by kernel_rfl, by decide, by decide, fun l h => by cases h; decide⟩
theorem lm4_6 : LM "crowd" (.int 4) 6 (some 6) 12 := ⟨fun S => by kernel_rfl, fun S => by kernel_rfl, fun S => by kernel_rfl, fun S => by kernel_rfl, by decide, by decide, fun l h => by cases h; decide⟩
theorem lm4_7 : LM "crowd" (.int 4) 7 (some 6) 16 := ⟨fun S => by kernel_rfl, fun S => by kernel_rfl, fun S => by kernel_rfl, fun S => by kernel_rfl, by decide, by decide, fun l h => by cases h; decide⟩
theorem lm4_8 : LM "crowd" (.int 4) 8 (some 6) 21 := ⟨fun S => by kernel_rfl, fun S => by kernel_rfl, fun S => by kernel_rfl, fun S => by kernel_rfl, by decide, by decide, fun l h => by cases h; decide⟩
theorem lm5_3 : LM "star" (.int 1) 3 (some 1) 0 := ⟨fun S => by kernel_rfl, fun S => by kernel_rfl, fun S => by kernel_rfl, fun S => by kernel_rfl, by decide, by decide, fun l h => by cases h; decide⟩
theorem lm5_4 : LM "star" (.int 1) 4 (some 1) 0 := ⟨fun S => by kernel_rfl, fun S => by kernel_rfl, fun S => by kernel_rfl, fun S => by kernel_rfl, by decide, by decide, fun l h => by cases h; decide⟩
theorem lm5_5 : LM "star" (.int 1) 5 (some 1) 0 := ⟨fun S => by kernel_rfl, fun S => by kernel_rfl, fun S => by kernel_rfl, fun S => by kernel_rfl, by decide, by decide, fun l h => by cases h; decide⟩
theorem lm5_6 : LM "star" (.int 1) 6 (some 1) 0 := ⟨fun S => by kernel_rfl, fun S => by kernel_rfl, fun S => by kernel_rfl, fun S => by kernel_rfl, by decide, by decide, fun l h => by cases h; decide⟩
theorem lm5_7 : LM "star" (.int 1) 7 (some 1) 0 := ⟨fun S => by kernel_rfl, fun S => by kernel_rfl, fun S => by kernel_rfl, fun S => by kernel_rfl, by decide, by decide, fun l h => by cases h; decide⟩
theorem lm5_8 : LM "star" (.int 1) 8 (some 1) 0 := ⟨fun S => by kernel_rfl, fun S => by kernel_rfl, fun S => by kernel_rfl, fun S => by kernel_rfl, by decide, by decide, fun l h => by cases h; decide⟩
theorem lm6_3 : LM "star" (.int 2) 3 (some 2) 1 := ⟨fun S => by kernel_rfl, fun S => by kernel_rfl, fun S => by kernel_rfl, fun S => by kernel_rfl, by decide, by decide, fun l h => by cases h; decide⟩
theorem lm6_4 : LM "star" (.int 2) 4 (some 2) 2 := ⟨fun S => by kernel_rfl, fun S => by kernel_rfl, fun S => by kernel_rfl, fun S => by kernel_rfl, by decide, by decide, fun l h => by cases h; decide⟩
theorem lm6_5 : LM "star" (.int 2) 5 (some 2) 2 := ⟨fun S => by kernel_rfl, fun S => by kernel_rfl, fun S => by kernel_rfl, fun S => by kernel_rfl, by decide, by decide, fun l h => by cases h; decide⟩
theorem lm6_6 : LM "star" (.int 2) 6 (some 2) 3 := ⟨fun S => by kernel_rfl, fun S => by kernel_rfl, fun S => by kernel_rfl, fun S => by kernel_rfl, by decide, by decide, fun l h => by cases h; decide⟩
theorem lm6_7 : LM "star" (.int 2) 7 (some 2) 3 := ⟨fun S => by kernel_rfl, fun S => by kernel_rfl, fun S => by kernel_rfl, fun S => by kernel_rfl, by decide, by decide, fun l h => by cases h; decide⟩
theorem lm6_8 : LM "star" (.int 2) 8 (some 2) 4 := ⟨fun S => by kernel_rfl, fun S => by kernel_rfl, fun S => by kernel_rfl, fun S => by kernel_rfl, by decide, by decide, fun l h => by cases h; decide⟩
theorem lm7_3 : LM "star" (.int 3) 3 none 3 := ⟨fun S => by kernel_rfl, fun S => by kernel_rfl, fun S => by kernel_rfl, fun S => by kernel_rfl, by decide, by decide, fun l h => by cases h⟩
theorem lm7_4 : LM "star" (.int 3) 4 (some 3) 4 := ⟨fun S => by kernel_rfl, fun S => by kernel_rfl, fun S => by kernel_rfl, fun S => by kernel_rfl, by decide, by decide, fun l h => by cases h; decide⟩
theorem lm7_5 : LM "star" (.int 3) 5 (some 3) 5 := ⟨fun S => by kernel_rfl, fun S => by kernel_rfl, fun S => by kernel_rfl, fun S => by kernel_rfl, by decide, by decide, fun l h => by cases h; decide⟩
theorem lm7_6 : LM "star" (.int 3) 6 (some 3) 6 := ⟨fun S => by kernel_rfl, fun S => by kernel_rfl, fun S => by kernel_rfl, fun S => by kernel_rfl, by decide, by decide, fun l h => by cases h; decide⟩
theorem lm7_7 : LM "star" (.int 3) 7 (some 3) 7 := ⟨fun S => by kernel_rfl, fun S => by kernel_rfl, fun S => by kernel_rfl, fun S => by kernel_rfl, by decide, by decide, fun l h => by cases h; decide⟩
theorem lm7_8 : LM "star" (.int 3) 8 (some 3) 8 := ⟨fun S => by kernel_rfl, fun S => by kernel_rfl, fun S => by kernel_rfl, fun S => by kernel_rfl, by decide, by decide, fun l h => by cases h; decide⟩
theorem lm8_3 : LM "star" (.int 4) 3 none 3 := ⟨fun S => by kernel_rfl, fun S => by kernel_rfl, fun S => by kernel_rfl, fun S => by kernel_rfl, by decide, by decide, fun l h => by cases h⟩
theorem lm8_4 : LM "star" (.int 4) 4 none 6 := ⟨fun S => by kernel_rfl, fun S => by kernel_rfl, fun S => by kernel_rfl, fun S => by kernel_rfl, by decide, by decide, fun l h => by cases h⟩
theorem lm8_5 : LM "star" (.int 4) 5 (some 4) 7 := ⟨fun S => by kernel_rfl, fun S => by kernel_rfl, fun S => by kernel_rfl, fun S => by kernel_rfl, by decide, by decide, fun l h => by cases h; decide⟩
theorem lm8_6 : LM "star" (.int 4) 6 (some 4) 9 := ⟨fun S => by kernel_rfl, fun S => by kernel_rfl, fun S => by kernel_rfl, fun S => by kernel_rfl, by decide, by decide, fun l h => by cases h; decide⟩
theorem lm8_7 : LM "star" (.int 4) 7 (some 4) 10 := ⟨fun S => by kernel_rfl, fun S => by kernel_rfl, fun S => by kernel_rfl, fun S => by kernel_rfl, by decide, by decide, fun l h => by cases h; decide⟩
theorem lm8_8 : LM "star" (.int 4) 8 (some 4) 12 := ⟨fun S => by kernel_rfl, fun S => by kernel_rfl, fun S => by kernel_rfl, fun S => by kernel_rfl, by decide, by decide, fun l h => by cases h; decide⟩
theorem lm9_3 : LM "pairs" (.int 1) 3 (some 1) 0 := ⟨fun S => by kernel_rfl, fun S => by kernel_rfl, fun S => by kernel_rfl, fun S => by kernel_rfl, by decide, by decide, fun l h => by cases h; decide⟩
theorem lm9_4 : LM "pairs" (.int 1) 4 (some 1) 0 := ⟨fun S => by kernel_rfl, fun S => by kernel_rfl, fun S => by kernel_rfl, fun S => by kernel_rfl, by decide, by decide, fun l h => by cases h; decide⟩
theorem lm9_5 : LM "pairs" (.int 1) 5 (some 1) 0 := ⟨fun S => by kernel_rfl, fun S => by kernel_rfl, fun S => by kernel_rfl, fun S => by kernel_rfl, by decide, by decide, fun l h => by cases h; decide⟩
theorem lm9_6 : LM "pairs" (.int 1) 6 (some 1) 0 := ⟨fun S => by kernel_rfl, fun S => by kernel_rfl, fun S => by kernel_rfl, fun S => by kernel_rfl, by decide, by decide, fun l h => by cases h; decide⟩
theorem lm9_7 : LM "pairs" (.int 1) 7 (some 1) 0 := ⟨fun S => by kernel_rfl, fun S => by kernel_rfl, fun S => by kernel_rfl, fun S => by kernel_rfl, by decide, by decide, fun l h => by cases h; decide⟩
theorem lm9_8 : LM "pairs" (.int 1) 8 (some 1) 0 := ⟨fun S => by kernel_rfl, fun S => by kernel_rfl, fun S => by kernel_rfl, fun S => by kernel_rfl, by decide, by decide, fun l h => by cases h; decide⟩
theorem lm10_3 : LM "pairs" (.int 2) 3 none 3 := ⟨fun S => by kernel_rfl, fun S => by kernel_rfl, fun S => by kernel_rfl, fun S => by kernel_rfl, by decide, by decide, fun l h => by cases h⟩
theorem lm10_4 : LM "pairs" (.int 2) 4 (some 2) 3 := ⟨fun S => by kernel_rfl, fun S => by kernel_rfl, fun S => by kernel_rfl, fun S => by kernel_rfl, by decide, by decide, fun l h => by cases h; decide⟩
theorem lm10_5 : LM "pairs" (.int 2) 5 (some 2) 4 := ⟨fun S => by kernel_rfl, fun S => by kernel_rfl, fun S => by kernel_rfl, fun S => by kernel_rfl, by decide, by decide, fun l h => by cases h; decide⟩
theorem lm10_6 : LM "pairs" (.int 2) 6 (some 2) 5 := ⟨fun S => by kernel_rfl, fun S => by kernel_rfl, fun S => by kernel_rfl, fun S => by kernel_rfl, by decide, by decide, fun l h => by cases h; decide⟩
theorem lm10_7 : LM "pairs" (.int 2) 7 (some 2) 6 := ⟨fun S => by kernel_rfl, fun S => by kernel_rfl, fun S => by kernel_rfl, fun S => by kernel_rfl, by decide, by decide, fun l h => by cases h; decide⟩
theorem lm10_8 : LM "pairs" (.int 2) 8 (some 2) 7 := ⟨fun S => by kernel_rfl, fun S => by kernel_rfl, fun S => by kernel_rfl, fun S => by kernel_rfl, by decide, by decide, fun l h => by cases h; decide⟩
theorem lm11_3 : LM "pairs" (.int 3) 3 none 3 := ⟨fun S => by kernel_rfl, fun S => by kernel_rfl, fun S => by kernel_rfl, fun S => by kernel_rfl, by decide, by decide, fun l h => by cases h⟩
theorem lm11_4 : LM "pairs" (.int 3) 4 none 6 := ⟨fun S => by kernel_rfl, fun S => by kernel_rfl, fun S => by kernel_rfl, fun S => by kernel_rfl, by decide, by decide, fun l h => by cases h⟩
theorem lm11_5 : LM "pairs" (.int 3) 5 none 10 := ⟨fun S => by kernel_rfl, fun S => by kernel_rfl, fun S => by kernel_rfl, fun S => by kernel_rfl, by decide, by decide, fun l h => by cases h⟩
theorem lm11_6 : LM "pairs" (.int 3) 6 (some 3) 10 := ⟨fun S => by kernel_rfl, fun S => by kernel_rfl, fun S => by kernel_rfl, fun S => by kernel_rfl, by decide, by decide, fun l h => by cases h; decide⟩
theorem lm11_7 : LM "pairs" (.int 3) 7 (some 3) 11 := ⟨fun S => by kernel_rfl, fun S => by kernel_rfl, fun S => by kernel_rfl, fun S => by kernel_rfl, by decide, by decide, fun l h => by cases h; decide⟩
theorem lm11_8 : LM "pairs" (.int 3) 8 (some 3) 13 := ⟨fun S => by kernel_rfl, fun S => by kernel_rfl, fun S => by kernel_rfl, fun S => by kernel_rfl, by decide, by decide, fun l h => by cases h; decide⟩
theorem lm12_3 : LM "pairs" (.int 4) 3 none 3 := ⟨fun S => by kernel_rfl, fun S => by kernel_rfl, fun S => by kernel_rfl, fun S => by kernel_rfl, by decide, by decide, fun l h => by cases h⟩
theorem lm12_4 : LM "pairs" (.int 4) 4 none 6 := ⟨fun S => by kernel_rfl, fun S => by kernel_rfl, fun S => by kernel_rfl, fun S => by kernel_rfl, by decide, by decide, fun l h => by cases h⟩
theorem lm12_5 : LM "pairs" (.int 4) 5 none 10 := ⟨fun S => by kernel_rfl, fun S => by kernel_rfl, fun S => by kernel_rfl, fun S => by kernel_rfl, by decide, by decide, fun l h => by cases h⟩
theorem lm12_6 : LM "pairs" (.int 4) 6 none 15 := ⟨fun S => by kernel_rfl, fun S => by kernel_rfl, fun S => by kernel_rfl, fun S => by kernel_rfl, by decide, by decide, fun l h => by cases h⟩
theorem lm12_7 : LM "pairs" (.int 4) 7 none 21 := ⟨fun S => by kernel_rfl, fun S => by kernel_rfl, fun S => by kernel_rfl, fun S => by kernel_rfl, by decide, by decide, fun l h => by cases h⟩
theorem lm12_8 : LM "pairs" (.int 4) 8 (some 4) 21 := ⟨fun S => by kernel_rfl, fun S => by kernel_rfl, fun S => by kernel_rfl, fun S => by kernel_rfl, by decide, by decide, fun l h => by cases h; decide⟩
theorem lm13_3 : LM "row" (.int 2) 3 (some 1) 0 := ⟨fun S => by kernel_rfl, fun S => by kernel_rfl, fun S => by kernel_rfl, fun S => by kernel_rfl, by decide, by decide, fun l h => by cases h; decide⟩
theorem lm13_4 : LM "row" (.int 2) 4 (some 1) 0 := ⟨fun S => by kernel_rfl, fun S => by kernel_rfl, fun S => by kernel_rfl, fun S => by kernel_rfl, by decide, by decide, fun l h => by cases h; decide⟩
theorem lm13_5 : LM "row" (.int 2) 5 (some 1) 0 := ⟨fun S => by kernel_rfl, fun S => by kernel_rfl, fun S => by kernel_rfl, fun S => by kernel_rfl, by decide, by decide, fun l h => by cases h; decide⟩
theorem lm13_6 : LM "row" (.int 2) 6 (some 1) 0 := ⟨fun S => by kernel_rfl, fun S => by kernel_rfl, fun S => by kernel_rfl, fun S => by kernel_rfl, by decide, by decide, fun l h => by cases h; decide⟩
theorem lm13_7 : LM "row" (.int 2) 7 (some 1) 0 := ⟨fun S => by kernel_rfl, fun S => by kernel_rfl, fun S => by kernel_rfl, fun S => by kernel_rfl, by decide, by decide, fun l h => by cases h; decide⟩
theorem lm13_8 : LM "row" (.int 2) 8 (some 1) 0 := ⟨fun S => by kernel_rfl, fun S => by kernel_rfl, fun S => by kernel_rfl, fun S => by kernel_rfl, by decide, by decide, fun l h => by cases h; decide⟩
theorem lm14_3 : LM "row" (.int 3) 3 (some 2) 1 := ⟨fun S => by kernel_rfl, fun S => by kernel_rfl, fun S => by kernel_rfl, fun S => by kernel_rfl, by decide, by decide, fun l h => by cases h; decide⟩
theorem lm14_4 : LM "row" (.int 3) 4 (some 2) 2 := ⟨fun S => by kernel_rfl, fun S => by kernel_rfl, fun S => by kernel_rfl, fun S => by kernel_rfl, by decide, by decide, fun l h => by cases h; decide⟩
theorem lm14_5 : LM "row" (.int 3) 5 (some 2) 2 := ⟨fun S => by kernel_rfl, fun S => by kernel_rfl, fun S => by kernel_rfl, fun S => by kernel_rfl, by decide, by decide, fun l h => by cases h; decide⟩
theorem lm14_6 : LM "row" (.int 3) 6 (some 2) 3 := ⟨fun S => by kernel_rfl, fun S => by kernel_rfl, fun S => by kernel_rfl, fun S => by kernel_rfl, by decide, by decide, fun l h => by cases h; decide⟩
theorem lm14_7 : LM "row" (.int 3) 7 (some 2) 3 := ⟨fun S => by kernel_rfl, fun S => by kernel_rfl, fun S => by kernel_rfl, fun S => by kernel_rfl, by decide, by decide, fun l h => by cases h; decide⟩
theorem lm14_8 : LM "row" (.int 3) 8 (some 2) 4 := ⟨fun S => by kernel_rfl, fun S => by kernel_rfl, fun S => by kernel_rfl, fun S => by kernel_rfl, by decide, by decide, fun l h => by cases h; decide⟩
theorem lm15_3 : LM "row" (.int 4) 3 none 3 := ⟨fun S => by kernel_rfl, fun S => by kernel_rfl, fun S => by kernel_rfl, fun S => by kernel_rfl, by decide, by decide, fun l h => by cases h⟩
theorem lm15_4 : LM "row" (.int 4) 4 (some 3) 3 := ⟨fun S => by kernel_rfl, fun S => by kernel_rfl, fun S => by kernel_rfl, fun S => by kernel_rfl, by decide, by decide, fun l h => by cases h; decide⟩
theorem lm15_5 : LM "row" (.int 4) 5 (some 3) 4 := ⟨fun S => by kernel_rfl, fun S => by kernel_rfl, fun S => by kernel_rfl, fun S => by kernel_rfl, by decide, by decide, fun l h => by cases h; decide⟩
theorem lm15_6 : LM "row" (.int 4) 6 (some 3) 6 := ⟨fun S => by kernel_rfl, fun S => by kernel_rfl, fun S => by kernel_rfl, fun S => by kernel_rfl, by decide, by decide, fun l h => by cases h; decide⟩
theorem lm15_7 : LM "row" (.int 4) 7 (some 3) 6 := ⟨fun S => by kernel_rfl, fun S => by kernel_rfl, fun S => by kernel_rfl, fun S => by kernel_rfl, by decide, by decide, fun l h => by cases h; decide⟩
theorem lm15_8 : LM "row" (.int 4) 8 (some 3) 7 := ⟨fun S => by kernel_rfl, fun S => by kernel_rfl, fun S => by kernel_rfl, fun S => by kernel_rfl, by decide, by decide, fun l h => by cases h; decide⟩
theorem lm16_3 : LM "ring" (.int 3) 3 (some 3) 2 := ⟨fun S => by kernel_rfl, fun S => by kernel_rfl, fun S => by kernel_rfl, fun S => by kernel_rfl, by decide, by decide, fun l h => by cases h; decide⟩
theorem lm16_4 : LM "ring" (.int 3) 4 (some 3) 3 := ⟨fun S => by kernel_rfl, fun S => by kernel_rfl, fun S => by kernel_rfl, fun S => by kernel_rfl, by decide, by decide, fun l h => by cases h; decide⟩
theorem lm16_5 : LM "ring" (.int 3) 5 (some 3) 4 := ⟨fun S => by kernel_rfl, fun S => by kernel_rfl, fun S => by kernel_rfl, fun S => by kernel_rfl, by decide, by decide, fun l h => by cases h; decide⟩
theorem lm16_6 : LM "ring" (.int 3) 6 (some 3) 5 := ⟨fun S => by kernel_rfl, fun S => by kernel_rfl, fun S => by kernel_rfl, fun S => by kernel_rfl, by decide, by decide, fun l h => by cases h; decide⟩
theorem lm16_7 : LM "ring" (.int 3) 7 (some 3) 6 := ⟨fun S => by kernel_rfl, fun S => by kernel_rfl, fun S => by kernel_rfl, fun S => by kernel_rfl, by decide, by decide, fun l h => by cases h; decide⟩
theorem lm16_8 : LM "ring" (.int 3) 8 (some 3) 7 := ⟨fun S => by kernel_rfl, fun S => by kernel_rfl, fun S => by kernel_rfl, fun S => by kernel_rfl, by decide, by decide, fun l h => by cases h; decide⟩
theorem lm17_3 : LM "ring" (.int 4) 3 none 3 := ⟨fun S => by kernel_rfl, fun S => by kernel_rfl, fun S => by kernel_rfl, fun S => by kernel_rfl, by decide, by decide, fun l h => by cases h⟩
theorem lm17_4 : LM "ring" (.int 4) 4 (some 4) 4 := ⟨fun S => by kernel_rfl, fun S => by kernel_rfl, fun S => by kernel_rfl, fun S => by kernel_rfl, by decide, by decide, fun l h => by cases h; decide⟩
theorem lm17_5 : LM "ring" (.int 4) 5 (some 4) 6 := ⟨fun S => by kernel_rfl, fun S => by kernel_rfl, fun S => by kernel_rfl, fun S => by kernel_rfl, by decide, by decide, fun l h => by cases h; decide⟩
theorem lm17_6 : LM "ring" (.int 4) 6 (some 4) 7 := ⟨fun S => by kernel_rfl, fun S => by kernel_rfl, fun S => by kernel_rfl, fun S => by kernel_rfl, by decide, by decide, fun l h => by cases h; decide⟩
theorem lm17_7 : LM "ring" (.int 4) 7 (some 4) 9 := ⟨fun S => by kernel_rfl, fun S => by kernel_rfl, fun S => by kernel_rfl, fun S => by kernel_rfl, by decide, by decide, fun l h => by cases h; decide⟩
theorem lm17_8 : LM "ring" (.int 4) 8 (some 4) 10 := ⟨fun S => by kernel_rfl, fun S => by kernel_rfl, fun S => by kernel_rfl, fun S => by kernel_rfl, by decide, by decide, fun l h => by cases h; decide⟩
theorem lm18_3 : LM "core" (.int 1) 3 (some 1) 0 := ⟨fun S => by kernel_rfl, fun S => by kernel_rfl, fun S => by kernel_rfl, fun S => by kernel_rfl, by decide, by decide, fun l h => by cases h; decide⟩
theorem lm18_4 : LM "core" (.int 1) 4 (some 1) 0 := ⟨fun S => by kernel_rfl, fun S => by kernel_rfl, fun S => by kernel_rfl, fun S => by kernel_rfl, by decide, by decide, fun l h => by cases h; decide⟩
theorem lm18_5 : LM "core" (.int 1) 5 (some 1) 0 := ⟨fun S => by kernel_rfl, fun S => by kernel_rfl, fun S => by kernel_rfl, fun S => by kernel_rfl, by decide, by decide, fun l h => by cases h; decide⟩
theorem lm18_6 : LM "core" (.int 1) 6 (some 1) 0 := ⟨fun S => by kernel_rfl, fun S => by kernel_rfl, fun S => by kernel_rfl, fun S => by kernel_rfl, by decide, by decide, fun l h => by cases h; decide⟩
theorem lm18_7 : LM "core" (.int 1) 7 (some 1) 0 := ⟨fun S => by kernel_rfl, fun S => by kernel_rfl, fun S => by kernel_rfl, fun S => by kernel_rfl, by decide, by decide, fun l h => by cases h; decide⟩
theorem lm18_8 : LM "core" (.int 1) 8 (some 1) 0 := ⟨fun S => by kernel_rfl, fun S => by kernel_rfl, fun S => by kernel_rfl, fun S => by kernel_rfl, by decide, by decide, fun l h => by cases h; decide⟩
theorem lm19_3 : LM "core" (.int 2) 3 (some 3) 2 := ⟨fun S => by kernel_rfl, fun S => by kernel_rfl, fun S => by kernel_rfl, fun S => by kernel_rfl, by decide, by decide, fun l h => by cases h; decide⟩
theorem lm19_4 : LM "core" (.int 2) 4 (some 3) 3 := ⟨fun S => by kernel_rfl, fun S => by kernel_rfl, fun S => by kernel_rfl, fun S => by kernel_rfl, by decide, by decide, fun l h => by cases h; decide⟩
theorem lm19_5 : LM "core" (.int 2) 5 (some 3) 4 := ⟨fun S => by kernel_rfl, fun S => by kernel_rfl, fun S => by kernel_rfl, fun S => by kernel_rfl, by decide, by decide, fun l h => by cases h; decide⟩
theorem lm19_6 : LM "core" (.int 2) 6 (some 3) 5 := ⟨fun S => by kernel_rfl, fun S => by kernel_rfl, fun S => by kernel_rfl, fun S => by kernel_rfl, by decide, by decide, fun l h => by cases h; decide⟩
theorem lm19_7 : LM "core" (.int 2) 7 (some 3) 6 := ⟨fun S => by kernel_rfl, fun S => by kernel_rfl, fun S => by kernel_rfl, fun S => by kernel_rfl, by decide, by decide, fun l h => by cases h; decide⟩
theorem lm19_8 : LM "core" (.int 2) 8 (some 3) 7 := ⟨fun S => by kernel_rfl, fun S => by kernel_rfl, fun S => by kernel_rfl, fun S => by kernel_rfl, by decide, by decide, fun l h => by cases h; decide⟩
theorem lm20_3 : LM "core" (.int 3) 3 none 3 := ⟨fun S => by kernel_rfl, fun S => by kernel_rfl, fun S => by kernel_rfl, fun S => by kernel_rfl, by decide, by decide, fun l h => by cases h⟩
theorem lm20_4 : LM "core" (.int 3) 4 (some 6) 5 := ⟨fun S => by kernel_rfl, fun S => by kernel_rfl, fun S => by kernel_rfl, fun S => by kernel_rfl, by decide, by decide, fun l h => by cases h; decide⟩
theorem lm20_5 : LM "core" (.int 3) 5 (some 6) 7 := ⟨fun S => by kernel_rfl, fun S => by kernel_rfl, fun S => by kernel_rfl, fun S => by kernel_rfl, by decide, by decide, fun l h => by cases h; decide⟩
theorem lm20_6 : LM "core" (.int 3) 6 (some 6) 9 := ⟨fun S => by kernel_rfl, fun S => by kernel_rfl, fun S => by kernel_rfl, fun S => by kernel_rfl, by decide, by decide, fun l h => by cases h; decide⟩
theorem lm20_7 : LM "core" (.int 3) 7 (some 6) 11 := ⟨fun S => by kernel_rfl, fun S => by kernel_rfl, fun S => by kernel_rfl, fun S => by kernel_rfl, by decide, by decide, fun l h => by cases h; decide⟩
theorem lm20_8 : LM "core" (.int 3) 8 (some 6) 13 := ⟨fun S => by kernel_rfl, fun S => by kernel_rfl, fun S => by kernel_rfl, fun S => by kernel_rfl, by decide, by decide, fun l h => by cases h; decide⟩
theorem lm21_3 : LM "core" (.int 4) 3 none 3 := ⟨fun S => by kernel_rfl, fun S => by kernel_rfl, fun S => by kernel_rfl, fun S => by kernel_rfl, by decide, by decide, fun l h => by cases h⟩
theorem lm21_4 : LM "core" (.int 4) 4 none 6 := ⟨fun S => by kernel_rfl, fun S => by kernel_rfl, fun S => by kernel_rfl, fun S => by kernel_rfl, by decide, by decide, fun l h => by cases h⟩
theorem lm21_5 : LM "core" (.int 4) 5 (some 10) 9 := ⟨fun S => by kernel_rfl, fun S => by kernel_rfl, fun S => by kernel_rfl, fun S => by kernel_rfl, by decide, by decide, fun l h => by cases h; decide⟩
theorem lm21_6 : LM "core" (.int 4) 6 (some 10) 12 := ⟨fun S => by kernel_rfl, fun S => by kernel_rfl, fun S => by kernel_rfl, fun S => by kernel_rfl, by decide, by decide, fun l h => by cases h; decide⟩
theorem lm21_7 : LM "core" (.int 4) 7 (some 10) 15 := ⟨fun S => by kernel_rfl, fun S => by kernel_rfl, fun S => by kernel_rfl, fun S => by kernel_rfl, by decide, by decide, fun l h => by cases h; decide⟩
theorem lm21_8 : LM "core" (.int 4) 8 (some 10) 18 := ⟨fun S => by kernel_rfl, fun S => by kernel_rfl, fun S => by kernel_rfl, fun S => by kernel_rfl, by decide, by decide, fun l h => by cases h; decide⟩
theorem lm22_3 : LM "linked" (.int 1) 3 (some 2) 1 := ⟨fun S => by kernel_rfl, fun S => by kernel_rfl, fun S => by kernel_rfl, fun S => by kernel_rfl, by decide, by decide, fun l h => by cases h; decide⟩
theorem lm22_4 : LM "linked" (.int 1) 4 (some 3) 3 := ⟨fun S => by kernel_rfl, fun S => by kernel_rfl, fun S => by kernel_rfl, fun S => by kernel_rfl, by decide, by decide, fun l h => by cases h; decide⟩
theorem lm22_5 : LM "linked" (.int 1) 5 (some 4) 6 := ⟨fun S => by kernel_rfl, fun S => by kernel_rfl, fun S => by kernel_rfl, fun S => by kernel_rfl, by decide, by decide, fun l h => by cases h; decide⟩
theorem lm22_6 : LM "linked" (.int 1) 6 (some 5) 10 := ⟨fun S => by kernel_rfl, fun S => by kernel_rfl, fun S => by kernel_rfl, fun S => by kernel_rfl, by decide, by decide, fun l h => by cases h; decide⟩
theorem lm22_7 : LM "linked" (.int 1) 7 (some 6) 15 := ⟨fun S => by kernel_rfl, fun S => by kernel_rfl, fun S => by kernel_rfl, fun S => by kernel_rfl, by decide, by decide, fun l h => by cases h; decide⟩
theorem lm22_8 : LM "linked" (.int 1) 8 (some 7) 21 := ⟨fun S => by kernel_rfl, fun S => by kernel_rfl, fun S => by kernel_rfl, fun S => by kernel_rfl, by decide, by decide, fun l h => by cases h; decide⟩
theorem lm23_3 : LM "linked" (.int 2) 3 (some 3) 2 := ⟨fun S => by kernel_rfl, fun S => by kernel_rfl, fun S => by kernel_rfl, fun S => by kernel_rfl, by decide, by decide, fun l h => by cases h; decide⟩
theorem lm23_4 : LM "linked" (.int 2) 4 (some 4) 4 := ⟨fun S => by kernel_rfl, fun S => by kernel_rfl, fun S => by kernel_rfl, fun S => by kernel_rfl, by decide, by decide, fun l h => by cases h; decide⟩
theorem lm23_5 : LM "linked" (.int 2) 5 (some 5) 7 := ⟨fun S => by kernel_rfl, fun S => by kernel_rfl, fun S => by kernel_rfl, fun S => by kernel_rfl, by decide, by decide, fun l h => by cases h; decide⟩
theorem lm23_6 : LM "linked" (.int 2) 6 (some 6) 11 := ⟨fun S => by kernel_rfl, fun S => by kernel_rfl, fun S => by kernel_rfl, fun S => by kernel_rfl, by decide, by decide, fun l h => by cases h; decide⟩
theorem lm23_7 : LM "linked" (.int 2) 7 (some 7) 16 := ⟨fun S => by kernel_rfl, fun S => by kernel_rfl, fun S => by kernel_rfl, fun S => by kernel_rfl, by decide, by decide, fun l h => by cases h; decide⟩
theorem lm23_8 : LM "linked" (.int 2) 8 (some 8) 22 := ⟨fun S => by kernel_rfl, fun S => by kernel_rfl, fun S => by kernel_rfl, fun S => by kernel_rfl, by decide, by decide, fun l h => by cases h; decide⟩
theorem lm24_3 : LM "linked" (.int 3) 3 none 3 := ⟨fun S => by kernel_rfl, fun S => by kernel_rfl, fun S => by kernel_rfl, fun S => by kernel_rfl, by decide, by decide, fun l h => by cases h⟩
theorem lm24_4 : LM "linked" (.int 3) 4 (some 6) 5 := ⟨fun S => by kernel_rfl, fun S => by kernel_rfl, fun S => by kernel_rfl, fun S => by kernel_rfl, by decide, by decide, fun l h => by cases h; decide⟩
theorem lm24_5 : LM "linked" (.int 3) 5 (some 8) 8 := ⟨fun S => by kernel_rfl, fun S => by kernel_rfl, fun S => by kernel_rfl, fun S => by kernel_rfl, by decide, by decide, fun l h => by cases h; decide⟩
theorem lm24_6 : LM "linked" (.int 3) 6 (some 9) 12 := ⟨fun S => by kernel_rfl, fun S => by kernel_rfl, fun S => by kernel_rfl, fun S => by kernel_rfl, by decide, by decide, fun l h => by cases h; decide⟩
theorem lm24_7 : LM "linked" (.int 3) 7 (some 11) 17 := ⟨fun S => by kernel_rfl, fun S => by kernel_rfl, fun S => by kernel_rfl, fun S => by kernel_rfl, by decide, by decide, fun l h => by cases h; decide⟩
theorem lm24_8 : LM "linked" (.int 3) 8 (some 12) 23 := ⟨fun S => by kernel_rfl, fun S => by kernel_rfl, fun S => by kernel_rfl, fun S => by kernel_rfl, by decide, by decide, fun l h => by cases h; decide⟩
theorem lm25_3 : LM "linked" (.int 4) 3 none 3 := ⟨fun S => by kernel_rfl, fun S => by kernel_rfl, fun S => by kernel_rfl, fun S => by kernel_rfl, by decide, by decide, fun l h => by cases h⟩
theorem lm25_4 : LM "linked" (.int 4) 4 none 6 := ⟨fun S => by kernel_rfl, fun S => by kernel_rfl, fun S => by kernel_rfl, fun S => by kernel_rfl, by decide, by decide, fun l h => by cases h⟩
theorem lm25_5 : LM "linked" (.int 4) 5 (some 10) 9 := ⟨fun S => by kernel_rfl, fun S => by kernel_rfl, fun S => by kernel_rfl, fun S => by kernel_rfl, by decide, by decide, fun l h => by cases h; decide⟩
theorem lm25_6 : LM "linked" (.int 4) 6 (some 12) 13 := ⟨fun S => by kernel_rfl, fun S => by kernel_rfl, fun S => by kernel_rfl, fun S => by kernel_rfl, by decide, by decide, fun l h => by cases h; decide⟩
theorem lm25_7 : LM "linked" (.int 4) 7 (some 14) 18 := ⟨fun S => by kernel_rfl, fun S => by kernel_rfl, fun S => by kernel_rfl, fun S => by kernel_rfl, by decide, by decide, fun l h => by cases h; decide⟩
theorem lm25_8 : LM "linked" (.int 4) 8 (some 16) 24 := ⟨fun S => by kernel_rfl, fun S => by kernel_rfl, fun S => by kernel_rfl, fun S => by kernel_rfl, by decide, by decide, fun l h => by cases h; decide⟩
end LW
namespace LW
open PySem PySem.Spec L2 TL DL
open PyProof.Rows hiding pairD cutD
open Tk
local macro_rules | `(tactic| push_cast [$xs,*] $[$l]?) => `(tactic| simp only [↓q_Chain3, ↓q_iEnum, ↓q_sForR, ↓q_iR3, ↓q_repT, ↓q_ListR1, ↓q_TupR1, ↓q_iSeq, ↓q_zipM, ↓wzip_m, ↓q_nil0, ↓q_tIf, ↓q_star, ↓q_zip, ↓wseq_t, ↓wseq_l, ↓wzip_t, ↓wzip_l, ↓q_pfl_nx, ↓q_pfl_rt, ↓q_pfl_bk, ↓q_pfl_ct, ↓q_run_rt, ↓q_run_nx, ↓q_bk_nx, ↓q_bk_ct, ↓q_bk_bk, ↓q_bk_rt, ↓q_R_some, ↓q_R_none, ↓q_R_cond, ↓q_var0, ↓q_varS, ↓q_C, ↓q_Bin, ↓q_neg, ↓q_nil, ↓q_cons, ↓q_tup, ↓q_lst, ↓q_lstM, ↓q_Call, ↓q_And, ↓q_Or, ↓q_Not, ↓q_Test, ↓q_tAnd, ↓q_tOr, ↓q_tNot, ↓q_If, ↓q_Chain, ↓q_Skip, ↓q_Break, ↓q_Cont, ↓q_Never, ↓q_fNever, ↓q_Seq, ↓q_Expr, ↓q_Ret, ↓q_sIf, ↓q_Asg, ↓q_N, ↓q_gNil, ↓q_gCons, ↓q_gTup, ↓q_gSub, ↓q_Par, ↓q_Run, ↓q_For, ↓q_iLst, ↓q_iTup, ↓q_iR1, ↓q_iR2, ↓q_add, ↓q_addL, ↓q_addS, ↓q_I0, ↓q_mul, ↓q_fdiv, ↓q_mod, ↓q_eqI, ↓q_eqS, ↓q_eqB, ↓q_neI, ↓q_neS, ↓q_neB, ↓q_isN, ↓q_notN, ↓q_isi, ↓q_abs, ↓q_max2, ↓q_min2, ↓q_maxT, ↓q_intI, ↓q_intB, ↓q_lenS, ↓q_lenT, ↓q_lenL, ↓q_lenC, ↓q_divmod, ↓q_listL, ↓q_listT, ↓q_tupL, ↓q_tupT, ↓q_KIn, ↓q_Fld, ↓q_Meth, ↓q_MakeF, ↓q_sFld, ↓q_KIx, ↓q_inT, ↓q_inL, ↓q_inS, ↓q_ixL, ↓q_ixT, ↓q_ixC, ↓q_Lc, ↓q_Yes, ↓q_Sl, ↓q_oNone, ↓q_oSome, ↓q_slC, ↓q_slL, ↓q_slS, ↓q_MethK, ↓q_CallK, ↓q_Repr, ↓q_DispF, ↓q_DIx, ↓q_rep, ↓q_Prop, ↓q_IsC, ↓q_DGet1, ↓q_DIn, ↓q_gUnl, ↓q_DictK, ↓q_repM, ↓q_aXi, ↓q_aXs, ↓q_aXt, ↓q_aXl, ↓q_aMl, ↓q_ltX, ↓q_leX, ↓q_leX2, ↓q_SlX, ↓q_sXc, ↓q_sXl, ↓q_sXt, ↓q_sXs, ↓q_RevT, ↓q_sxI, ↓q_sxS, ↓q_lxT, ↓q_lxL, ↓q_txL, ↓q_txT, ↓q_lmT, ↓q_lmL, ↓q_Par3, ↓q_Join, ↓wp_two, ↓wp_r1, ↓wp_r2, ↓wp_someB, ↓wp_strE, ↓wp_FldO, ↓wp_someL, ↓wp_last, ↓wp_someX, ↓wp_three, ↓q_p40, ↓qi_t, ↓qi_f, ↓wb_bl, ↓wi_int, ↓wstr_str, ↓wtup_tup, ↓wlst_lst, ↓wref_ref, isn_int, isn_non, isn_str, isn_tup, isn_lst, isn_ref, isn_bl, isi_str_str, isi_int_int, isi_int_bl, isi_bool_int, isi_bool_bl, isi_int_non, isi_int_str, isi_tuple_tup, str_eq, String.reduceEq, List.any_cons, List.any_nil, List.all_cons, List.all_nil, Bool.and_true, Bool.or_false, Bool.true_and, Bool.false_and, Bool.and_false, Bool.false_or, Bool.or_true, Bool.true_or, Bool.not_not, flat_str, flat_int, flat_non, eqF_str, List.map_cons, List.map_nil, List.length_cons, List.length_nil, List.length_map, List.cons_append, List.nil_append, List.append_nil, List.set_cons_zero, List.set_cons_succ, List.replicate_succ, List.replicate_zero, Nat.reduceSub, Nat.reduceAdd, Nat.reduceLeDiff, Nat.zero_add, Nat.sub_self, Bool.not_eq_true', Bool.not_true, Bool.not_false, if_true, if_false, reduceIte, Bool.false_eq_true, true_and, and_true, decide_true, decide_false, Bool.true_eq_false, eq_self, $xs,*] $[$l]?)
theorem lmb0 {n : Int} (h9 : 9 ≤ n) (hn : n ≤ 2000000000) : LM "odd ring" (.non) n (some (3)) (n * n / 4) := by
  have f0 : (n < 0) = False := eq_false (by omega)
  have g0 : (n ≤ 0) = False := eq_false (by omega)
  have f1 : (n < 1) = False := eq_false (by omega)
  have g1 : (n ≤ 1) = False := eq_false (by omega)
  have f2 : (n < 2) = False := eq_false (by omega)
  have g2 : (n ≤ 2) = False := eq_false (by omega)
  have f3 : (n < 3) = False := eq_false (by omega)
  have g3 : (n ≤ 3) = False := eq_false (by omega)
  have f4 : (n < 4) = False := eq_false (by omega)
  have g4 : (n ≤ 4) = False := eq_false (by omega)
  have f5 : (n < 5) = False := eq_false (by omega)
  have g5 : (n ≤ 5) = False := eq_false (by omega)
  have f6 : (n < 6) = False := eq_false (by omega)
  have g6 : (n ≤ 6) = False := eq_false (by omega)
  have f7 : (n < 7) = False := eq_false (by omega)
  have g7 : (n ≤ 7) = False := eq_false (by omega)
  have f8 : (n < 8) = False := eq_false (by omega)
  have g8 : (n ≤ 8) = False := eq_false (by omega)
  have e0 : (n = 0) = False := eq_false (by omega)
  have h21 : ((2 : Int) = 1) = False := eq_false (by decide)
  have h31 : ((3 : Int) = 1) = False := eq_false (by decide)
  have h41 : ((4 : Int) = 1) = False := eq_false (by decide)
  have fw : ∀ S, w__law_fewest [.str "odd ring", .non] S = some (.int 3, S) := fun S => by kernel_rfl
  have fp : ∀ S, w_fewest_people [.str "odd ring", .non] S = some (.int 3, S) := fun S => by kernel_rfl
  have rz : ∀ S, w_ring_size [.str "odd ring", .non] S = some (.int 3, S) := fun S => by kernel_rfl
  have a : ∀ S, w_least_of [.str "odd ring", .non, .int n] S = some (.int (3), S) := by
    intro S
    refine Qr_iff.mpr ?_ |> R.eq
    unfold w_least_of d_least_of b_least_of
    push_cast [in0_0, in0_1, in0_2, in0_3, in0_4, in0_5, fw, fp, h21, h31, h41, rz, w_most_groups, d_most_groups, b_most_groups, w_most_rings, d_most_rings, b_most_rings, w_most_pairs, d_most_pairs, b_most_pairs, w_is_all_tied, d_is_all_tied, b_is_all_tied, w_pairs_of, d_pairs_of, b_pairs_of, w__law_two, d__law_two, b__law_two, f0, g0, f1, g1, f2, g2, f3, g3, f4, g4, f5, g5, f6, g6, f7, g7, f8, g8, e0, Int.reduceMul, Int.reduceSub, Int.reduceAdd]
    all_goals ((repeat' apply And.intro) <;> first | rfl | decide | exact lg_lit (by omega) (by omega) | exact small_two (by omega) (by omega) | (refine small_lit ?_ ?_ <;> omega) | trace_state)
  have b : ∀ S, w__law_least [.str "odd ring", .non, .int n] S = some (.int (3), S) := by
    intro S
    refine Qr_iff.mpr ?_ |> R.eq
    unfold w__law_least d__law_least b__law_least
    push_cast [in0_0, in0_1, in0_2, in0_3, in0_4, in0_5, fw, fp, h21, h31, h41, rz, w_most_groups, d_most_groups, b_most_groups, w_most_rings, d_most_rings, b_most_rings, w_most_pairs, d_most_pairs, b_most_pairs, w_is_all_tied, d_is_all_tied, b_is_all_tied, w_pairs_of, d_pairs_of, b_pairs_of, w__law_two, d__law_two, b__law_two, f0, g0, f1, g1, f2, g2, f3, g3, f4, g4, f5, g5, f6, g6, f7, g7, f8, g8, e0, Int.reduceMul, Int.reduceSub, Int.reduceAdd]
    all_goals ((repeat' apply And.intro) <;> first | rfl | decide | exact lg_lit (by omega) (by omega) | exact small_two (by omega) (by omega) | (refine small_lit ?_ ?_ <;> omega) | trace_state)
  have c : ∀ S, w_most_of [.str "odd ring", .non, .int n] S = some (.int (n * n / 4), S) := by
    intro S
    refine Qr_iff.mpr ?_ |> R.eq
    unfold w_most_of d_most_of b_most_of
    push_cast [in0_0, in0_1, in0_2, in0_3, in0_4, in0_5, fw, fp, h21, h31, h41, rz, w_most_groups, d_most_groups, b_most_groups, w_most_rings, d_most_rings, b_most_rings, w_most_pairs, d_most_pairs, b_most_pairs, w_is_all_tied, d_is_all_tied, b_is_all_tied, w_pairs_of, d_pairs_of, b_pairs_of, w__law_two, d__law_two, b__law_two, f0, g0, f1, g1, f2, g2, f3, g3, f4, g4, f5, g5, f6, g6, f7, g7, f8, g8, e0, Int.reduceMul, Int.reduceSub, Int.reduceAdd]
    all_goals ((repeat' apply And.intro) <;> first | rfl | decide | exact lg_lit (by omega) (by omega) | exact small_two (by omega) (by omega) | (refine small_lit ?_ ?_ <;> omega) | trace_state)
  have d : ∀ S, w__law_most [.str "odd ring", .non, .int n] S = some (.int (n * n / 4), S) := by
    intro S
    refine Qr_iff.mpr ?_ |> R.eq
    unfold w__law_most d__law_most b__law_most
    push_cast [in0_0, in0_1, in0_2, in0_3, in0_4, in0_5, fw, fp, h21, h31, h41, rz, w_most_groups, d_most_groups, b_most_groups, w_most_rings, d_most_rings, b_most_rings, w_most_pairs, d_most_pairs, b_most_pairs, w_is_all_tied, d_is_all_tied, b_is_all_tied, w_pairs_of, d_pairs_of, b_pairs_of, w__law_two, d__law_two, b__law_two, f0, g0, f1, g1, f2, g2, f3, g3, f4, g4, f5, g5, f6, g6, f7, g7, f8, g8, e0, Int.reduceMul, Int.reduceSub, Int.reduceAdd]
    all_goals ((repeat' apply And.intro) <;> first | rfl | decide | exact lg_lit (by omega) (by omega) | exact small_two (by omega) (by omega) | (refine small_lit ?_ ?_ <;> omega) | trace_state)
  have m : 0 ≤ n * n / 4 ∧ n * n / 4 ≤ 10000000000000000000 := by
    obtain ⟨p0, p1⟩ := mul_bd (a := n) (b := n) (A := 2000000000) (B := 2000000000) (by omega) hn (by omega) hn
    generalize n * n = X at p0 p1
    omega
  exact ⟨a, b, c, d, m.1, m.2, fun l h => by cases h; omega⟩
theorem lmb1 {n : Int} (h9 : 9 ≤ n) (hn : n ≤ 2000000000) : LM "even ring" (.non) n (some (4)) (3 * (n - 1) / 2) := by
  have f0 : (n < 0) = False := eq_false (by omega)
  have g0 : (n ≤ 0) = False := eq_false (by omega)
  have f1 : (n < 1) = False := eq_false (by omega)
  have g1 : (n ≤ 1) = False := eq_false (by omega)
  have f2 : (n < 2) = False := eq_false (by omega)
  have g2 : (n ≤ 2) = False := eq_false (by omega)
  have f3 : (n < 3) = False := eq_false (by omega)
  have g3 : (n ≤ 3) = False := eq_false (by omega)
  have f4 : (n < 4) = False := eq_false (by omega)
  have g4 : (n ≤ 4) = False := eq_false (by omega)
  have f5 : (n < 5) = False := eq_false (by omega)
  have g5 : (n ≤ 5) = False := eq_false (by omega)
  have f6 : (n < 6) = False := eq_false (by omega)
  have g6 : (n ≤ 6) = False := eq_false (by omega)
  have f7 : (n < 7) = False := eq_false (by omega)
  have g7 : (n ≤ 7) = False := eq_false (by omega)
  have f8 : (n < 8) = False := eq_false (by omega)
  have g8 : (n ≤ 8) = False := eq_false (by omega)
  have e0 : (n = 0) = False := eq_false (by omega)
  have h21 : ((2 : Int) = 1) = False := eq_false (by decide)
  have h31 : ((3 : Int) = 1) = False := eq_false (by decide)
  have h41 : ((4 : Int) = 1) = False := eq_false (by decide)
  have fw : ∀ S, w__law_fewest [.str "even ring", .non] S = some (.int 4, S) := fun S => by kernel_rfl
  have fp : ∀ S, w_fewest_people [.str "even ring", .non] S = some (.int 4, S) := fun S => by kernel_rfl
  have rz : ∀ S, w_ring_size [.str "even ring", .non] S = some (.int 4, S) := fun S => by kernel_rfl
  have a : ∀ S, w_least_of [.str "even ring", .non, .int n] S = some (.int (4), S) := by
    intro S
    refine Qr_iff.mpr ?_ |> R.eq
    unfold w_least_of d_least_of b_least_of
    push_cast [in1_0, in1_1, in1_2, in1_3, in1_4, in1_5, fw, fp, h21, h31, h41, rz, w_most_groups, d_most_groups, b_most_groups, w_most_rings, d_most_rings, b_most_rings, w_most_pairs, d_most_pairs, b_most_pairs, w_is_all_tied, d_is_all_tied, b_is_all_tied, w_pairs_of, d_pairs_of, b_pairs_of, w__law_two, d__law_two, b__law_two, f0, g0, f1, g1, f2, g2, f3, g3, f4, g4, f5, g5, f6, g6, f7, g7, f8, g8, e0, Int.reduceMul, Int.reduceSub, Int.reduceAdd]
    all_goals ((repeat' apply And.intro) <;> first | rfl | decide | exact lg_lit (by omega) (by omega) | exact small_two (by omega) (by omega) | (refine small_lit ?_ ?_ <;> omega) | trace_state)
  have b : ∀ S, w__law_least [.str "even ring", .non, .int n] S = some (.int (4), S) := by
    intro S
    refine Qr_iff.mpr ?_ |> R.eq
    unfold w__law_least d__law_least b__law_least
    push_cast [in1_0, in1_1, in1_2, in1_3, in1_4, in1_5, fw, fp, h21, h31, h41, rz, w_most_groups, d_most_groups, b_most_groups, w_most_rings, d_most_rings, b_most_rings, w_most_pairs, d_most_pairs, b_most_pairs, w_is_all_tied, d_is_all_tied, b_is_all_tied, w_pairs_of, d_pairs_of, b_pairs_of, w__law_two, d__law_two, b__law_two, f0, g0, f1, g1, f2, g2, f3, g3, f4, g4, f5, g5, f6, g6, f7, g7, f8, g8, e0, Int.reduceMul, Int.reduceSub, Int.reduceAdd]
    all_goals ((repeat' apply And.intro) <;> first | rfl | decide | exact lg_lit (by omega) (by omega) | exact small_two (by omega) (by omega) | (refine small_lit ?_ ?_ <;> omega) | trace_state)
  have c : ∀ S, w_most_of [.str "even ring", .non, .int n] S = some (.int (3 * (n - 1) / 2), S) := by
    intro S
    refine Qr_iff.mpr ?_ |> R.eq
    unfold w_most_of d_most_of b_most_of
    push_cast [in1_0, in1_1, in1_2, in1_3, in1_4, in1_5, fw, fp, h21, h31, h41, rz, w_most_groups, d_most_groups, b_most_groups, w_most_rings, d_most_rings, b_most_rings, w_most_pairs, d_most_pairs, b_most_pairs, w_is_all_tied, d_is_all_tied, b_is_all_tied, w_pairs_of, d_pairs_of, b_pairs_of, w__law_two, d__law_two, b__law_two, f0, g0, f1, g1, f2, g2, f3, g3, f4, g4, f5, g5, f6, g6, f7, g7, f8, g8, e0, Int.reduceMul, Int.reduceSub, Int.reduceAdd]
    all_goals ((repeat' apply And.intro) <;> first | rfl | decide | exact lg_lit (by omega) (by omega) | exact small_two (by omega) (by omega) | (refine small_lit ?_ ?_ <;> omega) | trace_state)
  have d : ∀ S, w__law_most [.str "even ring", .non, .int n] S = some (.int (3 * (n - 1) / 2), S) := by
    intro S
    refine Qr_iff.mpr ?_ |> R.eq
    unfold w__law_most d__law_most b__law_most
    push_cast [in1_0, in1_1, in1_2, in1_3, in1_4, in1_5, fw, fp, h21, h31, h41, rz, w_most_groups, d_most_groups, b_most_groups, w_most_rings, d_most_rings, b_most_rings, w_most_pairs, d_most_pairs, b_most_pairs, w_is_all_tied, d_is_all_tied, b_is_all_tied, w_pairs_of, d_pairs_of, b_pairs_of, w__law_two, d__law_two, b__law_two, f0, g0, f1, g1, f2, g2, f3, g3, f4, g4, f5, g5, f6, g6, f7, g7, f8, g8, e0, Int.reduceMul, Int.reduceSub, Int.reduceAdd]
    all_goals ((repeat' apply And.intro) <;> first | rfl | decide | exact lg_lit (by omega) (by omega) | exact small_two (by omega) (by omega) | (refine small_lit ?_ ?_ <;> omega) | trace_state)
  have m : 0 ≤ 3 * (n - 1) / 2 ∧ 3 * (n - 1) / 2 ≤ 10000000000000000000 := by
    omega
  exact ⟨a, b, c, d, m.1, m.2, fun l h => by cases h; omega⟩
theorem lmb2 {n : Int} (h9 : 9 ≤ n) (hn : n ≤ 2000000000) : LM "crowd" (.int 2) n (some (1)) (n * (n - 1) / 2 - n % 1 * ((n / 1 + 1) * (n / 1 + 1 - 1) / 2) - (1 - n % 1) * (n / 1 * (n / 1 - 1) / 2)) := by
  have f0 : (n < 0) = False := eq_false (by omega)
  have g0 : (n ≤ 0) = False := eq_false (by omega)
  have f1 : (n < 1) = False := eq_false (by omega)
  have g1 : (n ≤ 1) = False := eq_false (by omega)
  have f2 : (n < 2) = False := eq_false (by omega)
  have g2 : (n ≤ 2) = False := eq_false (by omega)
  have f3 : (n < 3) = False := eq_false (by omega)
  have g3 : (n ≤ 3) = False := eq_false (by omega)
  have f4 : (n < 4) = False := eq_false (by omega)
  have g4 : (n ≤ 4) = False := eq_false (by omega)
  have f5 : (n < 5) = False := eq_false (by omega)
  have g5 : (n ≤ 5) = False := eq_false (by omega)
  have f6 : (n < 6) = False := eq_false (by omega)
  have g6 : (n ≤ 6) = False := eq_false (by omega)
  have f7 : (n < 7) = False := eq_false (by omega)
  have g7 : (n ≤ 7) = False := eq_false (by omega)
  have f8 : (n < 8) = False := eq_false (by omega)
  have g8 : (n ≤ 8) = False := eq_false (by omega)
  have e0 : (n = 0) = False := eq_false (by omega)
  have h21 : ((2 : Int) = 1) = False := eq_false (by decide)
  have h31 : ((3 : Int) = 1) = False := eq_false (by decide)
  have h41 : ((4 : Int) = 1) = False := eq_false (by decide)
  have fw : ∀ S, w__law_fewest [.str "crowd", .int 2] S = some (.int 2, S) := fun S => by kernel_rfl
  have fp : ∀ S, w_fewest_people [.str "crowd", .int 2] S = some (.int 2, S) := fun S => by kernel_rfl
  have a : ∀ S, w_least_of [.str "crowd", .int 2, .int n] S = some (.int (1), S) := by
    intro S
    refine Qr_iff.mpr ?_ |> R.eq
    unfold w_least_of d_least_of b_least_of
    push_cast [in2_0, in2_1, in2_2, in2_3, in2_4, in2_5, fw, fp, h21, h31, h41, w_most_groups, d_most_groups, b_most_groups, w_most_rings, d_most_rings, b_most_rings, w_most_pairs, d_most_pairs, b_most_pairs, w_is_all_tied, d_is_all_tied, b_is_all_tied, w_pairs_of, d_pairs_of, b_pairs_of, w__law_two, d__law_two, b__law_two, f0, g0, f1, g1, f2, g2, f3, g3, f4, g4, f5, g5, f6, g6, f7, g7, f8, g8, e0, Int.reduceMul, Int.reduceSub, Int.reduceAdd]
    all_goals ((repeat' apply And.intro) <;> first | rfl | decide | exact lg_lit (by omega) (by omega) | exact small_two (by omega) (by omega) | (refine small_lit ?_ ?_ <;> omega) | trace_state)
  have b : ∀ S, w__law_least [.str "crowd", .int 2, .int n] S = some (.int (1), S) := by
    intro S
    refine Qr_iff.mpr ?_ |> R.eq
    unfold w__law_least d__law_least b__law_least
    push_cast [in2_0, in2_1, in2_2, in2_3, in2_4, in2_5, fw, fp, h21, h31, h41, w_most_groups, d_most_groups, b_most_groups, w_most_rings, d_most_rings, b_most_rings, w_most_pairs, d_most_pairs, b_most_pairs, w_is_all_tied, d_is_all_tied, b_is_all_tied, w_pairs_of, d_pairs_of, b_pairs_of, w__law_two, d__law_two, b__law_two, f0, g0, f1, g1, f2, g2, f3, g3, f4, g4, f5, g5, f6, g6, f7, g7, f8, g8, e0, Int.reduceMul, Int.reduceSub, Int.reduceAdd]
    all_goals ((repeat' apply And.intro) <;> first | rfl | decide | exact lg_lit (by omega) (by omega) | exact small_two (by omega) (by omega) | (refine small_lit ?_ ?_ <;> omega) | trace_state)
  have c : ∀ S, w_most_of [.str "crowd", .int 2, .int n] S = some (.int (n * (n - 1) / 2 - n % 1 * ((n / 1 + 1) * (n / 1 + 1 - 1) / 2) - (1 - n % 1) * (n / 1 * (n / 1 - 1) / 2)), S) := by
    intro S
    refine Qr_iff.mpr ?_ |> R.eq
    unfold w_most_of d_most_of b_most_of
    push_cast [in2_0, in2_1, in2_2, in2_3, in2_4, in2_5, fw, fp, h21, h31, h41, w_most_groups, d_most_groups, b_most_groups, w_most_rings, d_most_rings, b_most_rings, w_most_pairs, d_most_pairs, b_most_pairs, w_is_all_tied, d_is_all_tied, b_is_all_tied, w_pairs_of, d_pairs_of, b_pairs_of, w__law_two, d__law_two, b__law_two, f0, g0, f1, g1, f2, g2, f3, g3, f4, g4, f5, g5, f6, g6, f7, g7, f8, g8, e0, Int.reduceMul, Int.reduceSub, Int.reduceAdd]
    all_goals ((repeat' apply And.intro) <;> first | rfl | decide | exact lg_lit (by omega) (by omega) | exact small_two (by omega) (by omega) | (refine small_lit ?_ ?_ <;> omega) | trace_state)
  have d : ∀ S, w__law_most [.str "crowd", .int 2, .int n] S = some (.int (n * (n - 1) / 2 - n % 1 * ((n / 1 + 1) * (n / 1 + 1 - 1) / 2) - (1 - n % 1) * (n / 1 * (n / 1 - 1) / 2)), S) := by
    intro S
    refine Qr_iff.mpr ?_ |> R.eq
    unfold w__law_most d__law_most b__law_most
    push_cast [in2_0, in2_1, in2_2, in2_3, in2_4, in2_5, fw, fp, h21, h31, h41, w_most_groups, d_most_groups, b_most_groups, w_most_rings, d_most_rings, b_most_rings, w_most_pairs, d_most_pairs, b_most_pairs, w_is_all_tied, d_is_all_tied, b_is_all_tied, w_pairs_of, d_pairs_of, b_pairs_of, w__law_two, d__law_two, b__law_two, f0, g0, f1, g1, f2, g2, f3, g3, f4, g4, f5, g5, f6, g6, f7, g7, f8, g8, e0, Int.reduceMul, Int.reduceSub, Int.reduceAdd]
    all_goals ((repeat' apply And.intro) <;> first | rfl | decide | exact lg_lit (by omega) (by omega) | exact small_two (by omega) (by omega) | (refine small_lit ?_ ?_ <;> omega) | trace_state)
  have m : 0 ≤ n * (n - 1) / 2 - n % 1 * ((n / 1 + 1) * (n / 1 + 1 - 1) / 2) - (1 - n % 1) * (n / 1 * (n / 1 - 1) / 2) ∧ n * (n - 1) / 2 - n % 1 * ((n / 1 + 1) * (n / 1 + 1 - 1) / 2) - (1 - n % 1) * (n / 1 * (n / 1 - 1) / 2) ≤ 10000000000000000000 := by
    obtain ⟨p0, p1⟩ := mul_bd (a := n) (b := n - 1) (A := 2000000000) (B := 2000000000) (by omega) hn (by omega) (by omega)
    rw [Int.ediv_one, Int.emod_one]
    generalize n * (n - 1) = X at p0 p1
    omega
  exact ⟨a, b, c, d, m.1, m.2, fun l h => by cases h; omega⟩
theorem lmb3 {n : Int} (h9 : 9 ≤ n) (hn : n ≤ 2000000000) : LM "crowd" (.int 3) n (some (3)) (n * (n - 1) / 2 - n % 2 * ((n / 2 + 1) * (n / 2 + 1 - 1) / 2) - (2 - n % 2) * (n / 2 * (n / 2 - 1) / 2)) := by
  have f0 : (n < 0) = False := eq_false (by omega)
  have g0 : (n ≤ 0) = False := eq_false (by omega)
  have f1 : (n < 1) = False := eq_false (by omega)
  have g1 : (n ≤ 1) = False := eq_false (by omega)
  have f2 : (n < 2) = False := eq_false (by omega)
  have g2 : (n ≤ 2) = False := eq_false (by omega)
  have f3 : (n < 3) = False := eq_false (by omega)
  have g3 : (n ≤ 3) = False := eq_false (by omega)
  have f4 : (n < 4) = False := eq_false (by omega)
  have g4 : (n ≤ 4) = False := eq_false (by omega)
  have f5 : (n < 5) = False := eq_false (by omega)
  have g5 : (n ≤ 5) = False := eq_false (by omega)
  have f6 : (n < 6) = False := eq_false (by omega)
  have g6 : (n ≤ 6) = False := eq_false (by omega)
  have f7 : (n < 7) = False := eq_false (by omega)
  have g7 : (n ≤ 7) = False := eq_false (by omega)
  have f8 : (n < 8) = False := eq_false (by omega)
  have g8 : (n ≤ 8) = False := eq_false (by omega)
  have e0 : (n = 0) = False := eq_false (by omega)
  have h21 : ((2 : Int) = 1) = False := eq_false (by decide)
  have h31 : ((3 : Int) = 1) = False := eq_false (by decide)
  have h41 : ((4 : Int) = 1) = False := eq_false (by decide)
  have fw : ∀ S, w__law_fewest [.str "crowd", .int 3] S = some (.int 3, S) := fun S => by kernel_rfl
  have fp : ∀ S, w_fewest_people [.str "crowd", .int 3] S = some (.int 3, S) := fun S => by kernel_rfl
  have a : ∀ S, w_least_of [.str "crowd", .int 3, .int n] S = some (.int (3), S) := by
    intro S
    refine Qr_iff.mpr ?_ |> R.eq
    unfold w_least_of d_least_of b_least_of
    push_cast [in2_0, in2_1, in2_2, in2_3, in2_4, in2_5, fw, fp, h21, h31, h41, w_most_groups, d_most_groups, b_most_groups, w_most_rings, d_most_rings, b_most_rings, w_most_pairs, d_most_pairs, b_most_pairs, w_is_all_tied, d_is_all_tied, b_is_all_tied, w_pairs_of, d_pairs_of, b_pairs_of, w__law_two, d__law_two, b__law_two, f0, g0, f1, g1, f2, g2, f3, g3, f4, g4, f5, g5, f6, g6, f7, g7, f8, g8, e0, Int.reduceMul, Int.reduceSub, Int.reduceAdd]
    all_goals ((repeat' apply And.intro) <;> first | rfl | decide | exact lg_lit (by omega) (by omega) | exact small_two (by omega) (by omega) | (refine small_lit ?_ ?_ <;> omega) | trace_state)
  have b : ∀ S, w__law_least [.str "crowd", .int 3, .int n] S = some (.int (3), S) := by
    intro S
    refine Qr_iff.mpr ?_ |> R.eq
    unfold w__law_least d__law_least b__law_least
    push_cast [in2_0, in2_1, in2_2, in2_3, in2_4, in2_5, fw, fp, h21, h31, h41, w_most_groups, d_most_groups, b_most_groups, w_most_rings, d_most_rings, b_most_rings, w_most_pairs, d_most_pairs, b_most_pairs, w_is_all_tied, d_is_all_tied, b_is_all_tied, w_pairs_of, d_pairs_of, b_pairs_of, w__law_two, d__law_two, b__law_two, f0, g0, f1, g1, f2, g2, f3, g3, f4, g4, f5, g5, f6, g6, f7, g7, f8, g8, e0, Int.reduceMul, Int.reduceSub, Int.reduceAdd]
    all_goals ((repeat' apply And.intro) <;> first | rfl | decide | exact lg_lit (by omega) (by omega) | exact small_two (by omega) (by omega) | (refine small_lit ?_ ?_ <;> omega) | trace_state)
  have c : ∀ S, w_most_of [.str "crowd", .int 3, .int n] S = some (.int (n * (n - 1) / 2 - n % 2 * ((n / 2 + 1) * (n / 2 + 1 - 1) / 2) - (2 - n % 2) * (n / 2 * (n / 2 - 1) / 2)), S) := by
    intro S
    refine Qr_iff.mpr ?_ |> R.eq
    unfold w_most_of d_most_of b_most_of
    push_cast [in2_0, in2_1, in2_2, in2_3, in2_4, in2_5, fw, fp, h21, h31, h41, w_most_groups, d_most_groups, b_most_groups, w_most_rings, d_most_rings, b_most_rings, w_most_pairs, d_most_pairs, b_most_pairs, w_is_all_tied, d_is_all_tied, b_is_all_tied, w_pairs_of, d_pairs_of, b_pairs_of, w__law_two, d__law_two, b__law_two, f0, g0, f1, g1, f2, g2, f3, g3, f4, g4, f5, g5, f6, g6, f7, g7, f8, g8, e0, Int.reduceMul, Int.reduceSub, Int.reduceAdd]
    all_goals ((repeat' apply And.intro) <;> first | rfl | decide | exact lg_lit (by omega) (by omega) | exact small_two (by omega) (by omega) | (refine small_lit ?_ ?_ <;> omega) | trace_state)
  have d : ∀ S, w__law_most [.str "crowd", .int 3, .int n] S = some (.int (n * (n - 1) / 2 - n % 2 * ((n / 2 + 1) * (n / 2 + 1 - 1) / 2) - (2 - n % 2) * (n / 2 * (n / 2 - 1) / 2)), S) := by
    intro S
    refine Qr_iff.mpr ?_ |> R.eq
    unfold w__law_most d__law_most b__law_most
    push_cast [in2_0, in2_1, in2_2, in2_3, in2_4, in2_5, fw, fp, h21, h31, h41, w_most_groups, d_most_groups, b_most_groups, w_most_rings, d_most_rings, b_most_rings, w_most_pairs, d_most_pairs, b_most_pairs, w_is_all_tied, d_is_all_tied, b_is_all_tied, w_pairs_of, d_pairs_of, b_pairs_of, w__law_two, d__law_two, b__law_two, f0, g0, f1, g1, f2, g2, f3, g3, f4, g4, f5, g5, f6, g6, f7, g7, f8, g8, e0, Int.reduceMul, Int.reduceSub, Int.reduceAdd]
    all_goals ((repeat' apply And.intro) <;> first | rfl | decide | exact lg_lit (by omega) (by omega) | exact small_two (by omega) (by omega) | (refine small_lit ?_ ?_ <;> omega) | trace_state)
  have m : 0 ≤ n * (n - 1) / 2 - n % 2 * ((n / 2 + 1) * (n / 2 + 1 - 1) / 2) - (2 - n % 2) * (n / 2 * (n / 2 - 1) / 2) ∧ n * (n - 1) / 2 - n % 2 * ((n / 2 + 1) * (n / 2 + 1 - 1) / 2) - (2 - n % 2) * (n / 2 * (n / 2 - 1) / 2) ≤ 10000000000000000000 := by
    obtain ⟨q, hq⟩ : ∃ q, n / 2 = q := ⟨_, rfl⟩
    obtain ⟨r, hr⟩ : ∃ r, n % 2 = r := ⟨_, rfl⟩
    rw [hq, hr]
    have t1 := tw n
    have t2 := tw (q + 1)
    have t3 := tw q
    obtain ⟨s0, s1⟩ := mul_bd (a := q) (b := q) (A := 1000000000) (B := 1000000000) (by omega) (by omega) (by omega) (by omega)
    have x2 : (q + 1) * (q + 1 - 1) = q * q + q := by grind
    have x3 : q * (q - 1) = q * q - q := by grind
    rw [x2] at t2 ⊢
    rw [x3] at t3 ⊢
    have hr2 : r = 0 ∨ r = 1 := by omega
    rcases hr2 with rfl | rfl
    · have x1 : n * (n - 1) = 4 * (q * q) + -2 * q + 0 := by
        have : n = 2 * q + 0 := by omega
        subst this
        grind
      rw [x1] at t1 ⊢
      generalize q * q = s at *
      omega
    · have x1 : n * (n - 1) = 4 * (q * q) + 2 * q + 0 := by
        have : n = 2 * q + 1 := by omega
        subst this
        grind
      rw [x1] at t1 ⊢
      generalize q * q = s at *
      omega
  exact ⟨a, b, c, d, m.1, m.2, fun l h => by cases h; omega⟩
theorem lmb4 {n : Int} (h9 : 9 ≤ n) (hn : n ≤ 2000000000) : LM "crowd" (.int 4) n (some (6)) (n * (n - 1) / 2 - n % 3 * ((n / 3 + 1) * (n / 3 + 1 - 1) / 2) - (3 - n % 3) * (n / 3 * (n / 3 - 1) / 2)) := by
  have f0 : (n < 0) = False := eq_false (by omega)
  have g0 : (n ≤ 0) = False := eq_false (by omega)
  have f1 : (n < 1) = False := eq_false (by omega)
  have g1 : (n ≤ 1) = False := eq_false (by omega)
  have f2 : (n < 2) = False := eq_false (by omega)
  have g2 : (n ≤ 2) = False := eq_false (by omega)
  have f3 : (n < 3) = False := eq_false (by omega)
  have g3 : (n ≤ 3) = False := eq_false (by omega)
  have f4 : (n < 4) = False := eq_false (by omega)
  have g4 : (n ≤ 4) = False := eq_false (by omega)
  have f5 : (n < 5) = False := eq_false (by omega)
  have g5 : (n ≤ 5) = False := eq_false (by omega)
  have f6 : (n < 6) = False := eq_false (by omega)
  have g6 : (n ≤ 6) = False := eq_false (by omega)
  have f7 : (n < 7) = False := eq_false (by omega)
  have g7 : (n ≤ 7) = False := eq_false (by omega)
  have f8 : (n < 8) = False := eq_false (by omega)
  have g8 : (n ≤ 8) = False := eq_false (by omega)
  have e0 : (n = 0) = False := eq_false (by omega)
  have h21 : ((2 : Int) = 1) = False := eq_false (by decide)
  have h31 : ((3 : Int) = 1) = False := eq_false (by decide)
  have h41 : ((4 : Int) = 1) = False := eq_false (by decide)
  have fw : ∀ S, w__law_fewest [.str "crowd", .int 4] S = some (.int 4, S) := fun S => by kernel_rfl
  have fp : ∀ S, w_fewest_people [.str "crowd", .int 4] S = some (.int 4, S) := fun S => by kernel_rfl
  have a : ∀ S, w_least_of [.str "crowd", .int 4, .int n] S = some (.int (6), S) := by
    intro S
    refine Qr_iff.mpr ?_ |> R.eq
    unfold w_least_of d_least_of b_least_of
    push_cast [in2_0, in2_1, in2_2, in2_3, in2_4, in2_5, fw, fp, h21, h31, h41, w_most_groups, d_most_groups, b_most_groups, w_most_rings, d_most_rings, b_most_rings, w_most_pairs, d_most_pairs, b_most_pairs, w_is_all_tied, d_is_all_tied, b_is_all_tied, w_pairs_of, d_pairs_of, b_pairs_of, w__law_two, d__law_two, b__law_two, f0, g0, f1, g1, f2, g2, f3, g3, f4, g4, f5, g5, f6, g6, f7, g7, f8, g8, e0, Int.reduceMul, Int.reduceSub, Int.reduceAdd]
    all_goals ((repeat' apply And.intro) <;> first | rfl | decide | exact lg_lit (by omega) (by omega) | exact small_two (by omega) (by omega) | (refine small_lit ?_ ?_ <;> omega) | trace_state)
  have b : ∀ S, w__law_least [.str "crowd", .int 4, .int n] S = some (.int (6), S) := by
    intro S
    refine Qr_iff.mpr ?_ |> R.eq
    unfold w__law_least d__law_least b__law_least
    push_cast [in2_0, in2_1, in2_2, in2_3, in2_4, in2_5, fw, fp, h21, h31, h41, w_most_groups, d_most_groups, b_most_groups, w_most_rings, d_most_rings, b_most_rings, w_most_pairs, d_most_pairs, b_most_pairs, w_is_all_tied, d_is_all_tied, b_is_all_tied, w_pairs_of, d_pairs_of, b_pairs_of, w__law_two, d__law_two, b__law_two, f0, g0, f1, g1, f2, g2, f3, g3, f4, g4, f5, g5, f6, g6, f7, g7, f8, g8, e0, Int.reduceMul, Int.reduceSub, Int.reduceAdd]
    all_goals ((repeat' apply And.intro) <;> first | rfl | decide | exact lg_lit (by omega) (by omega) | exact small_two (by omega) (by omega) | (refine small_lit ?_ ?_ <;> omega) | trace_state)
  have c : ∀ S, w_most_of [.str "crowd", .int 4, .int n] S = some (.int (n * (n - 1) / 2 - n % 3 * ((n / 3 + 1) * (n / 3 + 1 - 1) / 2) - (3 - n % 3) * (n / 3 * (n / 3 - 1) / 2)), S) := by
    intro S
    refine Qr_iff.mpr ?_ |> R.eq
    unfold w_most_of d_most_of b_most_of
    push_cast [in2_0, in2_1, in2_2, in2_3, in2_4, in2_5, fw, fp, h21, h31, h41, w_most_groups, d_most_groups, b_most_groups, w_most_rings, d_most_rings, b_most_rings, w_most_pairs, d_most_pairs, b_most_pairs, w_is_all_tied, d_is_all_tied, b_is_all_tied, w_pairs_of, d_pairs_of, b_pairs_of, w__law_two, d__law_two, b__law_two, f0, g0, f1, g1, f2, g2, f3, g3, f4, g4, f5, g5, f6, g6, f7, g7, f8, g8, e0, Int.reduceMul, Int.reduceSub, Int.reduceAdd]
    all_goals ((repeat' apply And.intro) <;> first | rfl | decide | exact lg_lit (by omega) (by omega) | exact small_two (by omega) (by omega) | (refine small_lit ?_ ?_ <;> omega) | trace_state)
  have d : ∀ S, w__law_most [.str "crowd", .int 4, .int n] S = some (.int (n * (n - 1) / 2 - n % 3 * ((n / 3 + 1) * (n / 3 + 1 - 1) / 2) - (3 - n % 3) * (n / 3 * (n / 3 - 1) / 2)), S) := by
    intro S
    refine Qr_iff.mpr ?_ |> R.eq
    unfold w__law_most d__law_most b__law_most
    push_cast [in2_0, in2_1, in2_2, in2_3, in2_4, in2_5, fw, fp, h21, h31, h41, w_most_groups, d_most_groups, b_most_groups, w_most_rings, d_most_rings, b_most_rings, w_most_pairs, d_most_pairs, b_most_pairs, w_is_all_tied, d_is_all_tied, b_is_all_tied, w_pairs_of, d_pairs_of, b_pairs_of, w__law_two, d__law_two, b__law_two, f0, g0, f1, g1, f2, g2, f3, g3, f4, g4, f5, g5, f6, g6, f7, g7, f8, g8, e0, Int.reduceMul, Int.reduceSub, Int.reduceAdd]
    all_goals ((repeat' apply And.intro) <;> first | rfl | decide | exact lg_lit (by omega) (by omega) | exact small_two (by omega) (by omega) | (refine small_lit ?_ ?_ <;> omega) | trace_state)
  have m : 0 ≤ n * (n - 1) / 2 - n % 3 * ((n / 3 + 1) * (n / 3 + 1 - 1) / 2) - (3 - n % 3) * (n / 3 * (n / 3 - 1) / 2) ∧ n * (n - 1) / 2 - n % 3 * ((n / 3 + 1) * (n / 3 + 1 - 1) / 2) - (3 - n % 3) * (n / 3 * (n / 3 - 1) / 2) ≤ 10000000000000000000 := by
    obtain ⟨q, hq⟩ : ∃ q, n / 3 = q := ⟨_, rfl⟩
    obtain ⟨r, hr⟩ : ∃ r, n % 3 = r := ⟨_, rfl⟩
    rw [hq, hr]
    have t1 := tw n
    have t2 := tw (q + 1)
    have t3 := tw q
    obtain ⟨s0, s1⟩ := mul_bd (a := q) (b := q) (A := 1000000000) (B := 1000000000) (by omega) (by omega) (by omega) (by omega)
    have x2 : (q + 1) * (q + 1 - 1) = q * q + q := by grind
    have x3 : q * (q - 1) = q * q - q := by grind
    rw [x2] at t2 ⊢
    rw [x3] at t3 ⊢
    have hr2 : r = 0 ∨ r = 1 ∨ r = 2 := by omega
    rcases hr2 with rfl | rfl | rfl
    · have x1 : n * (n - 1) = 9 * (q * q) + -3 * q + 0 := by
        have : n = 3 * q + 0 := by omega
        subst this
        grind
      rw [x1] at t1 ⊢
      generalize q * q = s at *
      omega
    · have x1 : n * (n - 1) = 9 * (q * q) + 3 * q + 0 := by
        have : n = 3 * q + 1 := by omega
        subst this
        grind
      rw [x1] at t1 ⊢
      generalize q * q = s at *
      omega
    · have x1 : n * (n - 1) = 9 * (q * q) + 9 * q + 2 := by
        have : n = 3 * q + 2 := by omega
        subst this
        grind
      rw [x1] at t1 ⊢
      generalize q * q = s at *
      omega
  exact ⟨a, b, c, d, m.1, m.2, fun l h => by cases h; omega⟩
theorem lmb5 {n : Int} (h9 : 9 ≤ n) (hn : n ≤ 2000000000) : LM "star" (.int 1) n (some (1)) (if n * 0 / 2 < n * (n - 1) / 2 then n * 0 / 2 else n * (n - 1) / 2) := by
  have f0 : (n < 0) = False := eq_false (by omega)
  have g0 : (n ≤ 0) = False := eq_false (by omega)
  have f1 : (n < 1) = False := eq_false (by omega)
  have g1 : (n ≤ 1) = False := eq_false (by omega)
  have f2 : (n < 2) = False := eq_false (by omega)
  have g2 : (n ≤ 2) = False := eq_false (by omega)
  have f3 : (n < 3) = False := eq_false (by omega)
  have g3 : (n ≤ 3) = False := eq_false (by omega)
  have f4 : (n < 4) = False := eq_false (by omega)
  have g4 : (n ≤ 4) = False := eq_false (by omega)
  have f5 : (n < 5) = False := eq_false (by omega)
  have g5 : (n ≤ 5) = False := eq_false (by omega)
  have f6 : (n < 6) = False := eq_false (by omega)
  have g6 : (n ≤ 6) = False := eq_false (by omega)
  have f7 : (n < 7) = False := eq_false (by omega)
  have g7 : (n ≤ 7) = False := eq_false (by omega)
  have f8 : (n < 8) = False := eq_false (by omega)
  have g8 : (n ≤ 8) = False := eq_false (by omega)
  have e0 : (n = 0) = False := eq_false (by omega)
  have h21 : ((2 : Int) = 1) = False := eq_false (by decide)
  have h31 : ((3 : Int) = 1) = False := eq_false (by decide)
  have h41 : ((4 : Int) = 1) = False := eq_false (by decide)
  have fw : ∀ S, w__law_fewest [.str "star", .int 1] S = some (.int 2, S) := fun S => by kernel_rfl
  have fp : ∀ S, w_fewest_people [.str "star", .int 1] S = some (.int 2, S) := fun S => by kernel_rfl
  have a : ∀ S, w_least_of [.str "star", .int 1, .int n] S = some (.int (1), S) := by
    intro S
    refine Qr_iff.mpr ?_ |> R.eq
    unfold w_least_of d_least_of b_least_of
    push_cast [in3_0, in3_1, in3_2, in3_3, in3_4, in3_5, fw, fp, h21, h31, h41, w_most_groups, d_most_groups, b_most_groups, w_most_rings, d_most_rings, b_most_rings, w_most_pairs, d_most_pairs, b_most_pairs, w_is_all_tied, d_is_all_tied, b_is_all_tied, w_pairs_of, d_pairs_of, b_pairs_of, w__law_two, d__law_two, b__law_two, f0, g0, f1, g1, f2, g2, f3, g3, f4, g4, f5, g5, f6, g6, f7, g7, f8, g8, e0, Int.reduceMul, Int.reduceSub, Int.reduceAdd]
    all_goals ((repeat' apply And.intro) <;> first | rfl | decide | exact lg_lit (by omega) (by omega) | exact small_two (by omega) (by omega) | (refine small_lit ?_ ?_ <;> omega) | trace_state)
  have b : ∀ S, w__law_least [.str "star", .int 1, .int n] S = some (.int (1), S) := by
    intro S
    refine Qr_iff.mpr ?_ |> R.eq
    unfold w__law_least d__law_least b__law_least
    push_cast [in3_0, in3_1, in3_2, in3_3, in3_4, in3_5, fw, fp, h21, h31, h41, w_most_groups, d_most_groups, b_most_groups, w_most_rings, d_most_rings, b_most_rings, w_most_pairs, d_most_pairs, b_most_pairs, w_is_all_tied, d_is_all_tied, b_is_all_tied, w_pairs_of, d_pairs_of, b_pairs_of, w__law_two, d__law_two, b__law_two, f0, g0, f1, g1, f2, g2, f3, g3, f4, g4, f5, g5, f6, g6, f7, g7, f8, g8, e0, Int.reduceMul, Int.reduceSub, Int.reduceAdd]
    all_goals ((repeat' apply And.intro) <;> first | rfl | decide | exact lg_lit (by omega) (by omega) | exact small_two (by omega) (by omega) | (refine small_lit ?_ ?_ <;> omega) | trace_state)
  have c : ∀ S, w_most_of [.str "star", .int 1, .int n] S = some (.int (if n * 0 / 2 < n * (n - 1) / 2 then n * 0 / 2 else n * (n - 1) / 2), S) := by
    intro S
    refine Qr_iff.mpr ?_ |> R.eq
    unfold w_most_of d_most_of b_most_of
    push_cast [in3_0, in3_1, in3_2, in3_3, in3_4, in3_5, fw, fp, h21, h31, h41, w_most_groups, d_most_groups, b_most_groups, w_most_rings, d_most_rings, b_most_rings, w_most_pairs, d_most_pairs, b_most_pairs, w_is_all_tied, d_is_all_tied, b_is_all_tied, w_pairs_of, d_pairs_of, b_pairs_of, w__law_two, d__law_two, b__law_two, f0, g0, f1, g1, f2, g2, f3, g3, f4, g4, f5, g5, f6, g6, f7, g7, f8, g8, e0, Int.reduceMul, Int.reduceSub, Int.reduceAdd]
    all_goals ((repeat' apply And.intro) <;> first | rfl | decide | exact lg_lit (by omega) (by omega) | exact small_two (by omega) (by omega) | (refine small_lit ?_ ?_ <;> omega) | trace_state)
  have d : ∀ S, w__law_most [.str "star", .int 1, .int n] S = some (.int (if n * 0 / 2 < n * (n - 1) / 2 then n * 0 / 2 else n * (n - 1) / 2), S) := by
    intro S
    refine Qr_iff.mpr ?_ |> R.eq
    unfold w__law_most d__law_most b__law_most
    push_cast [in3_0, in3_1, in3_2, in3_3, in3_4, in3_5, fw, fp, h21, h31, h41, w_most_groups, d_most_groups, b_most_groups, w_most_rings, d_most_rings, b_most_rings, w_most_pairs, d_most_pairs, b_most_pairs, w_is_all_tied, d_is_all_tied, b_is_all_tied, w_pairs_of, d_pairs_of, b_pairs_of, w__law_two, d__law_two, b__law_two, f0, g0, f1, g1, f2, g2, f3, g3, f4, g4, f5, g5, f6, g6, f7, g7, f8, g8, e0, Int.reduceMul, Int.reduceSub, Int.reduceAdd]
    all_goals ((repeat' apply And.intro) <;> first | rfl | decide | exact lg_lit (by omega) (by omega) | exact small_two (by omega) (by omega) | (refine small_lit ?_ ?_ <;> omega) | trace_state)
  have m : 0 ≤ (if n * 0 / 2 < n * (n - 1) / 2 then n * 0 / 2 else n * (n - 1) / 2) ∧ (if n * 0 / 2 < n * (n - 1) / 2 then n * 0 / 2 else n * (n - 1) / 2) ≤ 10000000000000000000 := by
    obtain ⟨p0, p1⟩ := mul_bd (a := n) (b := n - 1) (A := 2000000000) (B := 2000000000) (by omega) hn (by omega) (by omega)
    generalize n * (n - 1) = X at p0 p1
    split <;> omega
  exact ⟨a, b, c, d, m.1, m.2, fun l h => by cases h; omega⟩
theorem lmb6 {n : Int} (h9 : 9 ≤ n) (hn : n ≤ 2000000000) : LM "star" (.int 2) n (some (2)) (if n * 1 / 2 < n * (n - 1) / 2 then n * 1 / 2 else n * (n - 1) / 2) := by
  have f0 : (n < 0) = False := eq_false (by omega)
  have g0 : (n ≤ 0) = False := eq_false (by omega)
  have f1 : (n < 1) = False := eq_false (by omega)
  have g1 : (n ≤ 1) = False := eq_false (by omega)
  have f2 : (n < 2) = False := eq_false (by omega)
  have g2 : (n ≤ 2) = False := eq_false (by omega)
  have f3 : (n < 3) = False := eq_false (by omega)
  have g3 : (n ≤ 3) = False := eq_false (by omega)
  have f4 : (n < 4) = False := eq_false (by omega)
  have g4 : (n ≤ 4) = False := eq_false (by omega)
  have f5 : (n < 5) = False := eq_false (by omega)
  have g5 : (n ≤ 5) = False := eq_false (by omega)
  have f6 : (n < 6) = False := eq_false (by omega)
  have g6 : (n ≤ 6) = False := eq_false (by omega)
  have f7 : (n < 7) = False := eq_false (by omega)
  have g7 : (n ≤ 7) = False := eq_false (by omega)
  have f8 : (n < 8) = False := eq_false (by omega)
  have g8 : (n ≤ 8) = False := eq_false (by omega)
  have e0 : (n = 0) = False := eq_false (by omega)
  have h21 : ((2 : Int) = 1) = False := eq_false (by decide)
  have h31 : ((3 : Int) = 1) = False := eq_false (by decide)
  have h41 : ((4 : Int) = 1) = False := eq_false (by decide)
  have fw : ∀ S, w__law_fewest [.str "star", .int 2] S = some (.int 3, S) := fun S => by kernel_rfl
  have fp : ∀ S, w_fewest_people [.str "star", .int 2] S = some (.int 3, S) := fun S => by kernel_rfl
  have a : ∀ S, w_least_of [.str "star", .int 2, .int n] S = some (.int (2), S) := by
    intro S
    refine Qr_iff.mpr ?_ |> R.eq
    unfold w_least_of d_least_of b_least_of
    push_cast [in3_0, in3_1, in3_2, in3_3, in3_4, in3_5, fw, fp, h21, h31, h41, w_most_groups, d_most_groups, b_most_groups, w_most_rings, d_most_rings, b_most_rings, w_most_pairs, d_most_pairs, b_most_pairs, w_is_all_tied, d_is_all_tied, b_is_all_tied, w_pairs_of, d_pairs_of, b_pairs_of, w__law_two, d__law_two, b__law_two, f0, g0, f1, g1, f2, g2, f3, g3, f4, g4, f5, g5, f6, g6, f7, g7, f8, g8, e0, Int.reduceMul, Int.reduceSub, Int.reduceAdd]
    all_goals ((repeat' apply And.intro) <;> first | rfl | decide | exact lg_lit (by omega) (by omega) | exact small_two (by omega) (by omega) | (refine small_lit ?_ ?_ <;> omega) | trace_state)
  have b : ∀ S, w__law_least [.str "star", .int 2, .int n] S = some (.int (2), S) := by
    intro S
    refine Qr_iff.mpr ?_ |> R.eq
    unfold w__law_least d__law_least b__law_least
    push_cast [in3_0, in3_1, in3_2, in3_3, in3_4, in3_5, fw, fp, h21, h31, h41, w_most_groups, d_most_groups, b_most_groups, w_most_rings, d_most_rings, b_most_rings, w_most_pairs, d_most_pairs, b_most_pairs, w_is_all_tied, d_is_all_tied, b_is_all_tied, w_pairs_of, d_pairs_of, b_pairs_of, w__law_two, d__law_two, b__law_two, f0, g0, f1, g1, f2, g2, f3, g3, f4, g4, f5, g5, f6, g6, f7, g7, f8, g8, e0, Int.reduceMul, Int.reduceSub, Int.reduceAdd]
    all_goals ((repeat' apply And.intro) <;> first | rfl | decide | exact lg_lit (by omega) (by omega) | exact small_two (by omega) (by omega) | (refine small_lit ?_ ?_ <;> omega) | trace_state)
  have c : ∀ S, w_most_of [.str "star", .int 2, .int n] S = some (.int (if n * 1 / 2 < n * (n - 1) / 2 then n * 1 / 2 else n * (n - 1) / 2), S) := by
    intro S
    refine Qr_iff.mpr ?_ |> R.eq
    unfold w_most_of d_most_of b_most_of
    push_cast [in3_0, in3_1, in3_2, in3_3, in3_4, in3_5, fw, fp, h21, h31, h41, w_most_groups, d_most_groups, b_most_groups, w_most_rings, d_most_rings, b_most_rings, w_most_pairs, d_most_pairs, b_most_pairs, w_is_all_tied, d_is_all_tied, b_is_all_tied, w_pairs_of, d_pairs_of, b_pairs_of, w__law_two, d__law_two, b__law_two, f0, g0, f1, g1, f2, g2, f3, g3, f4, g4, f5, g5, f6, g6, f7, g7, f8, g8, e0, Int.reduceMul, Int.reduceSub, Int.reduceAdd]
    all_goals ((repeat' apply And.intro) <;> first | rfl | decide | exact lg_lit (by omega) (by omega) | exact small_two (by omega) (by omega) | (refine small_lit ?_ ?_ <;> omega) | trace_state)
  have d : ∀ S, w__law_most [.str "star", .int 2, .int n] S = some (.int (if n * 1 / 2 < n * (n - 1) / 2 then n * 1 / 2 else n * (n - 1) / 2), S) := by
    intro S
    refine Qr_iff.mpr ?_ |> R.eq
    unfold w__law_most d__law_most b__law_most
    push_cast [in3_0, in3_1, in3_2, in3_3, in3_4, in3_5, fw, fp, h21, h31, h41, w_most_groups, d_most_groups, b_most_groups, w_most_rings, d_most_rings, b_most_rings, w_most_pairs, d_most_pairs, b_most_pairs, w_is_all_tied, d_is_all_tied, b_is_all_tied, w_pairs_of, d_pairs_of, b_pairs_of, w__law_two, d__law_two, b__law_two, f0, g0, f1, g1, f2, g2, f3, g3, f4, g4, f5, g5, f6, g6, f7, g7, f8, g8, e0, Int.reduceMul, Int.reduceSub, Int.reduceAdd]
    all_goals ((repeat' apply And.intro) <;> first | rfl | decide | exact lg_lit (by omega) (by omega) | exact small_two (by omega) (by omega) | (refine small_lit ?_ ?_ <;> omega) | trace_state)
  have m : 0 ≤ (if n * 1 / 2 < n * (n - 1) / 2 then n * 1 / 2 else n * (n - 1) / 2) ∧ (if n * 1 / 2 < n * (n - 1) / 2 then n * 1 / 2 else n * (n - 1) / 2) ≤ 10000000000000000000 := by
    obtain ⟨p0, p1⟩ := mul_bd (a := n) (b := n - 1) (A := 2000000000) (B := 2000000000) (by omega) hn (by omega) (by omega)
    generalize n * (n - 1) = X at p0 p1
    split <;> omega
  exact ⟨a, b, c, d, m.1, m.2, fun l h => by cases h; omega⟩
theorem lmb7 {n : Int} (h9 : 9 ≤ n) (hn : n ≤ 2000000000) : LM "star" (.int 3) n (some (3)) (if n * 2 / 2 < n * (n - 1) / 2 then n * 2 / 2 else n * (n - 1) / 2) := by
  have f0 : (n < 0) = False := eq_false (by omega)
  have g0 : (n ≤ 0) = False := eq_false (by omega)
  have f1 : (n < 1) = False := eq_false (by omega)
  have g1 : (n ≤ 1) = False := eq_false (by omega)
  have f2 : (n < 2) = False := eq_false (by omega)
  have g2 : (n ≤ 2) = False := eq_false (by omega)
  have f3 : (n < 3) = False := eq_false (by omega)
  have g3 : (n ≤ 3) = False := eq_false (by omega)
  have f4 : (n < 4) = False := eq_false (by omega)
  have g4 : (n ≤ 4) = False := eq_false (by omega)
  have f5 : (n < 5) = False := eq_false (by omega)
  have g5 : (n ≤ 5) = False := eq_false (by omega)
  have f6 : (n < 6) = False := eq_false (by omega)
  have g6 : (n ≤ 6) = False := eq_false (by omega)
  have f7 : (n < 7) = False := eq_false (by omega)
  have g7 : (n ≤ 7) = False := eq_false (by omega)
  have f8 : (n < 8) = False := eq_false (by omega)
  have g8 : (n ≤ 8) = False := eq_false (by omega)
  have e0 : (n = 0) = False := eq_false (by omega)
  have h21 : ((2 : Int) = 1) = False := eq_false (by decide)
  have h31 : ((3 : Int) = 1) = False := eq_false (by decide)
  have h41 : ((4 : Int) = 1) = False := eq_false (by decide)
  have fw : ∀ S, w__law_fewest [.str "star", .int 3] S = some (.int 4, S) := fun S => by kernel_rfl
  have fp : ∀ S, w_fewest_people [.str "star", .int 3] S = some (.int 4, S) := fun S => by kernel_rfl
  have a : ∀ S, w_least_of [.str "star", .int 3, .int n] S = some (.int (3), S) := by
    intro S
    refine Qr_iff.mpr ?_ |> R.eq
    unfold w_least_of d_least_of b_least_of
    push_cast [in3_0, in3_1, in3_2, in3_3, in3_4, in3_5, fw, fp, h21, h31, h41, w_most_groups, d_most_groups, b_most_groups, w_most_rings, d_most_rings, b_most_rings, w_most_pairs, d_most_pairs, b_most_pairs, w_is_all_tied, d_is_all_tied, b_is_all_tied, w_pairs_of, d_pairs_of, b_pairs_of, w__law_two, d__law_two, b__law_two, f0, g0, f1, g1, f2, g2, f3, g3, f4, g4, f5, g5, f6, g6, f7, g7, f8, g8, e0, Int.reduceMul, Int.reduceSub, Int.reduceAdd]
    all_goals ((repeat' apply And.intro) <;> first | rfl | decide | exact lg_lit (by omega) (by omega) | exact small_two (by omega) (by omega) | (refine small_lit ?_ ?_ <;> omega) | trace_state)
  have b : ∀ S, w__law_least [.str "star", .int 3, .int n] S = some (.int (3), S) := by
    intro S
    refine Qr_iff.mpr ?_ |> R.eq
    unfold w__law_least d__law_least b__law_least
    push_cast [in3_0, in3_1, in3_2, in3_3, in3_4, in3_5, fw, fp, h21, h31, h41, w_most_groups, d_most_groups, b_most_groups, w_most_rings, d_most_rings, b_most_rings, w_most_pairs, d_most_pairs, b_most_pairs, w_is_all_tied, d_is_all_tied, b_is_all_tied, w_pairs_of, d_pairs_of, b_pairs_of, w__law_two, d__law_two, b__law_two, f0, g0, f1, g1, f2, g2, f3, g3, f4, g4, f5, g5, f6, g6, f7, g7, f8, g8, e0, Int.reduceMul, Int.reduceSub, Int.reduceAdd]
    all_goals ((repeat' apply And.intro) <;> first | rfl | decide | exact lg_lit (by omega) (by omega) | exact small_two (by omega) (by omega) | (refine small_lit ?_ ?_ <;> omega) | trace_state)
  have c : ∀ S, w_most_of [.str "star", .int 3, .int n] S = some (.int (if n * 2 / 2 < n * (n - 1) / 2 then n * 2 / 2 else n * (n - 1) / 2), S) := by
    intro S
    refine Qr_iff.mpr ?_ |> R.eq
    unfold w_most_of d_most_of b_most_of
    push_cast [in3_0, in3_1, in3_2, in3_3, in3_4, in3_5, fw, fp, h21, h31, h41, w_most_groups, d_most_groups, b_most_groups, w_most_rings, d_most_rings, b_most_rings, w_most_pairs, d_most_pairs, b_most_pairs, w_is_all_tied, d_is_all_tied, b_is_all_tied, w_pairs_of, d_pairs_of, b_pairs_of, w__law_two, d__law_two, b__law_two, f0, g0, f1, g1, f2, g2, f3, g3, f4, g4, f5, g5, f6, g6, f7, g7, f8, g8, e0, Int.reduceMul, Int.reduceSub, Int.reduceAdd]
    all_goals ((repeat' apply And.intro) <;> first | rfl | decide | exact lg_lit (by omega) (by omega) | exact small_two (by omega) (by omega) | (refine small_lit ?_ ?_ <;> omega) | trace_state)
  have d : ∀ S, w__law_most [.str "star", .int 3, .int n] S = some (.int (if n * 2 / 2 < n * (n - 1) / 2 then n * 2 / 2 else n * (n - 1) / 2), S) := by
    intro S
    refine Qr_iff.mpr ?_ |> R.eq
    unfold w__law_most d__law_most b__law_most
    push_cast [in3_0, in3_1, in3_2, in3_3, in3_4, in3_5, fw, fp, h21, h31, h41, w_most_groups, d_most_groups, b_most_groups, w_most_rings, d_most_rings, b_most_rings, w_most_pairs, d_most_pairs, b_most_pairs, w_is_all_tied, d_is_all_tied, b_is_all_tied, w_pairs_of, d_pairs_of, b_pairs_of, w__law_two, d__law_two, b__law_two, f0, g0, f1, g1, f2, g2, f3, g3, f4, g4, f5, g5, f6, g6, f7, g7, f8, g8, e0, Int.reduceMul, Int.reduceSub, Int.reduceAdd]
    all_goals ((repeat' apply And.intro) <;> first | rfl | decide | exact lg_lit (by omega) (by omega) | exact small_two (by omega) (by omega) | (refine small_lit ?_ ?_ <;> omega) | trace_state)
  have m : 0 ≤ (if n * 2 / 2 < n * (n - 1) / 2 then n * 2 / 2 else n * (n - 1) / 2) ∧ (if n * 2 / 2 < n * (n - 1) / 2 then n * 2 / 2 else n * (n - 1) / 2) ≤ 10000000000000000000 := by
    obtain ⟨p0, p1⟩ := mul_bd (a := n) (b := n - 1) (A := 2000000000) (B := 2000000000) (by omega) hn (by omega) (by omega)
    generalize n * (n - 1) = X at p0 p1
    split <;> omega
  exact ⟨a, b, c, d, m.1, m.2, fun l h => by cases h; omega⟩
theorem lmb8 {n : Int} (h9 : 9 ≤ n) (hn : n ≤ 2000000000) : LM "star" (.int 4) n (some (4)) (if n * 3 / 2 < n * (n - 1) / 2 then n * 3 / 2 else n * (n - 1) / 2) := by
  have f0 : (n < 0) = False := eq_false (by omega)
  have g0 : (n ≤ 0) = False := eq_false (by omega)
  have f1 : (n < 1) = False := eq_false (by omega)
  have g1 : (n ≤ 1) = False := eq_false (by omega)
  have f2 : (n < 2) = False := eq_false (by omega)
  have g2 : (n ≤ 2) = False := eq_false (by omega)
  have f3 : (n < 3) = False := eq_false (by omega)
  have g3 : (n ≤ 3) = False := eq_false (by omega)
  have f4 : (n < 4) = False := eq_false (by omega)
  have g4 : (n ≤ 4) = False := eq_false (by omega)
  have f5 : (n < 5) = False := eq_false (by omega)
  have g5 : (n ≤ 5) = False := eq_false (by omega)
  have f6 : (n < 6) = False := eq_false (by omega)
  have g6 : (n ≤ 6) = False := eq_false (by omega)
  have f7 : (n < 7) = False := eq_false (by omega)
  have g7 : (n ≤ 7) = False := eq_false (by omega)
  have f8 : (n < 8) = False := eq_false (by omega)
  have g8 : (n ≤ 8) = False := eq_false (by omega)
  have e0 : (n = 0) = False := eq_false (by omega)
  have h21 : ((2 : Int) = 1) = False := eq_false (by decide)
  have h31 : ((3 : Int) = 1) = False := eq_false (by decide)
  have h41 : ((4 : Int) = 1) = False := eq_false (by decide)
  have fw : ∀ S, w__law_fewest [.str "star", .int 4] S = some (.int 5, S) := fun S => by kernel_rfl
  have fp : ∀ S, w_fewest_people [.str "star", .int 4] S = some (.int 5, S) := fun S => by kernel_rfl
  have a : ∀ S, w_least_of [.str "star", .int 4, .int n] S = some (.int (4), S) := by
    intro S
    refine Qr_iff.mpr ?_ |> R.eq
    unfold w_least_of d_least_of b_least_of
    push_cast [in3_0, in3_1, in3_2, in3_3, in3_4, in3_5, fw, fp, h21, h31, h41, w_most_groups, d_most_groups, b_most_groups, w_most_rings, d_most_rings, b_most_rings, w_most_pairs, d_most_pairs, b_most_pairs, w_is_all_tied, d_is_all_tied, b_is_all_tied, w_pairs_of, d_pairs_of, b_pairs_of, w__law_two, d__law_two, b__law_two, f0, g0, f1, g1, f2, g2, f3, g3, f4, g4, f5, g5, f6, g6, f7, g7, f8, g8, e0, Int.reduceMul, Int.reduceSub, Int.reduceAdd]
    all_goals ((repeat' apply And.intro) <;> first | rfl | decide | exact lg_lit (by omega) (by omega) | exact small_two (by omega) (by omega) | (refine small_lit ?_ ?_ <;> omega) | trace_state)
  have b : ∀ S, w__law_least [.str "star", .int 4, .int n] S = some (.int (4), S) := by
    intro S
    refine Qr_iff.mpr ?_ |> R.eq
    unfold w__law_least d__law_least b__law_least
    push_cast [in3_0, in3_1, in3_2, in3_3, in3_4, in3_5, fw, fp, h21, h31, h41, w_most_groups, d_most_groups, b_most_groups, w_most_rings, d_most_rings, b_most_rings, w_most_pairs, d_most_pairs, b_most_pairs, w_is_all_tied, d_is_all_tied, b_is_all_tied, w_pairs_of, d_pairs_of, b_pairs_of, w__law_two, d__law_two, b__law_two, f0, g0, f1, g1, f2, g2, f3, g3, f4, g4, f5, g5, f6, g6, f7, g7, f8, g8, e0, Int.reduceMul, Int.reduceSub, Int.reduceAdd]
    all_goals ((repeat' apply And.intro) <;> first | rfl | decide | exact lg_lit (by omega) (by omega) | exact small_two (by omega) (by omega) | (refine small_lit ?_ ?_ <;> omega) | trace_state)
  have c : ∀ S, w_most_of [.str "star", .int 4, .int n] S = some (.int (if n * 3 / 2 < n * (n - 1) / 2 then n * 3 / 2 else n * (n - 1) / 2), S) := by
    intro S
    refine Qr_iff.mpr ?_ |> R.eq
    unfold w_most_of d_most_of b_most_of
    push_cast [in3_0, in3_1, in3_2, in3_3, in3_4, in3_5, fw, fp, h21, h31, h41, w_most_groups, d_most_groups, b_most_groups, w_most_rings, d_most_rings, b_most_rings, w_most_pairs, d_most_pairs, b_most_pairs, w_is_all_tied, d_is_all_tied, b_is_all_tied, w_pairs_of, d_pairs_of, b_pairs_of, w__law_two, d__law_two, b__law_two, f0, g0, f1, g1, f2, g2, f3, g3, f4, g4, f5, g5, f6, g6, f7, g7, f8, g8, e0, Int.reduceMul, Int.reduceSub, Int.reduceAdd]
    all_goals ((repeat' apply And.intro) <;> first | rfl | decide | exact lg_lit (by omega) (by omega) | exact small_two (by omega) (by omega) | (refine small_lit ?_ ?_ <;> omega) | trace_state)
  have d : ∀ S, w__law_most [.str "star", .int 4, .int n] S = some (.int (if n * 3 / 2 < n * (n - 1) / 2 then n * 3 / 2 else n * (n - 1) / 2), S) := by
    intro S
    refine Qr_iff.mpr ?_ |> R.eq
    unfold w__law_most d__law_most b__law_most
    push_cast [in3_0, in3_1, in3_2, in3_3, in3_4, in3_5, fw, fp, h21, h31, h41, w_most_groups, d_most_groups, b_most_groups, w_most_rings, d_most_rings, b_most_rings, w_most_pairs, d_most_pairs, b_most_pairs, w_is_all_tied, d_is_all_tied, b_is_all_tied, w_pairs_of, d_pairs_of, b_pairs_of, w__law_two, d__law_two, b__law_two, f0, g0, f1, g1, f2, g2, f3, g3, f4, g4, f5, g5, f6, g6, f7, g7, f8, g8, e0, Int.reduceMul, Int.reduceSub, Int.reduceAdd]
    all_goals ((repeat' apply And.intro) <;> first | rfl | decide | exact lg_lit (by omega) (by omega) | exact small_two (by omega) (by omega) | (refine small_lit ?_ ?_ <;> omega) | trace_state)
  have m : 0 ≤ (if n * 3 / 2 < n * (n - 1) / 2 then n * 3 / 2 else n * (n - 1) / 2) ∧ (if n * 3 / 2 < n * (n - 1) / 2 then n * 3 / 2 else n * (n - 1) / 2) ≤ 10000000000000000000 := by
    obtain ⟨p0, p1⟩ := mul_bd (a := n) (b := n - 1) (A := 2000000000) (B := 2000000000) (by omega) hn (by omega) (by omega)
    generalize n * (n - 1) = X at p0 p1
    split <;> omega
  exact ⟨a, b, c, d, m.1, m.2, fun l h => by cases h; omega⟩
theorem lmb9 {n : Int} (h9 : 9 ≤ n) (hn : n ≤ 2000000000) : LM "pairs" (.int 1) n (some (1)) (if 0 + 0 * (n - 1 + 1) > 0 then 0 + 0 * (n - 1 + 1) else 0) := by
  have f0 : (n < 0) = False := eq_false (by omega)
  have g0 : (n ≤ 0) = False := eq_false (by omega)
  have f1 : (n < 1) = False := eq_false (by omega)
  have g1 : (n ≤ 1) = False := eq_false (by omega)
  have f2 : (n < 2) = False := eq_false (by omega)
  have g2 : (n ≤ 2) = False := eq_false (by omega)
  have f3 : (n < 3) = False := eq_false (by omega)
  have g3 : (n ≤ 3) = False := eq_false (by omega)
  have f4 : (n < 4) = False := eq_false (by omega)
  have g4 : (n ≤ 4) = False := eq_false (by omega)
  have f5 : (n < 5) = False := eq_false (by omega)
  have g5 : (n ≤ 5) = False := eq_false (by omega)
  have f6 : (n < 6) = False := eq_false (by omega)
  have g6 : (n ≤ 6) = False := eq_false (by omega)
  have f7 : (n < 7) = False := eq_false (by omega)
  have g7 : (n ≤ 7) = False := eq_false (by omega)
  have f8 : (n < 8) = False := eq_false (by omega)
  have g8 : (n ≤ 8) = False := eq_false (by omega)
  have e0 : (n = 0) = False := eq_false (by omega)
  have h21 : ((2 : Int) = 1) = False := eq_false (by decide)
  have h31 : ((3 : Int) = 1) = False := eq_false (by decide)
  have h41 : ((4 : Int) = 1) = False := eq_false (by decide)
  have fw : ∀ S, w__law_fewest [.str "pairs", .int 1] S = some (.int 2, S) := fun S => by kernel_rfl
  have fp : ∀ S, w_fewest_people [.str "pairs", .int 1] S = some (.int 2, S) := fun S => by kernel_rfl
  have a : ∀ S, w_least_of [.str "pairs", .int 1, .int n] S = some (.int (1), S) := by
    intro S
    refine Qr_iff.mpr ?_ |> R.eq
    unfold w_least_of d_least_of b_least_of
    push_cast [in4_0, in4_1, in4_2, in4_3, in4_4, in4_5, fw, fp, h21, h31, h41, w_most_groups, d_most_groups, b_most_groups, w_most_rings, d_most_rings, b_most_rings, w_most_pairs, d_most_pairs, b_most_pairs, w_is_all_tied, d_is_all_tied, b_is_all_tied, w_pairs_of, d_pairs_of, b_pairs_of, w__law_two, d__law_two, b__law_two, f0, g0, f1, g1, f2, g2, f3, g3, f4, g4, f5, g5, f6, g6, f7, g7, f8, g8, e0, Int.reduceMul, Int.reduceSub, Int.reduceAdd]
    all_goals ((repeat' apply And.intro) <;> first | rfl | decide | exact lg_lit (by omega) (by omega) | exact small_two (by omega) (by omega) | (refine small_lit ?_ ?_ <;> omega) | trace_state)
  have b : ∀ S, w__law_least [.str "pairs", .int 1, .int n] S = some (.int (1), S) := by
    intro S
    refine Qr_iff.mpr ?_ |> R.eq
    unfold w__law_least d__law_least b__law_least
    push_cast [in4_0, in4_1, in4_2, in4_3, in4_4, in4_5, fw, fp, h21, h31, h41, w_most_groups, d_most_groups, b_most_groups, w_most_rings, d_most_rings, b_most_rings, w_most_pairs, d_most_pairs, b_most_pairs, w_is_all_tied, d_is_all_tied, b_is_all_tied, w_pairs_of, d_pairs_of, b_pairs_of, w__law_two, d__law_two, b__law_two, f0, g0, f1, g1, f2, g2, f3, g3, f4, g4, f5, g5, f6, g6, f7, g7, f8, g8, e0, Int.reduceMul, Int.reduceSub, Int.reduceAdd]
    all_goals ((repeat' apply And.intro) <;> first | rfl | decide | exact lg_lit (by omega) (by omega) | exact small_two (by omega) (by omega) | (refine small_lit ?_ ?_ <;> omega) | trace_state)
  have c : ∀ S, w_most_of [.str "pairs", .int 1, .int n] S = some (.int (if 0 + 0 * (n - 1 + 1) > 0 then 0 + 0 * (n - 1 + 1) else 0), S) := by
    intro S
    refine Qr_iff.mpr ?_ |> R.eq
    unfold w_most_of d_most_of b_most_of
    push_cast [in4_0, in4_1, in4_2, in4_3, in4_4, in4_5, fw, fp, h21, h31, h41, w_most_groups, d_most_groups, b_most_groups, w_most_rings, d_most_rings, b_most_rings, w_most_pairs, d_most_pairs, b_most_pairs, w_is_all_tied, d_is_all_tied, b_is_all_tied, w_pairs_of, d_pairs_of, b_pairs_of, w__law_two, d__law_two, b__law_two, f0, g0, f1, g1, f2, g2, f3, g3, f4, g4, f5, g5, f6, g6, f7, g7, f8, g8, e0, Int.reduceMul, Int.reduceSub, Int.reduceAdd]
    all_goals ((repeat' apply And.intro) <;> first | rfl | decide | exact lg_lit (by omega) (by omega) | exact small_two (by omega) (by omega) | (refine small_lit ?_ ?_ <;> omega) | trace_state)
  have d : ∀ S, w__law_most [.str "pairs", .int 1, .int n] S = some (.int (if 0 + 0 * (n - 1 + 1) > 0 then 0 + 0 * (n - 1 + 1) else 0), S) := by
    intro S
    refine Qr_iff.mpr ?_ |> R.eq
    unfold w__law_most d__law_most b__law_most
    push_cast [in4_0, in4_1, in4_2, in4_3, in4_4, in4_5, fw, fp, h21, h31, h41, w_most_groups, d_most_groups, b_most_groups, w_most_rings, d_most_rings, b_most_rings, w_most_pairs, d_most_pairs, b_most_pairs, w_is_all_tied, d_is_all_tied, b_is_all_tied, w_pairs_of, d_pairs_of, b_pairs_of, w__law_two, d__law_two, b__law_two, f0, g0, f1, g1, f2, g2, f3, g3, f4, g4, f5, g5, f6, g6, f7, g7, f8, g8, e0, Int.reduceMul, Int.reduceSub, Int.reduceAdd]
    all_goals ((repeat' apply And.intro) <;> first | rfl | decide | exact lg_lit (by omega) (by omega) | exact small_two (by omega) (by omega) | (refine small_lit ?_ ?_ <;> omega) | trace_state)
  have m : 0 ≤ (if 0 + 0 * (n - 1 + 1) > 0 then 0 + 0 * (n - 1 + 1) else 0) ∧ (if 0 + 0 * (n - 1 + 1) > 0 then 0 + 0 * (n - 1 + 1) else 0) ≤ 10000000000000000000 := by
    split <;> omega
  exact ⟨a, b, c, d, m.1, m.2, fun l h => by cases h; omega⟩
theorem lmb10 {n : Int} (h9 : 9 ≤ n) (hn : n ≤ 2000000000) : LM "pairs" (.int 2) n (some (2)) (if 0 + 1 * (n - 2 + 1) > 3 then 0 + 1 * (n - 2 + 1) else 3) := by
  have f0 : (n < 0) = False := eq_false (by omega)
  have g0 : (n ≤ 0) = False := eq_false (by omega)
  have f1 : (n < 1) = False := eq_false (by omega)
  have g1 : (n ≤ 1) = False := eq_false (by omega)
  have f2 : (n < 2) = False := eq_false (by omega)
  have g2 : (n ≤ 2) = False := eq_false (by omega)
  have f3 : (n < 3) = False := eq_false (by omega)
  have g3 : (n ≤ 3) = False := eq_false (by omega)
  have f4 : (n < 4) = False := eq_false (by omega)
  have g4 : (n ≤ 4) = False := eq_false (by omega)
  have f5 : (n < 5) = False := eq_false (by omega)
  have g5 : (n ≤ 5) = False := eq_false (by omega)
  have f6 : (n < 6) = False := eq_false (by omega)
  have g6 : (n ≤ 6) = False := eq_false (by omega)
  have f7 : (n < 7) = False := eq_false (by omega)
  have g7 : (n ≤ 7) = False := eq_false (by omega)
  have f8 : (n < 8) = False := eq_false (by omega)
  have g8 : (n ≤ 8) = False := eq_false (by omega)
  have e0 : (n = 0) = False := eq_false (by omega)
  have h21 : ((2 : Int) = 1) = False := eq_false (by decide)
  have h31 : ((3 : Int) = 1) = False := eq_false (by decide)
  have h41 : ((4 : Int) = 1) = False := eq_false (by decide)
  have fw : ∀ S, w__law_fewest [.str "pairs", .int 2] S = some (.int 4, S) := fun S => by kernel_rfl
  have fp : ∀ S, w_fewest_people [.str "pairs", .int 2] S = some (.int 4, S) := fun S => by kernel_rfl
  have a : ∀ S, w_least_of [.str "pairs", .int 2, .int n] S = some (.int (2), S) := by
    intro S
    refine Qr_iff.mpr ?_ |> R.eq
    unfold w_least_of d_least_of b_least_of
    push_cast [in4_0, in4_1, in4_2, in4_3, in4_4, in4_5, fw, fp, h21, h31, h41, w_most_groups, d_most_groups, b_most_groups, w_most_rings, d_most_rings, b_most_rings, w_most_pairs, d_most_pairs, b_most_pairs, w_is_all_tied, d_is_all_tied, b_is_all_tied, w_pairs_of, d_pairs_of, b_pairs_of, w__law_two, d__law_two, b__law_two, f0, g0, f1, g1, f2, g2, f3, g3, f4, g4, f5, g5, f6, g6, f7, g7, f8, g8, e0, Int.reduceMul, Int.reduceSub, Int.reduceAdd]
    all_goals ((repeat' apply And.intro) <;> first | rfl | decide | exact lg_lit (by omega) (by omega) | exact small_two (by omega) (by omega) | (refine small_lit ?_ ?_ <;> omega) | trace_state)
  have b : ∀ S, w__law_least [.str "pairs", .int 2, .int n] S = some (.int (2), S) := by
    intro S
    refine Qr_iff.mpr ?_ |> R.eq
    unfold w__law_least d__law_least b__law_least
    push_cast [in4_0, in4_1, in4_2, in4_3, in4_4, in4_5, fw, fp, h21, h31, h41, w_most_groups, d_most_groups, b_most_groups, w_most_rings, d_most_rings, b_most_rings, w_most_pairs, d_most_pairs, b_most_pairs, w_is_all_tied, d_is_all_tied, b_is_all_tied, w_pairs_of, d_pairs_of, b_pairs_of, w__law_two, d__law_two, b__law_two, f0, g0, f1, g1, f2, g2, f3, g3, f4, g4, f5, g5, f6, g6, f7, g7, f8, g8, e0, Int.reduceMul, Int.reduceSub, Int.reduceAdd]
    all_goals ((repeat' apply And.intro) <;> first | rfl | decide | exact lg_lit (by omega) (by omega) | exact small_two (by omega) (by omega) | (refine small_lit ?_ ?_ <;> omega) | trace_state)
  have c : ∀ S, w_most_of [.str "pairs", .int 2, .int n] S = some (.int (if 0 + 1 * (n - 2 + 1) > 3 then 0 + 1 * (n - 2 + 1) else 3), S) := by
    intro S
    refine Qr_iff.mpr ?_ |> R.eq
    unfold w_most_of d_most_of b_most_of
    push_cast [in4_0, in4_1, in4_2, in4_3, in4_4, in4_5, fw, fp, h21, h31, h41, w_most_groups, d_most_groups, b_most_groups, w_most_rings, d_most_rings, b_most_rings, w_most_pairs, d_most_pairs, b_most_pairs, w_is_all_tied, d_is_all_tied, b_is_all_tied, w_pairs_of, d_pairs_of, b_pairs_of, w__law_two, d__law_two, b__law_two, f0, g0, f1, g1, f2, g2, f3, g3, f4, g4, f5, g5, f6, g6, f7, g7, f8, g8, e0, Int.reduceMul, Int.reduceSub, Int.reduceAdd]
    all_goals ((repeat' apply And.intro) <;> first | rfl | decide | exact lg_lit (by omega) (by omega) | exact small_two (by omega) (by omega) | (refine small_lit ?_ ?_ <;> omega) | trace_state)
  have d : ∀ S, w__law_most [.str "pairs", .int 2, .int n] S = some (.int (if 0 + 1 * (n - 2 + 1) > 3 then 0 + 1 * (n - 2 + 1) else 3), S) := by
    intro S
    refine Qr_iff.mpr ?_ |> R.eq
    unfold w__law_most d__law_most b__law_most
    push_cast [in4_0, in4_1, in4_2, in4_3, in4_4, in4_5, fw, fp, h21, h31, h41, w_most_groups, d_most_groups, b_most_groups, w_most_rings, d_most_rings, b_most_rings, w_most_pairs, d_most_pairs, b_most_pairs, w_is_all_tied, d_is_all_tied, b_is_all_tied, w_pairs_of, d_pairs_of, b_pairs_of, w__law_two, d__law_two, b__law_two, f0, g0, f1, g1, f2, g2, f3, g3, f4, g4, f5, g5, f6, g6, f7, g7, f8, g8, e0, Int.reduceMul, Int.reduceSub, Int.reduceAdd]
    all_goals ((repeat' apply And.intro) <;> first | rfl | decide | exact lg_lit (by omega) (by omega) | exact small_two (by omega) (by omega) | (refine small_lit ?_ ?_ <;> omega) | trace_state)
  have m : 0 ≤ (if 0 + 1 * (n - 2 + 1) > 3 then 0 + 1 * (n - 2 + 1) else 3) ∧ (if 0 + 1 * (n - 2 + 1) > 3 then 0 + 1 * (n - 2 + 1) else 3) ≤ 10000000000000000000 := by
    split <;> omega
  exact ⟨a, b, c, d, m.1, m.2, fun l h => by cases h; omega⟩
theorem lmb11 {n : Int} (h9 : 9 ≤ n) (hn : n ≤ 2000000000) : LM "pairs" (.int 3) n (some (3)) (if 1 + 2 * (n - 3 + 1) > 10 then 1 + 2 * (n - 3 + 1) else 10) := by
  have f0 : (n < 0) = False := eq_false (by omega)
  have g0 : (n ≤ 0) = False := eq_false (by omega)
  have f1 : (n < 1) = False := eq_false (by omega)
  have g1 : (n ≤ 1) = False := eq_false (by omega)
  have f2 : (n < 2) = False := eq_false (by omega)
  have g2 : (n ≤ 2) = False := eq_false (by omega)
  have f3 : (n < 3) = False := eq_false (by omega)
  have g3 : (n ≤ 3) = False := eq_false (by omega)
  have f4 : (n < 4) = False := eq_false (by omega)
  have g4 : (n ≤ 4) = False := eq_false (by omega)
  have f5 : (n < 5) = False := eq_false (by omega)
  have g5 : (n ≤ 5) = False := eq_false (by omega)
  have f6 : (n < 6) = False := eq_false (by omega)
  have g6 : (n ≤ 6) = False := eq_false (by omega)
  have f7 : (n < 7) = False := eq_false (by omega)
  have g7 : (n ≤ 7) = False := eq_false (by omega)
  have f8 : (n < 8) = False := eq_false (by omega)
  have g8 : (n ≤ 8) = False := eq_false (by omega)
  have e0 : (n = 0) = False := eq_false (by omega)
  have h21 : ((2 : Int) = 1) = False := eq_false (by decide)
  have h31 : ((3 : Int) = 1) = False := eq_false (by decide)
  have h41 : ((4 : Int) = 1) = False := eq_false (by decide)
  have fw : ∀ S, w__law_fewest [.str "pairs", .int 3] S = some (.int 6, S) := fun S => by kernel_rfl
  have fp : ∀ S, w_fewest_people [.str "pairs", .int 3] S = some (.int 6, S) := fun S => by kernel_rfl
  have a : ∀ S, w_least_of [.str "pairs", .int 3, .int n] S = some (.int (3), S) := by
    intro S
    refine Qr_iff.mpr ?_ |> R.eq
    unfold w_least_of d_least_of b_least_of
    push_cast [in4_0, in4_1, in4_2, in4_3, in4_4, in4_5, fw, fp, h21, h31, h41, w_most_groups, d_most_groups, b_most_groups, w_most_rings, d_most_rings, b_most_rings, w_most_pairs, d_most_pairs, b_most_pairs, w_is_all_tied, d_is_all_tied, b_is_all_tied, w_pairs_of, d_pairs_of, b_pairs_of, w__law_two, d__law_two, b__law_two, f0, g0, f1, g1, f2, g2, f3, g3, f4, g4, f5, g5, f6, g6, f7, g7, f8, g8, e0, Int.reduceMul, Int.reduceSub, Int.reduceAdd]
    all_goals ((repeat' apply And.intro) <;> first | rfl | decide | exact lg_lit (by omega) (by omega) | exact small_two (by omega) (by omega) | (refine small_lit ?_ ?_ <;> omega) | trace_state)
  have b : ∀ S, w__law_least [.str "pairs", .int 3, .int n] S = some (.int (3), S) := by
    intro S
    refine Qr_iff.mpr ?_ |> R.eq
    unfold w__law_least d__law_least b__law_least
    push_cast [in4_0, in4_1, in4_2, in4_3, in4_4, in4_5, fw, fp, h21, h31, h41, w_most_groups, d_most_groups, b_most_groups, w_most_rings, d_most_rings, b_most_rings, w_most_pairs, d_most_pairs, b_most_pairs, w_is_all_tied, d_is_all_tied, b_is_all_tied, w_pairs_of, d_pairs_of, b_pairs_of, w__law_two, d__law_two, b__law_two, f0, g0, f1, g1, f2, g2, f3, g3, f4, g4, f5, g5, f6, g6, f7, g7, f8, g8, e0, Int.reduceMul, Int.reduceSub, Int.reduceAdd]
    all_goals ((repeat' apply And.intro) <;> first | rfl | decide | exact lg_lit (by omega) (by omega) | exact small_two (by omega) (by omega) | (refine small_lit ?_ ?_ <;> omega) | trace_state)
  have c : ∀ S, w_most_of [.str "pairs", .int 3, .int n] S = some (.int (if 1 + 2 * (n - 3 + 1) > 10 then 1 + 2 * (n - 3 + 1) else 10), S) := by
    intro S
    refine Qr_iff.mpr ?_ |> R.eq
    unfold w_most_of d_most_of b_most_of
    push_cast [in4_0, in4_1, in4_2, in4_3, in4_4, in4_5, fw, fp, h21, h31, h41, w_most_groups, d_most_groups, b_most_groups, w_most_rings, d_most_rings, b_most_rings, w_most_pairs, d_most_pairs, b_most_pairs, w_is_all_tied, d_is_all_tied, b_is_all_tied, w_pairs_of, d_pairs_of, b_pairs_of, w__law_two, d__law_two, b__law_two, f0, g0, f1, g1, f2, g2, f3, g3, f4, g4, f5, g5, f6, g6, f7, g7, f8, g8, e0, Int.reduceMul, Int.reduceSub, Int.reduceAdd]
    all_goals ((repeat' apply And.intro) <;> first | rfl | decide | exact lg_lit (by omega) (by omega) | exact small_two (by omega) (by omega) | (refine small_lit ?_ ?_ <;> omega) | trace_state)
  have d : ∀ S, w__law_most [.str "pairs", .int 3, .int n] S = some (.int (if 1 + 2 * (n - 3 + 1) > 10 then 1 + 2 * (n - 3 + 1) else 10), S) := by
    intro S
    refine Qr_iff.mpr ?_ |> R.eq
    unfold w__law_most d__law_most b__law_most
    push_cast [in4_0, in4_1, in4_2, in4_3, in4_4, in4_5, fw, fp, h21, h31, h41, w_most_groups, d_most_groups, b_most_groups, w_most_rings, d_most_rings, b_most_rings, w_most_pairs, d_most_pairs, b_most_pairs, w_is_all_tied, d_is_all_tied, b_is_all_tied, w_pairs_of, d_pairs_of, b_pairs_of, w__law_two, d__law_two, b__law_two, f0, g0, f1, g1, f2, g2, f3, g3, f4, g4, f5, g5, f6, g6, f7, g7, f8, g8, e0, Int.reduceMul, Int.reduceSub, Int.reduceAdd]
    all_goals ((repeat' apply And.intro) <;> first | rfl | decide | exact lg_lit (by omega) (by omega) | exact small_two (by omega) (by omega) | (refine small_lit ?_ ?_ <;> omega) | trace_state)
  have m : 0 ≤ (if 1 + 2 * (n - 3 + 1) > 10 then 1 + 2 * (n - 3 + 1) else 10) ∧ (if 1 + 2 * (n - 3 + 1) > 10 then 1 + 2 * (n - 3 + 1) else 10) ≤ 10000000000000000000 := by
    split <;> omega
  exact ⟨a, b, c, d, m.1, m.2, fun l h => by cases h; omega⟩
theorem lmb12 {n : Int} (h9 : 9 ≤ n) (hn : n ≤ 2000000000) : LM "pairs" (.int 4) n (some (4)) (if 3 + 3 * (n - 4 + 1) > 21 then 3 + 3 * (n - 4 + 1) else 21) := by
  have f0 : (n < 0) = False := eq_false (by omega)
  have g0 : (n ≤ 0) = False := eq_false (by omega)
  have f1 : (n < 1) = False := eq_false (by omega)
  have g1 : (n ≤ 1) = False := eq_false (by omega)
  have f2 : (n < 2) = False := eq_false (by omega)
  have g2 : (n ≤ 2) = False := eq_false (by omega)
  have f3 : (n < 3) = False := eq_false (by omega)
  have g3 : (n ≤ 3) = False := eq_false (by omega)
  have f4 : (n < 4) = False := eq_false (by omega)
  have g4 : (n ≤ 4) = False := eq_false (by omega)
  have f5 : (n < 5) = False := eq_false (by omega)
  have g5 : (n ≤ 5) = False := eq_false (by omega)
  have f6 : (n < 6) = False := eq_false (by omega)
  have g6 : (n ≤ 6) = False := eq_false (by omega)
  have f7 : (n < 7) = False := eq_false (by omega)
  have g7 : (n ≤ 7) = False := eq_false (by omega)
  have f8 : (n < 8) = False := eq_false (by omega)
  have g8 : (n ≤ 8) = False := eq_false (by omega)
  have e0 : (n = 0) = False := eq_false (by omega)
  have h21 : ((2 : Int) = 1) = False := eq_false (by decide)
  have h31 : ((3 : Int) = 1) = False := eq_false (by decide)
  have h41 : ((4 : Int) = 1) = False := eq_false (by decide)
  have fw : ∀ S, w__law_fewest [.str "pairs", .int 4] S = some (.int 8, S) := fun S => by kernel_rfl
  have fp : ∀ S, w_fewest_people [.str "pairs", .int 4] S = some (.int 8, S) := fun S => by kernel_rfl
  have a : ∀ S, w_least_of [.str "pairs", .int 4, .int n] S = some (.int (4), S) := by
    intro S
    refine Qr_iff.mpr ?_ |> R.eq
    unfold w_least_of d_least_of b_least_of
    push_cast [in4_0, in4_1, in4_2, in4_3, in4_4, in4_5, fw, fp, h21, h31, h41, w_most_groups, d_most_groups, b_most_groups, w_most_rings, d_most_rings, b_most_rings, w_most_pairs, d_most_pairs, b_most_pairs, w_is_all_tied, d_is_all_tied, b_is_all_tied, w_pairs_of, d_pairs_of, b_pairs_of, w__law_two, d__law_two, b__law_two, f0, g0, f1, g1, f2, g2, f3, g3, f4, g4, f5, g5, f6, g6, f7, g7, f8, g8, e0, Int.reduceMul, Int.reduceSub, Int.reduceAdd]
    all_goals ((repeat' apply And.intro) <;> first | rfl | decide | exact lg_lit (by omega) (by omega) | exact small_two (by omega) (by omega) | (refine small_lit ?_ ?_ <;> omega) | trace_state)
  have b : ∀ S, w__law_least [.str "pairs", .int 4, .int n] S = some (.int (4), S) := by
    intro S
    refine Qr_iff.mpr ?_ |> R.eq
    unfold w__law_least d__law_least b__law_least
    push_cast [in4_0, in4_1, in4_2, in4_3, in4_4, in4_5, fw, fp, h21, h31, h41, w_most_groups, d_most_groups, b_most_groups, w_most_rings, d_most_rings, b_most_rings, w_most_pairs, d_most_pairs, b_most_pairs, w_is_all_tied, d_is_all_tied, b_is_all_tied, w_pairs_of, d_pairs_of, b_pairs_of, w__law_two, d__law_two, b__law_two, f0, g0, f1, g1, f2, g2, f3, g3, f4, g4, f5, g5, f6, g6, f7, g7, f8, g8, e0, Int.reduceMul, Int.reduceSub, Int.reduceAdd]
    all_goals ((repeat' apply And.intro) <;> first | rfl | decide | exact lg_lit (by omega) (by omega) | exact small_two (by omega) (by omega) | (refine small_lit ?_ ?_ <;> omega) | trace_state)
  have c : ∀ S, w_most_of [.str "pairs", .int 4, .int n] S = some (.int (if 3 + 3 * (n - 4 + 1) > 21 then 3 + 3 * (n - 4 + 1) else 21), S) := by
    intro S
    refine Qr_iff.mpr ?_ |> R.eq
    unfold w_most_of d_most_of b_most_of
    push_cast [in4_0, in4_1, in4_2, in4_3, in4_4, in4_5, fw, fp, h21, h31, h41, w_most_groups, d_most_groups, b_most_groups, w_most_rings, d_most_rings, b_most_rings, w_most_pairs, d_most_pairs, b_most_pairs, w_is_all_tied, d_is_all_tied, b_is_all_tied, w_pairs_of, d_pairs_of, b_pairs_of, w__law_two, d__law_two, b__law_two, f0, g0, f1, g1, f2, g2, f3, g3, f4, g4, f5, g5, f6, g6, f7, g7, f8, g8, e0, Int.reduceMul, Int.reduceSub, Int.reduceAdd]
    all_goals ((repeat' apply And.intro) <;> first | rfl | decide | exact lg_lit (by omega) (by omega) | exact small_two (by omega) (by omega) | (refine small_lit ?_ ?_ <;> omega) | trace_state)
  have d : ∀ S, w__law_most [.str "pairs", .int 4, .int n] S = some (.int (if 3 + 3 * (n - 4 + 1) > 21 then 3 + 3 * (n - 4 + 1) else 21), S) := by
    intro S
    refine Qr_iff.mpr ?_ |> R.eq
    unfold w__law_most d__law_most b__law_most
    push_cast [in4_0, in4_1, in4_2, in4_3, in4_4, in4_5, fw, fp, h21, h31, h41, w_most_groups, d_most_groups, b_most_groups, w_most_rings, d_most_rings, b_most_rings, w_most_pairs, d_most_pairs, b_most_pairs, w_is_all_tied, d_is_all_tied, b_is_all_tied, w_pairs_of, d_pairs_of, b_pairs_of, w__law_two, d__law_two, b__law_two, f0, g0, f1, g1, f2, g2, f3, g3, f4, g4, f5, g5, f6, g6, f7, g7, f8, g8, e0, Int.reduceMul, Int.reduceSub, Int.reduceAdd]
    all_goals ((repeat' apply And.intro) <;> first | rfl | decide | exact lg_lit (by omega) (by omega) | exact small_two (by omega) (by omega) | (refine small_lit ?_ ?_ <;> omega) | trace_state)
  have m : 0 ≤ (if 3 + 3 * (n - 4 + 1) > 21 then 3 + 3 * (n - 4 + 1) else 21) ∧ (if 3 + 3 * (n - 4 + 1) > 21 then 3 + 3 * (n - 4 + 1) else 21) ≤ 10000000000000000000 := by
    split <;> omega
  exact ⟨a, b, c, d, m.1, m.2, fun l h => by cases h; omega⟩
theorem lmb13 {n : Int} (h9 : 9 ≤ n) (hn : n ≤ 2000000000) : LM "row" (.int 2) n (some (1)) (n / 1 * 0 + n % 1 * (n % 1 - 1) / 2) := by
  have f0 : (n < 0) = False := eq_false (by omega)
  have g0 : (n ≤ 0) = False := eq_false (by omega)
  have f1 : (n < 1) = False := eq_false (by omega)
  have g1 : (n ≤ 1) = False := eq_false (by omega)
  have f2 : (n < 2) = False := eq_false (by omega)
  have g2 : (n ≤ 2) = False := eq_false (by omega)
  have f3 : (n < 3) = False := eq_false (by omega)
  have g3 : (n ≤ 3) = False := eq_false (by omega)
  have f4 : (n < 4) = False := eq_false (by omega)
  have g4 : (n ≤ 4) = False := eq_false (by omega)
  have f5 : (n < 5) = False := eq_false (by omega)
  have g5 : (n ≤ 5) = False := eq_false (by omega)
  have f6 : (n < 6) = False := eq_false (by omega)
  have g6 : (n ≤ 6) = False := eq_false (by omega)
  have f7 : (n < 7) = False := eq_false (by omega)
  have g7 : (n ≤ 7) = False := eq_false (by omega)
  have f8 : (n < 8) = False := eq_false (by omega)
  have g8 : (n ≤ 8) = False := eq_false (by omega)
  have e0 : (n = 0) = False := eq_false (by omega)
  have h21 : ((2 : Int) = 1) = False := eq_false (by decide)
  have h31 : ((3 : Int) = 1) = False := eq_false (by decide)
  have h41 : ((4 : Int) = 1) = False := eq_false (by decide)
  have fw : ∀ S, w__law_fewest [.str "row", .int 2] S = some (.int 2, S) := fun S => by kernel_rfl
  have fp : ∀ S, w_fewest_people [.str "row", .int 2] S = some (.int 2, S) := fun S => by kernel_rfl
  have a : ∀ S, w_least_of [.str "row", .int 2, .int n] S = some (.int (1), S) := by
    intro S
    refine Qr_iff.mpr ?_ |> R.eq
    unfold w_least_of d_least_of b_least_of
    push_cast [in5_0, in5_1, in5_2, in5_3, in5_4, in5_5, fw, fp, h21, h31, h41, w_most_groups, d_most_groups, b_most_groups, w_most_rings, d_most_rings, b_most_rings, w_most_pairs, d_most_pairs, b_most_pairs, w_is_all_tied, d_is_all_tied, b_is_all_tied, w_pairs_of, d_pairs_of, b_pairs_of, w__law_two, d__law_two, b__law_two, f0, g0, f1, g1, f2, g2, f3, g3, f4, g4, f5, g5, f6, g6, f7, g7, f8, g8, e0, Int.reduceMul, Int.reduceSub, Int.reduceAdd]
    all_goals ((repeat' apply And.intro) <;> first | rfl | decide | exact lg_lit (by omega) (by omega) | exact small_two (by omega) (by omega) | (refine small_lit ?_ ?_ <;> omega) | trace_state)
  have b : ∀ S, w__law_least [.str "row", .int 2, .int n] S = some (.int (1), S) := by
    intro S
    refine Qr_iff.mpr ?_ |> R.eq
    unfold w__law_least d__law_least b__law_least
    push_cast [in5_0, in5_1, in5_2, in5_3, in5_4, in5_5, fw, fp, h21, h31, h41, w_most_groups, d_most_groups, b_most_groups, w_most_rings, d_most_rings, b_most_rings, w_most_pairs, d_most_pairs, b_most_pairs, w_is_all_tied, d_is_all_tied, b_is_all_tied, w_pairs_of, d_pairs_of, b_pairs_of, w__law_two, d__law_two, b__law_two, f0, g0, f1, g1, f2, g2, f3, g3, f4, g4, f5, g5, f6, g6, f7, g7, f8, g8, e0, Int.reduceMul, Int.reduceSub, Int.reduceAdd]
    all_goals ((repeat' apply And.intro) <;> first | rfl | decide | exact lg_lit (by omega) (by omega) | exact small_two (by omega) (by omega) | (refine small_lit ?_ ?_ <;> omega) | trace_state)
  have c : ∀ S, w_most_of [.str "row", .int 2, .int n] S = some (.int (n / 1 * 0 + n % 1 * (n % 1 - 1) / 2), S) := by
    intro S
    refine Qr_iff.mpr ?_ |> R.eq
    unfold w_most_of d_most_of b_most_of
    push_cast [in5_0, in5_1, in5_2, in5_3, in5_4, in5_5, fw, fp, h21, h31, h41, w_most_groups, d_most_groups, b_most_groups, w_most_rings, d_most_rings, b_most_rings, w_most_pairs, d_most_pairs, b_most_pairs, w_is_all_tied, d_is_all_tied, b_is_all_tied, w_pairs_of, d_pairs_of, b_pairs_of, w__law_two, d__law_two, b__law_two, f0, g0, f1, g1, f2, g2, f3, g3, f4, g4, f5, g5, f6, g6, f7, g7, f8, g8, e0, Int.reduceMul, Int.reduceSub, Int.reduceAdd]
    all_goals ((repeat' apply And.intro) <;> first | rfl | decide | exact lg_lit (by omega) (by omega) | exact small_two (by omega) (by omega) | (refine small_lit ?_ ?_ <;> omega) | trace_state)
  have d : ∀ S, w__law_most [.str "row", .int 2, .int n] S = some (.int (n / 1 * 0 + n % 1 * (n % 1 - 1) / 2), S) := by
    intro S
    refine Qr_iff.mpr ?_ |> R.eq
    unfold w__law_most d__law_most b__law_most
    push_cast [in5_0, in5_1, in5_2, in5_3, in5_4, in5_5, fw, fp, h21, h31, h41, w_most_groups, d_most_groups, b_most_groups, w_most_rings, d_most_rings, b_most_rings, w_most_pairs, d_most_pairs, b_most_pairs, w_is_all_tied, d_is_all_tied, b_is_all_tied, w_pairs_of, d_pairs_of, b_pairs_of, w__law_two, d__law_two, b__law_two, f0, g0, f1, g1, f2, g2, f3, g3, f4, g4, f5, g5, f6, g6, f7, g7, f8, g8, e0, Int.reduceMul, Int.reduceSub, Int.reduceAdd]
    all_goals ((repeat' apply And.intro) <;> first | rfl | decide | exact lg_lit (by omega) (by omega) | exact small_two (by omega) (by omega) | (refine small_lit ?_ ?_ <;> omega) | trace_state)
  have m : 0 ≤ n / 1 * 0 + n % 1 * (n % 1 - 1) / 2 ∧ n / 1 * 0 + n % 1 * (n % 1 - 1) / 2 ≤ 10000000000000000000 := by
    rw [Int.emod_one]
    omega
  exact ⟨a, b, c, d, m.1, m.2, fun l h => by cases h; omega⟩
theorem lmb14 {n : Int} (h9 : 9 ≤ n) (hn : n ≤ 2000000000) : LM "row" (.int 3) n (some (2)) (n / 2 * 1 + n % 2 * (n % 2 - 1) / 2) := by
  have f0 : (n < 0) = False := eq_false (by omega)
  have g0 : (n ≤ 0) = False := eq_false (by omega)
  have f1 : (n < 1) = False := eq_false (by omega)
  have g1 : (n ≤ 1) = False := eq_false (by omega)
  have f2 : (n < 2) = False := eq_false (by omega)
  have g2 : (n ≤ 2) = False := eq_false (by omega)
  have f3 : (n < 3) = False := eq_false (by omega)
  have g3 : (n ≤ 3) = False := eq_false (by omega)
  have f4 : (n < 4) = False := eq_false (by omega)
  have g4 : (n ≤ 4) = False := eq_false (by omega)
  have f5 : (n < 5) = False := eq_false (by omega)
  have g5 : (n ≤ 5) = False := eq_false (by omega)
  have f6 : (n < 6) = False := eq_false (by omega)
  have g6 : (n ≤ 6) = False := eq_false (by omega)
  have f7 : (n < 7) = False := eq_false (by omega)
  have g7 : (n ≤ 7) = False := eq_false (by omega)
  have f8 : (n < 8) = False := eq_false (by omega)
  have g8 : (n ≤ 8) = False := eq_false (by omega)
  have e0 : (n = 0) = False := eq_false (by omega)
  have h21 : ((2 : Int) = 1) = False := eq_false (by decide)
  have h31 : ((3 : Int) = 1) = False := eq_false (by decide)
  have h41 : ((4 : Int) = 1) = False := eq_false (by decide)
  have fw : ∀ S, w__law_fewest [.str "row", .int 3] S = some (.int 3, S) := fun S => by kernel_rfl
  have fp : ∀ S, w_fewest_people [.str "row", .int 3] S = some (.int 3, S) := fun S => by kernel_rfl
  have a : ∀ S, w_least_of [.str "row", .int 3, .int n] S = some (.int (2), S) := by
    intro S
    refine Qr_iff.mpr ?_ |> R.eq
    unfold w_least_of d_least_of b_least_of
    push_cast [in5_0, in5_1, in5_2, in5_3, in5_4, in5_5, fw, fp, h21, h31, h41, w_most_groups, d_most_groups, b_most_groups, w_most_rings, d_most_rings, b_most_rings, w_most_pairs, d_most_pairs, b_most_pairs, w_is_all_tied, d_is_all_tied, b_is_all_tied, w_pairs_of, d_pairs_of, b_pairs_of, w__law_two, d__law_two, b__law_two, f0, g0, f1, g1, f2, g2, f3, g3, f4, g4, f5, g5, f6, g6, f7, g7, f8, g8, e0, Int.reduceMul, Int.reduceSub, Int.reduceAdd]
    all_goals ((repeat' apply And.intro) <;> first | rfl | decide | exact lg_lit (by omega) (by omega) | exact small_two (by omega) (by omega) | (refine small_lit ?_ ?_ <;> omega) | trace_state)
  have b : ∀ S, w__law_least [.str "row", .int 3, .int n] S = some (.int (2), S) := by
    intro S
    refine Qr_iff.mpr ?_ |> R.eq
    unfold w__law_least d__law_least b__law_least
    push_cast [in5_0, in5_1, in5_2, in5_3, in5_4, in5_5, fw, fp, h21, h31, h41, w_most_groups, d_most_groups, b_most_groups, w_most_rings, d_most_rings, b_most_rings, w_most_pairs, d_most_pairs, b_most_pairs, w_is_all_tied, d_is_all_tied, b_is_all_tied, w_pairs_of, d_pairs_of, b_pairs_of, w__law_two, d__law_two, b__law_two, f0, g0, f1, g1, f2, g2, f3, g3, f4, g4, f5, g5, f6, g6, f7, g7, f8, g8, e0, Int.reduceMul, Int.reduceSub, Int.reduceAdd]
    all_goals ((repeat' apply And.intro) <;> first | rfl | decide | exact lg_lit (by omega) (by omega) | exact small_two (by omega) (by omega) | (refine small_lit ?_ ?_ <;> omega) | trace_state)
  have c : ∀ S, w_most_of [.str "row", .int 3, .int n] S = some (.int (n / 2 * 1 + n % 2 * (n % 2 - 1) / 2), S) := by
    intro S
    refine Qr_iff.mpr ?_ |> R.eq
    unfold w_most_of d_most_of b_most_of
    push_cast [in5_0, in5_1, in5_2, in5_3, in5_4, in5_5, fw, fp, h21, h31, h41, w_most_groups, d_most_groups, b_most_groups, w_most_rings, d_most_rings, b_most_rings, w_most_pairs, d_most_pairs, b_most_pairs, w_is_all_tied, d_is_all_tied, b_is_all_tied, w_pairs_of, d_pairs_of, b_pairs_of, w__law_two, d__law_two, b__law_two, f0, g0, f1, g1, f2, g2, f3, g3, f4, g4, f5, g5, f6, g6, f7, g7, f8, g8, e0, Int.reduceMul, Int.reduceSub, Int.reduceAdd]
    all_goals ((repeat' apply And.intro) <;> first | rfl | decide | exact lg_lit (by omega) (by omega) | exact small_two (by omega) (by omega) | (refine small_lit ?_ ?_ <;> omega) | trace_state)
  have d : ∀ S, w__law_most [.str "row", .int 3, .int n] S = some (.int (n / 2 * 1 + n % 2 * (n % 2 - 1) / 2), S) := by
    intro S
    refine Qr_iff.mpr ?_ |> R.eq
    unfold w__law_most d__law_most b__law_most
    push_cast [in5_0, in5_1, in5_2, in5_3, in5_4, in5_5, fw, fp, h21, h31, h41, w_most_groups, d_most_groups, b_most_groups, w_most_rings, d_most_rings, b_most_rings, w_most_pairs, d_most_pairs, b_most_pairs, w_is_all_tied, d_is_all_tied, b_is_all_tied, w_pairs_of, d_pairs_of, b_pairs_of, w__law_two, d__law_two, b__law_two, f0, g0, f1, g1, f2, g2, f3, g3, f4, g4, f5, g5, f6, g6, f7, g7, f8, g8, e0, Int.reduceMul, Int.reduceSub, Int.reduceAdd]
    all_goals ((repeat' apply And.intro) <;> first | rfl | decide | exact lg_lit (by omega) (by omega) | exact small_two (by omega) (by omega) | (refine small_lit ?_ ?_ <;> omega) | trace_state)
  have m : 0 ≤ n / 2 * 1 + n % 2 * (n % 2 - 1) / 2 ∧ n / 2 * 1 + n % 2 * (n % 2 - 1) / 2 ≤ 10000000000000000000 := by
    have hr2 : n % 2 = 0 ∨ n % 2 = 1 := by omega
    rcases hr2 with h | h
    · rw [h]
      omega
    · rw [h]
      omega
  exact ⟨a, b, c, d, m.1, m.2, fun l h => by cases h; omega⟩
theorem lmb15 {n : Int} (h9 : 9 ≤ n) (hn : n ≤ 2000000000) : LM "row" (.int 4) n (some (3)) (n / 3 * 3 + n % 3 * (n % 3 - 1) / 2) := by
  have f0 : (n < 0) = False := eq_false (by omega)
  have g0 : (n ≤ 0) = False := eq_false (by omega)
  have f1 : (n < 1) = False := eq_false (by omega)
  have g1 : (n ≤ 1) = False := eq_false (by omega)
  have f2 : (n < 2) = False := eq_false (by omega)
  have g2 : (n ≤ 2) = False := eq_false (by omega)
  have f3 : (n < 3) = False := eq_false (by omega)
  have g3 : (n ≤ 3) = False := eq_false (by omega)
  have f4 : (n < 4) = False := eq_false (by omega)
  have g4 : (n ≤ 4) = False := eq_false (by omega)
  have f5 : (n < 5) = False := eq_false (by omega)
  have g5 : (n ≤ 5) = False := eq_false (by omega)
  have f6 : (n < 6) = False := eq_false (by omega)
  have g6 : (n ≤ 6) = False := eq_false (by omega)
  have f7 : (n < 7) = False := eq_false (by omega)
  have g7 : (n ≤ 7) = False := eq_false (by omega)
  have f8 : (n < 8) = False := eq_false (by omega)
  have g8 : (n ≤ 8) = False := eq_false (by omega)
  have e0 : (n = 0) = False := eq_false (by omega)
  have h21 : ((2 : Int) = 1) = False := eq_false (by decide)
  have h31 : ((3 : Int) = 1) = False := eq_false (by decide)
  have h41 : ((4 : Int) = 1) = False := eq_false (by decide)
  have fw : ∀ S, w__law_fewest [.str "row", .int 4] S = some (.int 4, S) := fun S => by kernel_rfl
  have fp : ∀ S, w_fewest_people [.str "row", .int 4] S = some (.int 4, S) := fun S => by kernel_rfl
  have a : ∀ S, w_least_of [.str "row", .int 4, .int n] S = some (.int (3), S) := by
    intro S
    refine Qr_iff.mpr ?_ |> R.eq
    unfold w_least_of d_least_of b_least_of
    push_cast [in5_0, in5_1, in5_2, in5_3, in5_4, in5_5, fw, fp, h21, h31, h41, w_most_groups, d_most_groups, b_most_groups, w_most_rings, d_most_rings, b_most_rings, w_most_pairs, d_most_pairs, b_most_pairs, w_is_all_tied, d_is_all_tied, b_is_all_tied, w_pairs_of, d_pairs_of, b_pairs_of, w__law_two, d__law_two, b__law_two, f0, g0, f1, g1, f2, g2, f3, g3, f4, g4, f5, g5, f6, g6, f7, g7, f8, g8, e0, Int.reduceMul, Int.reduceSub, Int.reduceAdd]
    all_goals ((repeat' apply And.intro) <;> first | rfl | decide | exact lg_lit (by omega) (by omega) | exact small_two (by omega) (by omega) | (refine small_lit ?_ ?_ <;> omega) | trace_state)
  have b : ∀ S, w__law_least [.str "row", .int 4, .int n] S = some (.int (3), S) := by
    intro S
    refine Qr_iff.mpr ?_ |> R.eq
    unfold w__law_least d__law_least b__law_least
    push_cast [in5_0, in5_1, in5_2, in5_3, in5_4, in5_5, fw, fp, h21, h31, h41, w_most_groups, d_most_groups, b_most_groups, w_most_rings, d_most_rings, b_most_rings, w_most_pairs, d_most_pairs, b_most_pairs, w_is_all_tied, d_is_all_tied, b_is_all_tied, w_pairs_of, d_pairs_of, b_pairs_of, w__law_two, d__law_two, b__law_two, f0, g0, f1, g1, f2, g2, f3, g3, f4, g4, f5, g5, f6, g6, f7, g7, f8, g8, e0, Int.reduceMul, Int.reduceSub, Int.reduceAdd]
    all_goals ((repeat' apply And.intro) <;> first | rfl | decide | exact lg_lit (by omega) (by omega) | exact small_two (by omega) (by omega) | (refine small_lit ?_ ?_ <;> omega) | trace_state)
  have c : ∀ S, w_most_of [.str "row", .int 4, .int n] S = some (.int (n / 3 * 3 + n % 3 * (n % 3 - 1) / 2), S) := by
    intro S
    refine Qr_iff.mpr ?_ |> R.eq
    unfold w_most_of d_most_of b_most_of
    push_cast [in5_0, in5_1, in5_2, in5_3, in5_4, in5_5, fw, fp, h21, h31, h41, w_most_groups, d_most_groups, b_most_groups, w_most_rings, d_most_rings, b_most_rings, w_most_pairs, d_most_pairs, b_most_pairs, w_is_all_tied, d_is_all_tied, b_is_all_tied, w_pairs_of, d_pairs_of, b_pairs_of, w__law_two, d__law_two, b__law_two, f0, g0, f1, g1, f2, g2, f3, g3, f4, g4, f5, g5, f6, g6, f7, g7, f8, g8, e0, Int.reduceMul, Int.reduceSub, Int.reduceAdd]
    all_goals ((repeat' apply And.intro) <;> first | rfl | decide | exact lg_lit (by omega) (by omega) | exact small_two (by omega) (by omega) | (refine small_lit ?_ ?_ <;> omega) | trace_state)
  have d : ∀ S, w__law_most [.str "row", .int 4, .int n] S = some (.int (n / 3 * 3 + n % 3 * (n % 3 - 1) / 2), S) := by
    intro S
    refine Qr_iff.mpr ?_ |> R.eq
    unfold w__law_most d__law_most b__law_most
    push_cast [in5_0, in5_1, in5_2, in5_3, in5_4, in5_5, fw, fp, h21, h31, h41, w_most_groups, d_most_groups, b_most_groups, w_most_rings, d_most_rings, b_most_rings, w_most_pairs, d_most_pairs, b_most_pairs, w_is_all_tied, d_is_all_tied, b_is_all_tied, w_pairs_of, d_pairs_of, b_pairs_of, w__law_two, d__law_two, b__law_two, f0, g0, f1, g1, f2, g2, f3, g3, f4, g4, f5, g5, f6, g6, f7, g7, f8, g8, e0, Int.reduceMul, Int.reduceSub, Int.reduceAdd]
    all_goals ((repeat' apply And.intro) <;> first | rfl | decide | exact lg_lit (by omega) (by omega) | exact small_two (by omega) (by omega) | (refine small_lit ?_ ?_ <;> omega) | trace_state)
  have m : 0 ≤ n / 3 * 3 + n % 3 * (n % 3 - 1) / 2 ∧ n / 3 * 3 + n % 3 * (n % 3 - 1) / 2 ≤ 10000000000000000000 := by
    have hr2 : n % 3 = 0 ∨ n % 3 = 1 ∨ n % 3 = 2 := by omega
    rcases hr2 with h | h | h
    · rw [h]
      omega
    · rw [h]
      omega
    · rw [h]
      omega
  exact ⟨a, b, c, d, m.1, m.2, fun l h => by cases h; omega⟩
theorem lmb16 {n : Int} (h9 : 9 ≤ n) (hn : n ≤ 2000000000) : LM "ring" (.int 3) n (some (3)) ((n - 1) / 1 * 1 + ((n - 1) % 1 + 1) * ((n - 1) % 1 + 1 - 1) / 2) := by
  have f0 : (n < 0) = False := eq_false (by omega)
  have g0 : (n ≤ 0) = False := eq_false (by omega)
  have f1 : (n < 1) = False := eq_false (by omega)
  have g1 : (n ≤ 1) = False := eq_false (by omega)
  have f2 : (n < 2) = False := eq_false (by omega)
  have g2 : (n ≤ 2) = False := eq_false (by omega)
  have f3 : (n < 3) = False := eq_false (by omega)
  have g3 : (n ≤ 3) = False := eq_false (by omega)
  have f4 : (n < 4) = False := eq_false (by omega)
  have g4 : (n ≤ 4) = False := eq_false (by omega)
  have f5 : (n < 5) = False := eq_false (by omega)
  have g5 : (n ≤ 5) = False := eq_false (by omega)
  have f6 : (n < 6) = False := eq_false (by omega)
  have g6 : (n ≤ 6) = False := eq_false (by omega)
  have f7 : (n < 7) = False := eq_false (by omega)
  have g7 : (n ≤ 7) = False := eq_false (by omega)
  have f8 : (n < 8) = False := eq_false (by omega)
  have g8 : (n ≤ 8) = False := eq_false (by omega)
  have e0 : (n = 0) = False := eq_false (by omega)
  have h21 : ((2 : Int) = 1) = False := eq_false (by decide)
  have h31 : ((3 : Int) = 1) = False := eq_false (by decide)
  have h41 : ((4 : Int) = 1) = False := eq_false (by decide)
  have fw : ∀ S, w__law_fewest [.str "ring", .int 3] S = some (.int 3, S) := fun S => by kernel_rfl
  have fp : ∀ S, w_fewest_people [.str "ring", .int 3] S = some (.int 3, S) := fun S => by kernel_rfl
  have rz : ∀ S, w_ring_size [.str "ring", .int 3] S = some (.int 3, S) := fun S => by kernel_rfl
  have a : ∀ S, w_least_of [.str "ring", .int 3, .int n] S = some (.int (3), S) := by
    intro S
    refine Qr_iff.mpr ?_ |> R.eq
    unfold w_least_of d_least_of b_least_of
    push_cast [in6_0, in6_1, in6_2, in6_3, in6_4, in6_5, fw, fp, h21, h31, h41, rz, w_most_groups, d_most_groups, b_most_groups, w_most_rings, d_most_rings, b_most_rings, w_most_pairs, d_most_pairs, b_most_pairs, w_is_all_tied, d_is_all_tied, b_is_all_tied, w_pairs_of, d_pairs_of, b_pairs_of, w__law_two, d__law_two, b__law_two, f0, g0, f1, g1, f2, g2, f3, g3, f4, g4, f5, g5, f6, g6, f7, g7, f8, g8, e0, Int.reduceMul, Int.reduceSub, Int.reduceAdd]
    all_goals ((repeat' apply And.intro) <;> first | rfl | decide | exact lg_lit (by omega) (by omega) | exact small_two (by omega) (by omega) | (refine small_lit ?_ ?_ <;> omega) | trace_state)
  have b : ∀ S, w__law_least [.str "ring", .int 3, .int n] S = some (.int (3), S) := by
    intro S
    refine Qr_iff.mpr ?_ |> R.eq
    unfold w__law_least d__law_least b__law_least
    push_cast [in6_0, in6_1, in6_2, in6_3, in6_4, in6_5, fw, fp, h21, h31, h41, rz, w_most_groups, d_most_groups, b_most_groups, w_most_rings, d_most_rings, b_most_rings, w_most_pairs, d_most_pairs, b_most_pairs, w_is_all_tied, d_is_all_tied, b_is_all_tied, w_pairs_of, d_pairs_of, b_pairs_of, w__law_two, d__law_two, b__law_two, f0, g0, f1, g1, f2, g2, f3, g3, f4, g4, f5, g5, f6, g6, f7, g7, f8, g8, e0, Int.reduceMul, Int.reduceSub, Int.reduceAdd]
    all_goals ((repeat' apply And.intro) <;> first | rfl | decide | exact lg_lit (by omega) (by omega) | exact small_two (by omega) (by omega) | (refine small_lit ?_ ?_ <;> omega) | trace_state)
  have c : ∀ S, w_most_of [.str "ring", .int 3, .int n] S = some (.int ((n - 1) / 1 * 1 + ((n - 1) % 1 + 1) * ((n - 1) % 1 + 1 - 1) / 2), S) := by
    intro S
    refine Qr_iff.mpr ?_ |> R.eq
    unfold w_most_of d_most_of b_most_of
    push_cast [in6_0, in6_1, in6_2, in6_3, in6_4, in6_5, fw, fp, h21, h31, h41, rz, w_most_groups, d_most_groups, b_most_groups, w_most_rings, d_most_rings, b_most_rings, w_most_pairs, d_most_pairs, b_most_pairs, w_is_all_tied, d_is_all_tied, b_is_all_tied, w_pairs_of, d_pairs_of, b_pairs_of, w__law_two, d__law_two, b__law_two, f0, g0, f1, g1, f2, g2, f3, g3, f4, g4, f5, g5, f6, g6, f7, g7, f8, g8, e0, Int.reduceMul, Int.reduceSub, Int.reduceAdd]
    all_goals ((repeat' apply And.intro) <;> first | rfl | decide | exact lg_lit (by omega) (by omega) | exact small_two (by omega) (by omega) | (refine small_lit ?_ ?_ <;> omega) | trace_state)
  have d : ∀ S, w__law_most [.str "ring", .int 3, .int n] S = some (.int ((n - 1) / 1 * 1 + ((n - 1) % 1 + 1) * ((n - 1) % 1 + 1 - 1) / 2), S) := by
    intro S
    refine Qr_iff.mpr ?_ |> R.eq
    unfold w__law_most d__law_most b__law_most
    push_cast [in6_0, in6_1, in6_2, in6_3, in6_4, in6_5, fw, fp, h21, h31, h41, rz, w_most_groups, d_most_groups, b_most_groups, w_most_rings, d_most_rings, b_most_rings, w_most_pairs, d_most_pairs, b_most_pairs, w_is_all_tied, d_is_all_tied, b_is_all_tied, w_pairs_of, d_pairs_of, b_pairs_of, w__law_two, d__law_two, b__law_two, f0, g0, f1, g1, f2, g2, f3, g3, f4, g4, f5, g5, f6, g6, f7, g7, f8, g8, e0, Int.reduceMul, Int.reduceSub, Int.reduceAdd]
    all_goals ((repeat' apply And.intro) <;> first | rfl | decide | exact lg_lit (by omega) (by omega) | exact small_two (by omega) (by omega) | (refine small_lit ?_ ?_ <;> omega) | trace_state)
  have m : 0 ≤ (n - 1) / 1 * 1 + ((n - 1) % 1 + 1) * ((n - 1) % 1 + 1 - 1) / 2 ∧ (n - 1) / 1 * 1 + ((n - 1) % 1 + 1) * ((n - 1) % 1 + 1 - 1) / 2 ≤ 10000000000000000000 := by
    rw [Int.emod_one]
    omega
  exact ⟨a, b, c, d, m.1, m.2, fun l h => by cases h; omega⟩
theorem lmb17 {n : Int} (h9 : 9 ≤ n) (hn : n ≤ 2000000000) : LM "ring" (.int 4) n (some (4)) ((n - 1) / 2 * 3 + ((n - 1) % 2 + 1) * ((n - 1) % 2 + 1 - 1) / 2) := by
  have f0 : (n < 0) = False := eq_false (by omega)
  have g0 : (n ≤ 0) = False := eq_false (by omega)
  have f1 : (n < 1) = False := eq_false (by omega)
  have g1 : (n ≤ 1) = False := eq_false (by omega)
  have f2 : (n < 2) = False := eq_false (by omega)
  have g2 : (n ≤ 2) = False := eq_false (by omega)
  have f3 : (n < 3) = False := eq_false (by omega)
  have g3 : (n ≤ 3) = False := eq_false (by omega)
  have f4 : (n < 4) = False := eq_false (by omega)
  have g4 : (n ≤ 4) = False := eq_false (by omega)
  have f5 : (n < 5) = False := eq_false (by omega)
  have g5 : (n ≤ 5) = False := eq_false (by omega)
  have f6 : (n < 6) = False := eq_false (by omega)
  have g6 : (n ≤ 6) = False := eq_false (by omega)
  have f7 : (n < 7) = False := eq_false (by omega)
  have g7 : (n ≤ 7) = False := eq_false (by omega)
  have f8 : (n < 8) = False := eq_false (by omega)
  have g8 : (n ≤ 8) = False := eq_false (by omega)
  have e0 : (n = 0) = False := eq_false (by omega)
  have h21 : ((2 : Int) = 1) = False := eq_false (by decide)
  have h31 : ((3 : Int) = 1) = False := eq_false (by decide)
  have h41 : ((4 : Int) = 1) = False := eq_false (by decide)
  have fw : ∀ S, w__law_fewest [.str "ring", .int 4] S = some (.int 4, S) := fun S => by kernel_rfl
  have fp : ∀ S, w_fewest_people [.str "ring", .int 4] S = some (.int 4, S) := fun S => by kernel_rfl
  have rz : ∀ S, w_ring_size [.str "ring", .int 4] S = some (.int 4, S) := fun S => by kernel_rfl
  have a : ∀ S, w_least_of [.str "ring", .int 4, .int n] S = some (.int (4), S) := by
    intro S
    refine Qr_iff.mpr ?_ |> R.eq
    unfold w_least_of d_least_of b_least_of
    push_cast [in6_0, in6_1, in6_2, in6_3, in6_4, in6_5, fw, fp, h21, h31, h41, rz, w_most_groups, d_most_groups, b_most_groups, w_most_rings, d_most_rings, b_most_rings, w_most_pairs, d_most_pairs, b_most_pairs, w_is_all_tied, d_is_all_tied, b_is_all_tied, w_pairs_of, d_pairs_of, b_pairs_of, w__law_two, d__law_two, b__law_two, f0, g0, f1, g1, f2, g2, f3, g3, f4, g4, f5, g5, f6, g6, f7, g7, f8, g8, e0, Int.reduceMul, Int.reduceSub, Int.reduceAdd]
    all_goals ((repeat' apply And.intro) <;> first | rfl | decide | exact lg_lit (by omega) (by omega) | exact small_two (by omega) (by omega) | (refine small_lit ?_ ?_ <;> omega) | trace_state)
  have b : ∀ S, w__law_least [.str "ring", .int 4, .int n] S = some (.int (4), S) := by
    intro S
    refine Qr_iff.mpr ?_ |> R.eq
    unfold w__law_least d__law_least b__law_least
    push_cast [in6_0, in6_1, in6_2, in6_3, in6_4, in6_5, fw, fp, h21, h31, h41, rz, w_most_groups, d_most_groups, b_most_groups, w_most_rings, d_most_rings, b_most_rings, w_most_pairs, d_most_pairs, b_most_pairs, w_is_all_tied, d_is_all_tied, b_is_all_tied, w_pairs_of, d_pairs_of, b_pairs_of, w__law_two, d__law_two, b__law_two, f0, g0, f1, g1, f2, g2, f3, g3, f4, g4, f5, g5, f6, g6, f7, g7, f8, g8, e0, Int.reduceMul, Int.reduceSub, Int.reduceAdd]
    all_goals ((repeat' apply And.intro) <;> first | rfl | decide | exact lg_lit (by omega) (by omega) | exact small_two (by omega) (by omega) | (refine small_lit ?_ ?_ <;> omega) | trace_state)
  have c : ∀ S, w_most_of [.str "ring", .int 4, .int n] S = some (.int ((n - 1) / 2 * 3 + ((n - 1) % 2 + 1) * ((n - 1) % 2 + 1 - 1) / 2), S) := by
    intro S
    refine Qr_iff.mpr ?_ |> R.eq
    unfold w_most_of d_most_of b_most_of
    push_cast [in6_0, in6_1, in6_2, in6_3, in6_4, in6_5, fw, fp, h21, h31, h41, rz, w_most_groups, d_most_groups, b_most_groups, w_most_rings, d_most_rings, b_most_rings, w_most_pairs, d_most_pairs, b_most_pairs, w_is_all_tied, d_is_all_tied, b_is_all_tied, w_pairs_of, d_pairs_of, b_pairs_of, w__law_two, d__law_two, b__law_two, f0, g0, f1, g1, f2, g2, f3, g3, f4, g4, f5, g5, f6, g6, f7, g7, f8, g8, e0, Int.reduceMul, Int.reduceSub, Int.reduceAdd]
    all_goals ((repeat' apply And.intro) <;> first | rfl | decide | exact lg_lit (by omega) (by omega) | exact small_two (by omega) (by omega) | (refine small_lit ?_ ?_ <;> omega) | trace_state)
  have d : ∀ S, w__law_most [.str "ring", .int 4, .int n] S = some (.int ((n - 1) / 2 * 3 + ((n - 1) % 2 + 1) * ((n - 1) % 2 + 1 - 1) / 2), S) := by
    intro S
    refine Qr_iff.mpr ?_ |> R.eq
    unfold w__law_most d__law_most b__law_most
    push_cast [in6_0, in6_1, in6_2, in6_3, in6_4, in6_5, fw, fp, h21, h31, h41, rz, w_most_groups, d_most_groups, b_most_groups, w_most_rings, d_most_rings, b_most_rings, w_most_pairs, d_most_pairs, b_most_pairs, w_is_all_tied, d_is_all_tied, b_is_all_tied, w_pairs_of, d_pairs_of, b_pairs_of, w__law_two, d__law_two, b__law_two, f0, g0, f1, g1, f2, g2, f3, g3, f4, g4, f5, g5, f6, g6, f7, g7, f8, g8, e0, Int.reduceMul, Int.reduceSub, Int.reduceAdd]
    all_goals ((repeat' apply And.intro) <;> first | rfl | decide | exact lg_lit (by omega) (by omega) | exact small_two (by omega) (by omega) | (refine small_lit ?_ ?_ <;> omega) | trace_state)
  have m : 0 ≤ (n - 1) / 2 * 3 + ((n - 1) % 2 + 1) * ((n - 1) % 2 + 1 - 1) / 2 ∧ (n - 1) / 2 * 3 + ((n - 1) % 2 + 1) * ((n - 1) % 2 + 1 - 1) / 2 ≤ 10000000000000000000 := by
    have hr2 : (n - 1) % 2 = 0 ∨ (n - 1) % 2 = 1 := by omega
    rcases hr2 with h | h
    · rw [h]
      omega
    · rw [h]
      omega
  exact ⟨a, b, c, d, m.1, m.2, fun l h => by cases h; omega⟩
theorem lmb18 {n : Int} (h9 : 9 ≤ n) (hn : n ≤ 2000000000) : LM "core" (.int 1) n (some (1)) (0 * n - 0) := by
  have f0 : (n < 0) = False := eq_false (by omega)
  have g0 : (n ≤ 0) = False := eq_false (by omega)
  have f1 : (n < 1) = False := eq_false (by omega)
  have g1 : (n ≤ 1) = False := eq_false (by omega)
  have f2 : (n < 2) = False := eq_false (by omega)
  have g2 : (n ≤ 2) = False := eq_false (by omega)
  have f3 : (n < 3) = False := eq_false (by omega)
  have g3 : (n ≤ 3) = False := eq_false (by omega)
  have f4 : (n < 4) = False := eq_false (by omega)
  have g4 : (n ≤ 4) = False := eq_false (by omega)
  have f5 : (n < 5) = False := eq_false (by omega)
  have g5 : (n ≤ 5) = False := eq_false (by omega)
  have f6 : (n < 6) = False := eq_false (by omega)
  have g6 : (n ≤ 6) = False := eq_false (by omega)
  have f7 : (n < 7) = False := eq_false (by omega)
  have g7 : (n ≤ 7) = False := eq_false (by omega)
  have f8 : (n < 8) = False := eq_false (by omega)
  have g8 : (n ≤ 8) = False := eq_false (by omega)
  have e0 : (n = 0) = False := eq_false (by omega)
  have h21 : ((2 : Int) = 1) = False := eq_false (by decide)
  have h31 : ((3 : Int) = 1) = False := eq_false (by decide)
  have h41 : ((4 : Int) = 1) = False := eq_false (by decide)
  have fw : ∀ S, w__law_fewest [.str "core", .int 1] S = some (.int 2, S) := fun S => by kernel_rfl
  have fp : ∀ S, w_fewest_people [.str "core", .int 1] S = some (.int 2, S) := fun S => by kernel_rfl
  have a : ∀ S, w_least_of [.str "core", .int 1, .int n] S = some (.int (1), S) := by
    intro S
    refine Qr_iff.mpr ?_ |> R.eq
    unfold w_least_of d_least_of b_least_of
    push_cast [in7_0, in7_1, in7_2, in7_3, in7_4, in7_5, fw, fp, h21, h31, h41, w_most_groups, d_most_groups, b_most_groups, w_most_rings, d_most_rings, b_most_rings, w_most_pairs, d_most_pairs, b_most_pairs, w_is_all_tied, d_is_all_tied, b_is_all_tied, w_pairs_of, d_pairs_of, b_pairs_of, w__law_two, d__law_two, b__law_two, f0, g0, f1, g1, f2, g2, f3, g3, f4, g4, f5, g5, f6, g6, f7, g7, f8, g8, e0, Int.reduceMul, Int.reduceSub, Int.reduceAdd]
    all_goals ((repeat' apply And.intro) <;> first | rfl | decide | exact lg_lit (by omega) (by omega) | exact small_two (by omega) (by omega) | (refine small_lit ?_ ?_ <;> omega) | trace_state)
  have b : ∀ S, w__law_least [.str "core", .int 1, .int n] S = some (.int (1), S) := by
    intro S
    refine Qr_iff.mpr ?_ |> R.eq
    unfold w__law_least d__law_least b__law_least
    push_cast [in7_0, in7_1, in7_2, in7_3, in7_4, in7_5, fw, fp, h21, h31, h41, w_most_groups, d_most_groups, b_most_groups, w_most_rings, d_most_rings, b_most_rings, w_most_pairs, d_most_pairs, b_most_pairs, w_is_all_tied, d_is_all_tied, b_is_all_tied, w_pairs_of, d_pairs_of, b_pairs_of, w__law_two, d__law_two, b__law_two, f0, g0, f1, g1, f2, g2, f3, g3, f4, g4, f5, g5, f6, g6, f7, g7, f8, g8, e0, Int.reduceMul, Int.reduceSub, Int.reduceAdd]
    all_goals ((repeat' apply And.intro) <;> first | rfl | decide | exact lg_lit (by omega) (by omega) | exact small_two (by omega) (by omega) | (refine small_lit ?_ ?_ <;> omega) | trace_state)
  have c : ∀ S, w_most_of [.str "core", .int 1, .int n] S = some (.int (0 * n - 0), S) := by
    intro S
    refine Qr_iff.mpr ?_ |> R.eq
    unfold w_most_of d_most_of b_most_of
    push_cast [in7_0, in7_1, in7_2, in7_3, in7_4, in7_5, fw, fp, h21, h31, h41, w_most_groups, d_most_groups, b_most_groups, w_most_rings, d_most_rings, b_most_rings, w_most_pairs, d_most_pairs, b_most_pairs, w_is_all_tied, d_is_all_tied, b_is_all_tied, w_pairs_of, d_pairs_of, b_pairs_of, w__law_two, d__law_two, b__law_two, f0, g0, f1, g1, f2, g2, f3, g3, f4, g4, f5, g5, f6, g6, f7, g7, f8, g8, e0, Int.reduceMul, Int.reduceSub, Int.reduceAdd]
    all_goals ((repeat' apply And.intro) <;> first | rfl | decide | exact lg_lit (by omega) (by omega) | exact small_two (by omega) (by omega) | (refine small_lit ?_ ?_ <;> omega) | trace_state)
  have d : ∀ S, w__law_most [.str "core", .int 1, .int n] S = some (.int (0 * n - 0), S) := by
    intro S
    refine Qr_iff.mpr ?_ |> R.eq
    unfold w__law_most d__law_most b__law_most
    push_cast [in7_0, in7_1, in7_2, in7_3, in7_4, in7_5, fw, fp, h21, h31, h41, w_most_groups, d_most_groups, b_most_groups, w_most_rings, d_most_rings, b_most_rings, w_most_pairs, d_most_pairs, b_most_pairs, w_is_all_tied, d_is_all_tied, b_is_all_tied, w_pairs_of, d_pairs_of, b_pairs_of, w__law_two, d__law_two, b__law_two, f0, g0, f1, g1, f2, g2, f3, g3, f4, g4, f5, g5, f6, g6, f7, g7, f8, g8, e0, Int.reduceMul, Int.reduceSub, Int.reduceAdd]
    all_goals ((repeat' apply And.intro) <;> first | rfl | decide | exact lg_lit (by omega) (by omega) | exact small_two (by omega) (by omega) | (refine small_lit ?_ ?_ <;> omega) | trace_state)
  have m : 0 ≤ 0 * n - 0 ∧ 0 * n - 0 ≤ 10000000000000000000 := by
    omega
  exact ⟨a, b, c, d, m.1, m.2, fun l h => by cases h; omega⟩
theorem lmb19 {n : Int} (h9 : 9 ≤ n) (hn : n ≤ 2000000000) : LM "core" (.int 2) n (some (3)) (1 * n - 1) := by
  have f0 : (n < 0) = False := eq_false (by omega)
  have g0 : (n ≤ 0) = False := eq_false (by omega)
  have f1 : (n < 1) = False := eq_false (by omega)
  have g1 : (n ≤ 1) = False := eq_false (by omega)
  have f2 : (n < 2) = False := eq_false (by omega)
  have g2 : (n ≤ 2) = False := eq_false (by omega)
  have f3 : (n < 3) = False := eq_false (by omega)
  have g3 : (n ≤ 3) = False := eq_false (by omega)
  have f4 : (n < 4) = False := eq_false (by omega)
  have g4 : (n ≤ 4) = False := eq_false (by omega)
  have f5 : (n < 5) = False := eq_false (by omega)
  have g5 : (n ≤ 5) = False := eq_false (by omega)
  have f6 : (n < 6) = False := eq_false (by omega)
  have g6 : (n ≤ 6) = False := eq_false (by omega)
  have f7 : (n < 7) = False := eq_false (by omega)
  have g7 : (n ≤ 7) = False := eq_false (by omega)
  have f8 : (n < 8) = False := eq_false (by omega)
  have g8 : (n ≤ 8) = False := eq_false (by omega)
  have e0 : (n = 0) = False := eq_false (by omega)
  have h21 : ((2 : Int) = 1) = False := eq_false (by decide)
  have h31 : ((3 : Int) = 1) = False := eq_false (by decide)
  have h41 : ((4 : Int) = 1) = False := eq_false (by decide)
  have fw : ∀ S, w__law_fewest [.str "core", .int 2] S = some (.int 3, S) := fun S => by kernel_rfl
  have fp : ∀ S, w_fewest_people [.str "core", .int 2] S = some (.int 3, S) := fun S => by kernel_rfl
  have a : ∀ S, w_least_of [.str "core", .int 2, .int n] S = some (.int (3), S) := by
    intro S
    refine Qr_iff.mpr ?_ |> R.eq
    unfold w_least_of d_least_of b_least_of
    push_cast [in7_0, in7_1, in7_2, in7_3, in7_4, in7_5, fw, fp, h21, h31, h41, w_most_groups, d_most_groups, b_most_groups, w_most_rings, d_most_rings, b_most_rings, w_most_pairs, d_most_pairs, b_most_pairs, w_is_all_tied, d_is_all_tied, b_is_all_tied, w_pairs_of, d_pairs_of, b_pairs_of, w__law_two, d__law_two, b__law_two, f0, g0, f1, g1, f2, g2, f3, g3, f4, g4, f5, g5, f6, g6, f7, g7, f8, g8, e0, Int.reduceMul, Int.reduceSub, Int.reduceAdd]
    all_goals ((repeat' apply And.intro) <;> first | rfl | decide | exact lg_lit (by omega) (by omega) | exact small_two (by omega) (by omega) | (refine small_lit ?_ ?_ <;> omega) | trace_state)
  have b : ∀ S, w__law_least [.str "core", .int 2, .int n] S = some (.int (3), S) := by
    intro S
    refine Qr_iff.mpr ?_ |> R.eq
    unfold w__law_least d__law_least b__law_least
    push_cast [in7_0, in7_1, in7_2, in7_3, in7_4, in7_5, fw, fp, h21, h31, h41, w_most_groups, d_most_groups, b_most_groups, w_most_rings, d_most_rings, b_most_rings, w_most_pairs, d_most_pairs, b_most_pairs, w_is_all_tied, d_is_all_tied, b_is_all_tied, w_pairs_of, d_pairs_of, b_pairs_of, w__law_two, d__law_two, b__law_two, f0, g0, f1, g1, f2, g2, f3, g3, f4, g4, f5, g5, f6, g6, f7, g7, f8, g8, e0, Int.reduceMul, Int.reduceSub, Int.reduceAdd]
    all_goals ((repeat' apply And.intro) <;> first | rfl | decide | exact lg_lit (by omega) (by omega) | exact small_two (by omega) (by omega) | (refine small_lit ?_ ?_ <;> omega) | trace_state)
  have c : ∀ S, w_most_of [.str "core", .int 2, .int n] S = some (.int (1 * n - 1), S) := by
    intro S
    refine Qr_iff.mpr ?_ |> R.eq
    unfold w_most_of d_most_of b_most_of
    push_cast [in7_0, in7_1, in7_2, in7_3, in7_4, in7_5, fw, fp, h21, h31, h41, w_most_groups, d_most_groups, b_most_groups, w_most_rings, d_most_rings, b_most_rings, w_most_pairs, d_most_pairs, b_most_pairs, w_is_all_tied, d_is_all_tied, b_is_all_tied, w_pairs_of, d_pairs_of, b_pairs_of, w__law_two, d__law_two, b__law_two, f0, g0, f1, g1, f2, g2, f3, g3, f4, g4, f5, g5, f6, g6, f7, g7, f8, g8, e0, Int.reduceMul, Int.reduceSub, Int.reduceAdd]
    all_goals ((repeat' apply And.intro) <;> first | rfl | decide | exact lg_lit (by omega) (by omega) | exact small_two (by omega) (by omega) | (refine small_lit ?_ ?_ <;> omega) | trace_state)
  have d : ∀ S, w__law_most [.str "core", .int 2, .int n] S = some (.int (1 * n - 1), S) := by
    intro S
    refine Qr_iff.mpr ?_ |> R.eq
    unfold w__law_most d__law_most b__law_most
    push_cast [in7_0, in7_1, in7_2, in7_3, in7_4, in7_5, fw, fp, h21, h31, h41, w_most_groups, d_most_groups, b_most_groups, w_most_rings, d_most_rings, b_most_rings, w_most_pairs, d_most_pairs, b_most_pairs, w_is_all_tied, d_is_all_tied, b_is_all_tied, w_pairs_of, d_pairs_of, b_pairs_of, w__law_two, d__law_two, b__law_two, f0, g0, f1, g1, f2, g2, f3, g3, f4, g4, f5, g5, f6, g6, f7, g7, f8, g8, e0, Int.reduceMul, Int.reduceSub, Int.reduceAdd]
    all_goals ((repeat' apply And.intro) <;> first | rfl | decide | exact lg_lit (by omega) (by omega) | exact small_two (by omega) (by omega) | (refine small_lit ?_ ?_ <;> omega) | trace_state)
  have m : 0 ≤ 1 * n - 1 ∧ 1 * n - 1 ≤ 10000000000000000000 := by
    omega
  exact ⟨a, b, c, d, m.1, m.2, fun l h => by cases h; omega⟩
theorem lmb20 {n : Int} (h9 : 9 ≤ n) (hn : n ≤ 2000000000) : LM "core" (.int 3) n (some (6)) (2 * n - 3) := by
  have f0 : (n < 0) = False := eq_false (by omega)
  have g0 : (n ≤ 0) = False := eq_false (by omega)
  have f1 : (n < 1) = False := eq_false (by omega)
  have g1 : (n ≤ 1) = False := eq_false (by omega)
  have f2 : (n < 2) = False := eq_false (by omega)
  have g2 : (n ≤ 2) = False := eq_false (by omega)
  have f3 : (n < 3) = False := eq_false (by omega)
  have g3 : (n ≤ 3) = False := eq_false (by omega)
  have f4 : (n < 4) = False := eq_false (by omega)
  have g4 : (n ≤ 4) = False := eq_false (by omega)
  have f5 : (n < 5) = False := eq_false (by omega)
  have g5 : (n ≤ 5) = False := eq_false (by omega)
  have f6 : (n < 6) = False := eq_false (by omega)
  have g6 : (n ≤ 6) = False := eq_false (by omega)
  have f7 : (n < 7) = False := eq_false (by omega)
  have g7 : (n ≤ 7) = False := eq_false (by omega)
  have f8 : (n < 8) = False := eq_false (by omega)
  have g8 : (n ≤ 8) = False := eq_false (by omega)
  have e0 : (n = 0) = False := eq_false (by omega)
  have h21 : ((2 : Int) = 1) = False := eq_false (by decide)
  have h31 : ((3 : Int) = 1) = False := eq_false (by decide)
  have h41 : ((4 : Int) = 1) = False := eq_false (by decide)
  have fw : ∀ S, w__law_fewest [.str "core", .int 3] S = some (.int 4, S) := fun S => by kernel_rfl
  have fp : ∀ S, w_fewest_people [.str "core", .int 3] S = some (.int 4, S) := fun S => by kernel_rfl
  have a : ∀ S, w_least_of [.str "core", .int 3, .int n] S = some (.int (6), S) := by
    intro S
    refine Qr_iff.mpr ?_ |> R.eq
    unfold w_least_of d_least_of b_least_of
    push_cast [in7_0, in7_1, in7_2, in7_3, in7_4, in7_5, fw, fp, h21, h31, h41, w_most_groups, d_most_groups, b_most_groups, w_most_rings, d_most_rings, b_most_rings, w_most_pairs, d_most_pairs, b_most_pairs, w_is_all_tied, d_is_all_tied, b_is_all_tied, w_pairs_of, d_pairs_of, b_pairs_of, w__law_two, d__law_two, b__law_two, f0, g0, f1, g1, f2, g2, f3, g3, f4, g4, f5, g5, f6, g6, f7, g7, f8, g8, e0, Int.reduceMul, Int.reduceSub, Int.reduceAdd]
    all_goals ((repeat' apply And.intro) <;> first | rfl | decide | exact lg_lit (by omega) (by omega) | exact small_two (by omega) (by omega) | (refine small_lit ?_ ?_ <;> omega) | trace_state)
  have b : ∀ S, w__law_least [.str "core", .int 3, .int n] S = some (.int (6), S) := by
    intro S
    refine Qr_iff.mpr ?_ |> R.eq
    unfold w__law_least d__law_least b__law_least
    push_cast [in7_0, in7_1, in7_2, in7_3, in7_4, in7_5, fw, fp, h21, h31, h41, w_most_groups, d_most_groups, b_most_groups, w_most_rings, d_most_rings, b_most_rings, w_most_pairs, d_most_pairs, b_most_pairs, w_is_all_tied, d_is_all_tied, b_is_all_tied, w_pairs_of, d_pairs_of, b_pairs_of, w__law_two, d__law_two, b__law_two, f0, g0, f1, g1, f2, g2, f3, g3, f4, g4, f5, g5, f6, g6, f7, g7, f8, g8, e0, Int.reduceMul, Int.reduceSub, Int.reduceAdd]
    all_goals ((repeat' apply And.intro) <;> first | rfl | decide | exact lg_lit (by omega) (by omega) | exact small_two (by omega) (by omega) | (refine small_lit ?_ ?_ <;> omega) | trace_state)
  have c : ∀ S, w_most_of [.str "core", .int 3, .int n] S = some (.int (2 * n - 3), S) := by
    intro S
    refine Qr_iff.mpr ?_ |> R.eq
    unfold w_most_of d_most_of b_most_of
    push_cast [in7_0, in7_1, in7_2, in7_3, in7_4, in7_5, fw, fp, h21, h31, h41, w_most_groups, d_most_groups, b_most_groups, w_most_rings, d_most_rings, b_most_rings, w_most_pairs, d_most_pairs, b_most_pairs, w_is_all_tied, d_is_all_tied, b_is_all_tied, w_pairs_of, d_pairs_of, b_pairs_of, w__law_two, d__law_two, b__law_two, f0, g0, f1, g1, f2, g2, f3, g3, f4, g4, f5, g5, f6, g6, f7, g7, f8, g8, e0, Int.reduceMul, Int.reduceSub, Int.reduceAdd]
    all_goals ((repeat' apply And.intro) <;> first | rfl | decide | exact lg_lit (by omega) (by omega) | exact small_two (by omega) (by omega) | (refine small_lit ?_ ?_ <;> omega) | trace_state)
  have d : ∀ S, w__law_most [.str "core", .int 3, .int n] S = some (.int (2 * n - 3), S) := by
    intro S
    refine Qr_iff.mpr ?_ |> R.eq
    unfold w__law_most d__law_most b__law_most
    push_cast [in7_0, in7_1, in7_2, in7_3, in7_4, in7_5, fw, fp, h21, h31, h41, w_most_groups, d_most_groups, b_most_groups, w_most_rings, d_most_rings, b_most_rings, w_most_pairs, d_most_pairs, b_most_pairs, w_is_all_tied, d_is_all_tied, b_is_all_tied, w_pairs_of, d_pairs_of, b_pairs_of, w__law_two, d__law_two, b__law_two, f0, g0, f1, g1, f2, g2, f3, g3, f4, g4, f5, g5, f6, g6, f7, g7, f8, g8, e0, Int.reduceMul, Int.reduceSub, Int.reduceAdd]
    all_goals ((repeat' apply And.intro) <;> first | rfl | decide | exact lg_lit (by omega) (by omega) | exact small_two (by omega) (by omega) | (refine small_lit ?_ ?_ <;> omega) | trace_state)
  have m : 0 ≤ 2 * n - 3 ∧ 2 * n - 3 ≤ 10000000000000000000 := by
    omega
  exact ⟨a, b, c, d, m.1, m.2, fun l h => by cases h; omega⟩
theorem lmb21 {n : Int} (h9 : 9 ≤ n) (hn : n ≤ 2000000000) : LM "core" (.int 4) n (some (10)) (3 * n - 6) := by
  have f0 : (n < 0) = False := eq_false (by omega)
  have g0 : (n ≤ 0) = False := eq_false (by omega)
  have f1 : (n < 1) = False := eq_false (by omega)
  have g1 : (n ≤ 1) = False := eq_false (by omega)
  have f2 : (n < 2) = False := eq_false (by omega)
  have g2 : (n ≤ 2) = False := eq_false (by omega)
  have f3 : (n < 3) = False := eq_false (by omega)
  have g3 : (n ≤ 3) = False := eq_false (by omega)
  have f4 : (n < 4) = False := eq_false (by omega)
  have g4 : (n ≤ 4) = False := eq_false (by omega)
  have f5 : (n < 5) = False := eq_false (by omega)
  have g5 : (n ≤ 5) = False := eq_false (by omega)
  have f6 : (n < 6) = False := eq_false (by omega)
  have g6 : (n ≤ 6) = False := eq_false (by omega)
  have f7 : (n < 7) = False := eq_false (by omega)
  have g7 : (n ≤ 7) = False := eq_false (by omega)
  have f8 : (n < 8) = False := eq_false (by omega)
  have g8 : (n ≤ 8) = False := eq_false (by omega)
  have e0 : (n = 0) = False := eq_false (by omega)
  have h21 : ((2 : Int) = 1) = False := eq_false (by decide)
  have h31 : ((3 : Int) = 1) = False := eq_false (by decide)
  have h41 : ((4 : Int) = 1) = False := eq_false (by decide)
  have fw : ∀ S, w__law_fewest [.str "core", .int 4] S = some (.int 5, S) := fun S => by kernel_rfl
  have fp : ∀ S, w_fewest_people [.str "core", .int 4] S = some (.int 5, S) := fun S => by kernel_rfl
  have a : ∀ S, w_least_of [.str "core", .int 4, .int n] S = some (.int (10), S) := by
    intro S
    refine Qr_iff.mpr ?_ |> R.eq
    unfold w_least_of d_least_of b_least_of
    push_cast [in7_0, in7_1, in7_2, in7_3, in7_4, in7_5, fw, fp, h21, h31, h41, w_most_groups, d_most_groups, b_most_groups, w_most_rings, d_most_rings, b_most_rings, w_most_pairs, d_most_pairs, b_most_pairs, w_is_all_tied, d_is_all_tied, b_is_all_tied, w_pairs_of, d_pairs_of, b_pairs_of, w__law_two, d__law_two, b__law_two, f0, g0, f1, g1, f2, g2, f3, g3, f4, g4, f5, g5, f6, g6, f7, g7, f8, g8, e0, Int.reduceMul, Int.reduceSub, Int.reduceAdd]
    all_goals ((repeat' apply And.intro) <;> first | rfl | decide | exact lg_lit (by omega) (by omega) | exact small_two (by omega) (by omega) | (refine small_lit ?_ ?_ <;> omega) | trace_state)
  have b : ∀ S, w__law_least [.str "core", .int 4, .int n] S = some (.int (10), S) := by
    intro S
    refine Qr_iff.mpr ?_ |> R.eq
    unfold w__law_least d__law_least b__law_least
    push_cast [in7_0, in7_1, in7_2, in7_3, in7_4, in7_5, fw, fp, h21, h31, h41, w_most_groups, d_most_groups, b_most_groups, w_most_rings, d_most_rings, b_most_rings, w_most_pairs, d_most_pairs, b_most_pairs, w_is_all_tied, d_is_all_tied, b_is_all_tied, w_pairs_of, d_pairs_of, b_pairs_of, w__law_two, d__law_two, b__law_two, f0, g0, f1, g1, f2, g2, f3, g3, f4, g4, f5, g5, f6, g6, f7, g7, f8, g8, e0, Int.reduceMul, Int.reduceSub, Int.reduceAdd]
    all_goals ((repeat' apply And.intro) <;> first | rfl | decide | exact lg_lit (by omega) (by omega) | exact small_two (by omega) (by omega) | (refine small_lit ?_ ?_ <;> omega) | trace_state)
  have c : ∀ S, w_most_of [.str "core", .int 4, .int n] S = some (.int (3 * n - 6), S) := by
    intro S
    refine Qr_iff.mpr ?_ |> R.eq
    unfold w_most_of d_most_of b_most_of
    push_cast [in7_0, in7_1, in7_2, in7_3, in7_4, in7_5, fw, fp, h21, h31, h41, w_most_groups, d_most_groups, b_most_groups, w_most_rings, d_most_rings, b_most_rings, w_most_pairs, d_most_pairs, b_most_pairs, w_is_all_tied, d_is_all_tied, b_is_all_tied, w_pairs_of, d_pairs_of, b_pairs_of, w__law_two, d__law_two, b__law_two, f0, g0, f1, g1, f2, g2, f3, g3, f4, g4, f5, g5, f6, g6, f7, g7, f8, g8, e0, Int.reduceMul, Int.reduceSub, Int.reduceAdd]
    all_goals ((repeat' apply And.intro) <;> first | rfl | decide | exact lg_lit (by omega) (by omega) | exact small_two (by omega) (by omega) | (refine small_lit ?_ ?_ <;> omega) | trace_state)
  have d : ∀ S, w__law_most [.str "core", .int 4, .int n] S = some (.int (3 * n - 6), S) := by
    intro S
    refine Qr_iff.mpr ?_ |> R.eq
    unfold w__law_most d__law_most b__law_most
    push_cast [in7_0, in7_1, in7_2, in7_3, in7_4, in7_5, fw, fp, h21, h31, h41, w_most_groups, d_most_groups, b_most_groups, w_most_rings, d_most_rings, b_most_rings, w_most_pairs, d_most_pairs, b_most_pairs, w_is_all_tied, d_is_all_tied, b_is_all_tied, w_pairs_of, d_pairs_of, b_pairs_of, w__law_two, d__law_two, b__law_two, f0, g0, f1, g1, f2, g2, f3, g3, f4, g4, f5, g5, f6, g6, f7, g7, f8, g8, e0, Int.reduceMul, Int.reduceSub, Int.reduceAdd]
    all_goals ((repeat' apply And.intro) <;> first | rfl | decide | exact lg_lit (by omega) (by omega) | exact small_two (by omega) (by omega) | (refine small_lit ?_ ?_ <;> omega) | trace_state)
  have m : 0 ≤ 3 * n - 6 ∧ 3 * n - 6 ≤ 10000000000000000000 := by
    omega
  exact ⟨a, b, c, d, m.1, m.2, fun l h => by cases h; omega⟩
theorem lmb22 {n : Int} (h9 : 9 ≤ n) (hn : n ≤ 2000000000) : LM "linked" (.int 1) n (some (n - 1)) ((n - 1) * (n - 1 - 1) / 2 + 1 - 1) := by
  have f0 : (n < 0) = False := eq_false (by omega)
  have g0 : (n ≤ 0) = False := eq_false (by omega)
  have f1 : (n < 1) = False := eq_false (by omega)
  have g1 : (n ≤ 1) = False := eq_false (by omega)
  have f2 : (n < 2) = False := eq_false (by omega)
  have g2 : (n ≤ 2) = False := eq_false (by omega)
  have f3 : (n < 3) = False := eq_false (by omega)
  have g3 : (n ≤ 3) = False := eq_false (by omega)
  have f4 : (n < 4) = False := eq_false (by omega)
  have g4 : (n ≤ 4) = False := eq_false (by omega)
  have f5 : (n < 5) = False := eq_false (by omega)
  have g5 : (n ≤ 5) = False := eq_false (by omega)
  have f6 : (n < 6) = False := eq_false (by omega)
  have g6 : (n ≤ 6) = False := eq_false (by omega)
  have f7 : (n < 7) = False := eq_false (by omega)
  have g7 : (n ≤ 7) = False := eq_false (by omega)
  have f8 : (n < 8) = False := eq_false (by omega)
  have g8 : (n ≤ 8) = False := eq_false (by omega)
  have e0 : (n = 0) = False := eq_false (by omega)
  have h21 : ((2 : Int) = 1) = False := eq_false (by decide)
  have h31 : ((3 : Int) = 1) = False := eq_false (by decide)
  have h41 : ((4 : Int) = 1) = False := eq_false (by decide)
  have fw : ∀ S, w__law_fewest [.str "linked", .int 1] S = some (.int 2, S) := fun S => by kernel_rfl
  have fp : ∀ S, w_fewest_people [.str "linked", .int 1] S = some (.int 2, S) := fun S => by kernel_rfl
  have a : ∀ S, w_least_of [.str "linked", .int 1, .int n] S = some (.int (n - 1), S) := by
    intro S
    refine Qr_iff.mpr ?_ |> R.eq
    unfold w_least_of d_least_of b_least_of
    push_cast [in8_0, in8_1, in8_2, in8_3, in8_4, in8_5, fw, fp, h21, h31, h41, w_most_groups, d_most_groups, b_most_groups, w_most_rings, d_most_rings, b_most_rings, w_most_pairs, d_most_pairs, b_most_pairs, w_is_all_tied, d_is_all_tied, b_is_all_tied, w_pairs_of, d_pairs_of, b_pairs_of, w__law_two, d__law_two, b__law_two, f0, g0, f1, g1, f2, g2, f3, g3, f4, g4, f5, g5, f6, g6, f7, g7, f8, g8, e0, Int.reduceMul, Int.reduceSub, Int.reduceAdd]
    all_goals ((repeat' apply And.intro) <;> first | rfl | decide | exact lg_lit (by omega) (by omega) | exact small_two (by omega) (by omega) | (refine small_lit ?_ ?_ <;> omega) | trace_state)
  have b : ∀ S, w__law_least [.str "linked", .int 1, .int n] S = some (.int (n - 1), S) := by
    intro S
    refine Qr_iff.mpr ?_ |> R.eq
    unfold w__law_least d__law_least b__law_least
    push_cast [in8_0, in8_1, in8_2, in8_3, in8_4, in8_5, fw, fp, h21, h31, h41, w_most_groups, d_most_groups, b_most_groups, w_most_rings, d_most_rings, b_most_rings, w_most_pairs, d_most_pairs, b_most_pairs, w_is_all_tied, d_is_all_tied, b_is_all_tied, w_pairs_of, d_pairs_of, b_pairs_of, w__law_two, d__law_two, b__law_two, f0, g0, f1, g1, f2, g2, f3, g3, f4, g4, f5, g5, f6, g6, f7, g7, f8, g8, e0, Int.reduceMul, Int.reduceSub, Int.reduceAdd]
    all_goals ((repeat' apply And.intro) <;> first | rfl | decide | exact lg_lit (by omega) (by omega) | exact small_two (by omega) (by omega) | (refine small_lit ?_ ?_ <;> omega) | trace_state)
  have c : ∀ S, w_most_of [.str "linked", .int 1, .int n] S = some (.int ((n - 1) * (n - 1 - 1) / 2 + 1 - 1), S) := by
    intro S
    refine Qr_iff.mpr ?_ |> R.eq
    unfold w_most_of d_most_of b_most_of
    push_cast [in8_0, in8_1, in8_2, in8_3, in8_4, in8_5, fw, fp, h21, h31, h41, w_most_groups, d_most_groups, b_most_groups, w_most_rings, d_most_rings, b_most_rings, w_most_pairs, d_most_pairs, b_most_pairs, w_is_all_tied, d_is_all_tied, b_is_all_tied, w_pairs_of, d_pairs_of, b_pairs_of, w__law_two, d__law_two, b__law_two, f0, g0, f1, g1, f2, g2, f3, g3, f4, g4, f5, g5, f6, g6, f7, g7, f8, g8, e0, Int.reduceMul, Int.reduceSub, Int.reduceAdd]
    all_goals ((repeat' apply And.intro) <;> first | rfl | decide | exact lg_lit (by omega) (by omega) | exact small_two (by omega) (by omega) | (refine small_lit ?_ ?_ <;> omega) | trace_state)
  have d : ∀ S, w__law_most [.str "linked", .int 1, .int n] S = some (.int ((n - 1) * (n - 1 - 1) / 2 + 1 - 1), S) := by
    intro S
    refine Qr_iff.mpr ?_ |> R.eq
    unfold w__law_most d__law_most b__law_most
    push_cast [in8_0, in8_1, in8_2, in8_3, in8_4, in8_5, fw, fp, h21, h31, h41, w_most_groups, d_most_groups, b_most_groups, w_most_rings, d_most_rings, b_most_rings, w_most_pairs, d_most_pairs, b_most_pairs, w_is_all_tied, d_is_all_tied, b_is_all_tied, w_pairs_of, d_pairs_of, b_pairs_of, w__law_two, d__law_two, b__law_two, f0, g0, f1, g1, f2, g2, f3, g3, f4, g4, f5, g5, f6, g6, f7, g7, f8, g8, e0, Int.reduceMul, Int.reduceSub, Int.reduceAdd]
    all_goals ((repeat' apply And.intro) <;> first | rfl | decide | exact lg_lit (by omega) (by omega) | exact small_two (by omega) (by omega) | (refine small_lit ?_ ?_ <;> omega) | trace_state)
  have m : 0 ≤ (n - 1) * (n - 1 - 1) / 2 + 1 - 1 ∧ (n - 1) * (n - 1 - 1) / 2 + 1 - 1 ≤ 10000000000000000000 := by
    obtain ⟨p0, p1⟩ := mul_bd (a := n - 1) (b := n - 1 - 1) (A := 2000000000) (B := 2000000000) (by omega) (by omega) (by omega) (by omega)
    generalize (n - 1) * (n - 1 - 1) = X at p0 p1
    omega
  exact ⟨a, b, c, d, m.1, m.2, fun l h => by cases h; omega⟩
theorem lmb23 {n : Int} (h9 : 9 ≤ n) (hn : n ≤ 2000000000) : LM "linked" (.int 2) n (some ((n * 2 + 1) / 2)) ((n - 1) * (n - 1 - 1) / 2 + 2 - 1) := by
  have f0 : (n < 0) = False := eq_false (by omega)
  have g0 : (n ≤ 0) = False := eq_false (by omega)
  have f1 : (n < 1) = False := eq_false (by omega)
  have g1 : (n ≤ 1) = False := eq_false (by omega)
  have f2 : (n < 2) = False := eq_false (by omega)
  have g2 : (n ≤ 2) = False := eq_false (by omega)
  have f3 : (n < 3) = False := eq_false (by omega)
  have g3 : (n ≤ 3) = False := eq_false (by omega)
  have f4 : (n < 4) = False := eq_false (by omega)
  have g4 : (n ≤ 4) = False := eq_false (by omega)
  have f5 : (n < 5) = False := eq_false (by omega)
  have g5 : (n ≤ 5) = False := eq_false (by omega)
  have f6 : (n < 6) = False := eq_false (by omega)
  have g6 : (n ≤ 6) = False := eq_false (by omega)
  have f7 : (n < 7) = False := eq_false (by omega)
  have g7 : (n ≤ 7) = False := eq_false (by omega)
  have f8 : (n < 8) = False := eq_false (by omega)
  have g8 : (n ≤ 8) = False := eq_false (by omega)
  have e0 : (n = 0) = False := eq_false (by omega)
  have h21 : ((2 : Int) = 1) = False := eq_false (by decide)
  have h31 : ((3 : Int) = 1) = False := eq_false (by decide)
  have h41 : ((4 : Int) = 1) = False := eq_false (by decide)
  have fw : ∀ S, w__law_fewest [.str "linked", .int 2] S = some (.int 3, S) := fun S => by kernel_rfl
  have fp : ∀ S, w_fewest_people [.str "linked", .int 2] S = some (.int 3, S) := fun S => by kernel_rfl
  have a : ∀ S, w_least_of [.str "linked", .int 2, .int n] S = some (.int ((n * 2 + 1) / 2), S) := by
    intro S
    refine Qr_iff.mpr ?_ |> R.eq
    unfold w_least_of d_least_of b_least_of
    push_cast [in8_0, in8_1, in8_2, in8_3, in8_4, in8_5, fw, fp, h21, h31, h41, w_most_groups, d_most_groups, b_most_groups, w_most_rings, d_most_rings, b_most_rings, w_most_pairs, d_most_pairs, b_most_pairs, w_is_all_tied, d_is_all_tied, b_is_all_tied, w_pairs_of, d_pairs_of, b_pairs_of, w__law_two, d__law_two, b__law_two, f0, g0, f1, g1, f2, g2, f3, g3, f4, g4, f5, g5, f6, g6, f7, g7, f8, g8, e0, Int.reduceMul, Int.reduceSub, Int.reduceAdd]
    all_goals ((repeat' apply And.intro) <;> first | rfl | decide | exact lg_lit (by omega) (by omega) | exact small_two (by omega) (by omega) | (refine small_lit ?_ ?_ <;> omega) | trace_state)
  have b : ∀ S, w__law_least [.str "linked", .int 2, .int n] S = some (.int ((n * 2 + 1) / 2), S) := by
    intro S
    refine Qr_iff.mpr ?_ |> R.eq
    unfold w__law_least d__law_least b__law_least
    push_cast [in8_0, in8_1, in8_2, in8_3, in8_4, in8_5, fw, fp, h21, h31, h41, w_most_groups, d_most_groups, b_most_groups, w_most_rings, d_most_rings, b_most_rings, w_most_pairs, d_most_pairs, b_most_pairs, w_is_all_tied, d_is_all_tied, b_is_all_tied, w_pairs_of, d_pairs_of, b_pairs_of, w__law_two, d__law_two, b__law_two, f0, g0, f1, g1, f2, g2, f3, g3, f4, g4, f5, g5, f6, g6, f7, g7, f8, g8, e0, Int.reduceMul, Int.reduceSub, Int.reduceAdd]
    all_goals ((repeat' apply And.intro) <;> first | rfl | decide | exact lg_lit (by omega) (by omega) | exact small_two (by omega) (by omega) | (refine small_lit ?_ ?_ <;> omega) | trace_state)
  have c : ∀ S, w_most_of [.str "linked", .int 2, .int n] S = some (.int ((n - 1) * (n - 1 - 1) / 2 + 2 - 1), S) := by
    intro S
    refine Qr_iff.mpr ?_ |> R.eq
    unfold w_most_of d_most_of b_most_of
    push_cast [in8_0, in8_1, in8_2, in8_3, in8_4, in8_5, fw, fp, h21, h31, h41, w_most_groups, d_most_groups, b_most_groups, w_most_rings, d_most_rings, b_most_rings, w_most_pairs, d_most_pairs, b_most_pairs, w_is_all_tied, d_is_all_tied, b_is_all_tied, w_pairs_of, d_pairs_of, b_pairs_of, w__law_two, d__law_two, b__law_two, f0, g0, f1, g1, f2, g2, f3, g3, f4, g4, f5, g5, f6, g6, f7, g7, f8, g8, e0, Int.reduceMul, Int.reduceSub, Int.reduceAdd]
    all_goals ((repeat' apply And.intro) <;> first | rfl | decide | exact lg_lit (by omega) (by omega) | exact small_two (by omega) (by omega) | (refine small_lit ?_ ?_ <;> omega) | trace_state)
  have d : ∀ S, w__law_most [.str "linked", .int 2, .int n] S = some (.int ((n - 1) * (n - 1 - 1) / 2 + 2 - 1), S) := by
    intro S
    refine Qr_iff.mpr ?_ |> R.eq
    unfold w__law_most d__law_most b__law_most
    push_cast [in8_0, in8_1, in8_2, in8_3, in8_4, in8_5, fw, fp, h21, h31, h41, w_most_groups, d_most_groups, b_most_groups, w_most_rings, d_most_rings, b_most_rings, w_most_pairs, d_most_pairs, b_most_pairs, w_is_all_tied, d_is_all_tied, b_is_all_tied, w_pairs_of, d_pairs_of, b_pairs_of, w__law_two, d__law_two, b__law_two, f0, g0, f1, g1, f2, g2, f3, g3, f4, g4, f5, g5, f6, g6, f7, g7, f8, g8, e0, Int.reduceMul, Int.reduceSub, Int.reduceAdd]
    all_goals ((repeat' apply And.intro) <;> first | rfl | decide | exact lg_lit (by omega) (by omega) | exact small_two (by omega) (by omega) | (refine small_lit ?_ ?_ <;> omega) | trace_state)
  have m : 0 ≤ (n - 1) * (n - 1 - 1) / 2 + 2 - 1 ∧ (n - 1) * (n - 1 - 1) / 2 + 2 - 1 ≤ 10000000000000000000 := by
    obtain ⟨p0, p1⟩ := mul_bd (a := n - 1) (b := n - 1 - 1) (A := 2000000000) (B := 2000000000) (by omega) (by omega) (by omega) (by omega)
    generalize (n - 1) * (n - 1 - 1) = X at p0 p1
    omega
  exact ⟨a, b, c, d, m.1, m.2, fun l h => by cases h; omega⟩
theorem lmb24 {n : Int} (h9 : 9 ≤ n) (hn : n ≤ 2000000000) : LM "linked" (.int 3) n (some ((n * 3 + 1) / 2)) ((n - 1) * (n - 1 - 1) / 2 + 3 - 1) := by
  have f0 : (n < 0) = False := eq_false (by omega)
  have g0 : (n ≤ 0) = False := eq_false (by omega)
  have f1 : (n < 1) = False := eq_false (by omega)
  have g1 : (n ≤ 1) = False := eq_false (by omega)
  have f2 : (n < 2) = False := eq_false (by omega)
  have g2 : (n ≤ 2) = False := eq_false (by omega)
  have f3 : (n < 3) = False := eq_false (by omega)
  have g3 : (n ≤ 3) = False := eq_false (by omega)
  have f4 : (n < 4) = False := eq_false (by omega)
  have g4 : (n ≤ 4) = False := eq_false (by omega)
  have f5 : (n < 5) = False := eq_false (by omega)
  have g5 : (n ≤ 5) = False := eq_false (by omega)
  have f6 : (n < 6) = False := eq_false (by omega)
  have g6 : (n ≤ 6) = False := eq_false (by omega)
  have f7 : (n < 7) = False := eq_false (by omega)
  have g7 : (n ≤ 7) = False := eq_false (by omega)
  have f8 : (n < 8) = False := eq_false (by omega)
  have g8 : (n ≤ 8) = False := eq_false (by omega)
  have e0 : (n = 0) = False := eq_false (by omega)
  have h21 : ((2 : Int) = 1) = False := eq_false (by decide)
  have h31 : ((3 : Int) = 1) = False := eq_false (by decide)
  have h41 : ((4 : Int) = 1) = False := eq_false (by decide)
  have fw : ∀ S, w__law_fewest [.str "linked", .int 3] S = some (.int 4, S) := fun S => by kernel_rfl
  have fp : ∀ S, w_fewest_people [.str "linked", .int 3] S = some (.int 4, S) := fun S => by kernel_rfl
  have a : ∀ S, w_least_of [.str "linked", .int 3, .int n] S = some (.int ((n * 3 + 1) / 2), S) := by
    intro S
    refine Qr_iff.mpr ?_ |> R.eq
    unfold w_least_of d_least_of b_least_of
    push_cast [in8_0, in8_1, in8_2, in8_3, in8_4, in8_5, fw, fp, h21, h31, h41, w_most_groups, d_most_groups, b_most_groups, w_most_rings, d_most_rings, b_most_rings, w_most_pairs, d_most_pairs, b_most_pairs, w_is_all_tied, d_is_all_tied, b_is_all_tied, w_pairs_of, d_pairs_of, b_pairs_of, w__law_two, d__law_two, b__law_two, f0, g0, f1, g1, f2, g2, f3, g3, f4, g4, f5, g5, f6, g6, f7, g7, f8, g8, e0, Int.reduceMul, Int.reduceSub, Int.reduceAdd]
    all_goals ((repeat' apply And.intro) <;> first | rfl | decide | exact lg_lit (by omega) (by omega) | exact small_two (by omega) (by omega) | (refine small_lit ?_ ?_ <;> omega) | trace_state)
  have b : ∀ S, w__law_least [.str "linked", .int 3, .int n] S = some (.int ((n * 3 + 1) / 2), S) := by
    intro S
    refine Qr_iff.mpr ?_ |> R.eq
    unfold w__law_least d__law_least b__law_least
    push_cast [in8_0, in8_1, in8_2, in8_3, in8_4, in8_5, fw, fp, h21, h31, h41, w_most_groups, d_most_groups, b_most_groups, w_most_rings, d_most_rings, b_most_rings, w_most_pairs, d_most_pairs, b_most_pairs, w_is_all_tied, d_is_all_tied, b_is_all_tied, w_pairs_of, d_pairs_of, b_pairs_of, w__law_two, d__law_two, b__law_two, f0, g0, f1, g1, f2, g2, f3, g3, f4, g4, f5, g5, f6, g6, f7, g7, f8, g8, e0, Int.reduceMul, Int.reduceSub, Int.reduceAdd]
    all_goals ((repeat' apply And.intro) <;> first | rfl | decide | exact lg_lit (by omega) (by omega) | exact small_two (by omega) (by omega) | (refine small_lit ?_ ?_ <;> omega) | trace_state)
  have c : ∀ S, w_most_of [.str "linked", .int 3, .int n] S = some (.int ((n - 1) * (n - 1 - 1) / 2 + 3 - 1), S) := by
    intro S
    refine Qr_iff.mpr ?_ |> R.eq
    unfold w_most_of d_most_of b_most_of
    push_cast [in8_0, in8_1, in8_2, in8_3, in8_4, in8_5, fw, fp, h21, h31, h41, w_most_groups, d_most_groups, b_most_groups, w_most_rings, d_most_rings, b_most_rings, w_most_pairs, d_most_pairs, b_most_pairs, w_is_all_tied, d_is_all_tied, b_is_all_tied, w_pairs_of, d_pairs_of, b_pairs_of, w__law_two, d__law_two, b__law_two, f0, g0, f1, g1, f2, g2, f3, g3, f4, g4, f5, g5, f6, g6, f7, g7, f8, g8, e0, Int.reduceMul, Int.reduceSub, Int.reduceAdd]
    all_goals ((repeat' apply And.intro) <;> first | rfl | decide | exact lg_lit (by omega) (by omega) | exact small_two (by omega) (by omega) | (refine small_lit ?_ ?_ <;> omega) | trace_state)
  have d : ∀ S, w__law_most [.str "linked", .int 3, .int n] S = some (.int ((n - 1) * (n - 1 - 1) / 2 + 3 - 1), S) := by
    intro S
    refine Qr_iff.mpr ?_ |> R.eq
    unfold w__law_most d__law_most b__law_most
    push_cast [in8_0, in8_1, in8_2, in8_3, in8_4, in8_5, fw, fp, h21, h31, h41, w_most_groups, d_most_groups, b_most_groups, w_most_rings, d_most_rings, b_most_rings, w_most_pairs, d_most_pairs, b_most_pairs, w_is_all_tied, d_is_all_tied, b_is_all_tied, w_pairs_of, d_pairs_of, b_pairs_of, w__law_two, d__law_two, b__law_two, f0, g0, f1, g1, f2, g2, f3, g3, f4, g4, f5, g5, f6, g6, f7, g7, f8, g8, e0, Int.reduceMul, Int.reduceSub, Int.reduceAdd]
    all_goals ((repeat' apply And.intro) <;> first | rfl | decide | exact lg_lit (by omega) (by omega) | exact small_two (by omega) (by omega) | (refine small_lit ?_ ?_ <;> omega) | trace_state)
  have m : 0 ≤ (n - 1) * (n - 1 - 1) / 2 + 3 - 1 ∧ (n - 1) * (n - 1 - 1) / 2 + 3 - 1 ≤ 10000000000000000000 := by
    obtain ⟨p0, p1⟩ := mul_bd (a := n - 1) (b := n - 1 - 1) (A := 2000000000) (B := 2000000000) (by omega) (by omega) (by omega) (by omega)
    generalize (n - 1) * (n - 1 - 1) = X at p0 p1
    omega
  exact ⟨a, b, c, d, m.1, m.2, fun l h => by cases h; omega⟩
theorem lmb25 {n : Int} (h9 : 9 ≤ n) (hn : n ≤ 2000000000) : LM "linked" (.int 4) n (some ((n * 4 + 1) / 2)) ((n - 1) * (n - 1 - 1) / 2 + 4 - 1) := by
  have f0 : (n < 0) = False := eq_false (by omega)
  have g0 : (n ≤ 0) = False := eq_false (by omega)
  have f1 : (n < 1) = False := eq_false (by omega)
  have g1 : (n ≤ 1) = False := eq_false (by omega)
  have f2 : (n < 2) = False := eq_false (by omega)
  have g2 : (n ≤ 2) = False := eq_false (by omega)
  have f3 : (n < 3) = False := eq_false (by omega)
  have g3 : (n ≤ 3) = False := eq_false (by omega)
  have f4 : (n < 4) = False := eq_false (by omega)
  have g4 : (n ≤ 4) = False := eq_false (by omega)
  have f5 : (n < 5) = False := eq_false (by omega)
  have g5 : (n ≤ 5) = False := eq_false (by omega)
  have f6 : (n < 6) = False := eq_false (by omega)
  have g6 : (n ≤ 6) = False := eq_false (by omega)
  have f7 : (n < 7) = False := eq_false (by omega)
  have g7 : (n ≤ 7) = False := eq_false (by omega)
  have f8 : (n < 8) = False := eq_false (by omega)
  have g8 : (n ≤ 8) = False := eq_false (by omega)
  have e0 : (n = 0) = False := eq_false (by omega)
  have h21 : ((2 : Int) = 1) = False := eq_false (by decide)
  have h31 : ((3 : Int) = 1) = False := eq_false (by decide)
  have h41 : ((4 : Int) = 1) = False := eq_false (by decide)
  have fw : ∀ S, w__law_fewest [.str "linked", .int 4] S = some (.int 5, S) := fun S => by kernel_rfl
  have fp : ∀ S, w_fewest_people [.str "linked", .int 4] S = some (.int 5, S) := fun S => by kernel_rfl
  have a : ∀ S, w_least_of [.str "linked", .int 4, .int n] S = some (.int ((n * 4 + 1) / 2), S) := by
    intro S
    refine Qr_iff.mpr ?_ |> R.eq
    unfold w_least_of d_least_of b_least_of
    push_cast [in8_0, in8_1, in8_2, in8_3, in8_4, in8_5, fw, fp, h21, h31, h41, w_most_groups, d_most_groups, b_most_groups, w_most_rings, d_most_rings, b_most_rings, w_most_pairs, d_most_pairs, b_most_pairs, w_is_all_tied, d_is_all_tied, b_is_all_tied, w_pairs_of, d_pairs_of, b_pairs_of, w__law_two, d__law_two, b__law_two, f0, g0, f1, g1, f2, g2, f3, g3, f4, g4, f5, g5, f6, g6, f7, g7, f8, g8, e0, Int.reduceMul, Int.reduceSub, Int.reduceAdd]
    all_goals ((repeat' apply And.intro) <;> first | rfl | decide | exact lg_lit (by omega) (by omega) | exact small_two (by omega) (by omega) | (refine small_lit ?_ ?_ <;> omega) | trace_state)
  have b : ∀ S, w__law_least [.str "linked", .int 4, .int n] S = some (.int ((n * 4 + 1) / 2), S) := by
    intro S
    refine Qr_iff.mpr ?_ |> R.eq
    unfold w__law_least d__law_least b__law_least
    push_cast [in8_0, in8_1, in8_2, in8_3, in8_4, in8_5, fw, fp, h21, h31, h41, w_most_groups, d_most_groups, b_most_groups, w_most_rings, d_most_rings, b_most_rings, w_most_pairs, d_most_pairs, b_most_pairs, w_is_all_tied, d_is_all_tied, b_is_all_tied, w_pairs_of, d_pairs_of, b_pairs_of, w__law_two, d__law_two, b__law_two, f0, g0, f1, g1, f2, g2, f3, g3, f4, g4, f5, g5, f6, g6, f7, g7, f8, g8, e0, Int.reduceMul, Int.reduceSub, Int.reduceAdd]
    all_goals ((repeat' apply And.intro) <;> first | rfl | decide | exact lg_lit (by omega) (by omega) | exact small_two (by omega) (by omega) | (refine small_lit ?_ ?_ <;> omega) | trace_state)
  have c : ∀ S, w_most_of [.str "linked", .int 4, .int n] S = some (.int ((n - 1) * (n - 1 - 1) / 2 + 4 - 1), S) := by
    intro S
    refine Qr_iff.mpr ?_ |> R.eq
    unfold w_most_of d_most_of b_most_of
    push_cast [in8_0, in8_1, in8_2, in8_3, in8_4, in8_5, fw, fp, h21, h31, h41, w_most_groups, d_most_groups, b_most_groups, w_most_rings, d_most_rings, b_most_rings, w_most_pairs, d_most_pairs, b_most_pairs, w_is_all_tied, d_is_all_tied, b_is_all_tied, w_pairs_of, d_pairs_of, b_pairs_of, w__law_two, d__law_two, b__law_two, f0, g0, f1, g1, f2, g2, f3, g3, f4, g4, f5, g5, f6, g6, f7, g7, f8, g8, e0, Int.reduceMul, Int.reduceSub, Int.reduceAdd]
    all_goals ((repeat' apply And.intro) <;> first | rfl | decide | exact lg_lit (by omega) (by omega) | exact small_two (by omega) (by omega) | (refine small_lit ?_ ?_ <;> omega) | trace_state)
  have d : ∀ S, w__law_most [.str "linked", .int 4, .int n] S = some (.int ((n - 1) * (n - 1 - 1) / 2 + 4 - 1), S) := by
    intro S
    refine Qr_iff.mpr ?_ |> R.eq
    unfold w__law_most d__law_most b__law_most
    push_cast [in8_0, in8_1, in8_2, in8_3, in8_4, in8_5, fw, fp, h21, h31, h41, w_most_groups, d_most_groups, b_most_groups, w_most_rings, d_most_rings, b_most_rings, w_most_pairs, d_most_pairs, b_most_pairs, w_is_all_tied, d_is_all_tied, b_is_all_tied, w_pairs_of, d_pairs_of, b_pairs_of, w__law_two, d__law_two, b__law_two, f0, g0, f1, g1, f2, g2, f3, g3, f4, g4, f5, g5, f6, g6, f7, g7, f8, g8, e0, Int.reduceMul, Int.reduceSub, Int.reduceAdd]
    all_goals ((repeat' apply And.intro) <;> first | rfl | decide | exact lg_lit (by omega) (by omega) | exact small_two (by omega) (by omega) | (refine small_lit ?_ ?_ <;> omega) | trace_state)
  have m : 0 ≤ (n - 1) * (n - 1 - 1) / 2 + 4 - 1 ∧ (n - 1) * (n - 1 - 1) / 2 + 4 - 1 ≤ 10000000000000000000 := by
    obtain ⟨p0, p1⟩ := mul_bd (a := n - 1) (b := n - 1 - 1) (A := 2000000000) (B := 2000000000) (by omega) (by omega) (by omega) (by omega)
    generalize (n - 1) * (n - 1 - 1) = X at p0 p1
    omega
  exact ⟨a, b, c, d, m.1, m.2, fun l h => by cases h; omega⟩
end LW
namespace LW
open PySem PySem.Spec L2 TL DL
open PyProof.Rows hiding pairD cutD
open Tk
def T26 : List (Str × D) := [("odd ring", .non), ("even ring", .non), ("crowd", .int 2), ("crowd", .int 3), ("crowd", .int 4), ("star", .int 1), ("star", .int 2), ("star", .int 3), ("star", .int 4), ("pairs", .int 1), ("pairs", .int 2), ("pairs", .int 3), ("pairs", .int 4), ("row", .int 2), ("row", .int 3), ("row", .int 4), ("ring", .int 3), ("ring", .int 4), ("core", .int 1), ("core", .int 2), ("core", .int 3), ("core", .int 4), ("linked", .int 1), ("linked", .int 2), ("linked", .int 3), ("linked", .int 4)]
def thD (p : Str × D) : D := .tup [.str p.1, p.2]
theorem things4 (S : Sto) : w__law_things [.int 4] S = some (.lst (T26.map thD), S) := by kernel_rfl
theorem mem_nil {α : Type} {P : α → Prop} : ∀ x ∈ ([] : List α), P x := fun x h => by cases h
theorem mem_cons {α : Type} {P : α → Prop} {a : α} {l : List α} (h : P a) (hl : ∀ x ∈ l, P x) : ∀ x ∈ a :: l, P x := fun x hx => by
  rcases List.mem_cons.mp hx with rfl | hx
  · exact h
  · exact hl x hx
def LMs (p : Str × D) : Prop := ∀ n : Int, 3 ≤ n → n ≤ 2000000000 → ∃ L M, LM p.1 p.2 n L M
theorem lms {kd : Str} {z : D} (h3 : ∃ L M, LM kd z 3 L M) (h4 : ∃ L M, LM kd z 4 L M) (h5 : ∃ L M, LM kd z 5 L M) (h6 : ∃ L M, LM kd z 6 L M) (h7 : ∃ L M, LM kd z 7 L M) (h8 : ∃ L M, LM kd z 8 L M) (h9 : ∀ n : Int, 9 ≤ n → n ≤ 2000000000 → ∃ L M, LM kd z n L M) : LMs (kd, z) := fun n n3 nb => by
  have h : n = 3 ∨ n = 4 ∨ n = 5 ∨ n = 6 ∨ n = 7 ∨ n = 8 ∨ 9 ≤ n := by omega
  rcases h with rfl | rfl | rfl | rfl | rfl | rfl | h
  · exact h3
  · exact h4
  · exact h5
  · exact h6
  · exact h7
  · exact h8
  · exact h9 n h nb
theorem lm_all : ∀ p ∈ T26, LMs p := mem_cons (lms ⟨_, _, lm0_3⟩ ⟨_, _, lm0_4⟩ ⟨_, _, lm0_5⟩ ⟨_, _, lm0_6⟩ ⟨_, _, lm0_7⟩ ⟨_, _, lm0_8⟩ fun n h hn => ⟨_, _, lmb0 h hn⟩) (mem_cons (lms ⟨_, _, lm1_3⟩ ⟨_, _, lm1_4⟩ ⟨_, _, lm1_5⟩ ⟨_, _, lm1_6⟩ ⟨_, _, lm1_7⟩ ⟨_, _, lm1_8⟩ fun n h hn => ⟨_, _, lmb1 h hn⟩) (mem_cons (lms ⟨_, _, lm2_3⟩ ⟨_, _, lm2_4⟩ ⟨_, _, lm2_5⟩ ⟨_, _, lm2_6⟩ ⟨_, _, lm2_7⟩ ⟨_, _, lm2_8⟩ fun n h hn => ⟨_, _, lmb2 h hn⟩) (mem_cons (lms ⟨_, _, lm3_3⟩ ⟨_, _, lm3_4⟩ ⟨_, _, lm3_5⟩ ⟨_, _, lm3_6⟩ ⟨_, _, lm3_7⟩ ⟨_, _, lm3_8⟩ fun n h hn => ⟨_, _, lmb3 h hn⟩) (mem_cons (lms ⟨_, _, lm4_3⟩ ⟨_, _, lm4_4⟩ ⟨_, _, lm4_5⟩ ⟨_, _, lm4_6⟩ ⟨_, _, lm4_7⟩ ⟨_, _, lm4_8⟩ fun n h hn => ⟨_, _, lmb4 h hn⟩) (mem_cons (lms ⟨_, _, lm5_3⟩ ⟨_, _, lm5_4⟩ ⟨_, _, lm5_5⟩ ⟨_, _, lm5_6⟩ ⟨_, _, lm5_7⟩ ⟨_, _, lm5_8⟩ fun n h hn => ⟨_, _, lmb5 h hn⟩) (mem_cons (lms ⟨_, _, lm6_3⟩ ⟨_, _, lm6_4⟩ ⟨_, _, lm6_5⟩ ⟨_, _, lm6_6⟩ ⟨_, _, lm6_7⟩ ⟨_, _, lm6_8⟩ fun n h hn => ⟨_, _, lmb6 h hn⟩) (mem_cons (lms ⟨_, _, lm7_3⟩ ⟨_, _, lm7_4⟩ ⟨_, _, lm7_5⟩ ⟨_, _, lm7_6⟩ ⟨_, _, lm7_7⟩ ⟨_, _, lm7_8⟩ fun n h hn => ⟨_, _, lmb7 h hn⟩) (mem_cons (lms ⟨_, _, lm8_3⟩ ⟨_, _, lm8_4⟩ ⟨_, _, lm8_5⟩ ⟨_, _, lm8_6⟩ ⟨_, _, lm8_7⟩ ⟨_, _, lm8_8⟩ fun n h hn => ⟨_, _, lmb8 h hn⟩) (mem_cons (lms ⟨_, _, lm9_3⟩ ⟨_, _, lm9_4⟩ ⟨_, _, lm9_5⟩ ⟨_, _, lm9_6⟩ ⟨_, _, lm9_7⟩ ⟨_, _, lm9_8⟩ fun n h hn => ⟨_, _, lmb9 h hn⟩) (mem_cons (lms ⟨_, _, lm10_3⟩ ⟨_, _, lm10_4⟩ ⟨_, _, lm10_5⟩ ⟨_, _, lm10_6⟩ ⟨_, _, lm10_7⟩ ⟨_, _, lm10_8⟩ fun n h hn => ⟨_, _, lmb10 h hn⟩) (mem_cons (lms ⟨_, _, lm11_3⟩ ⟨_, _, lm11_4⟩ ⟨_, _, lm11_5⟩ ⟨_, _, lm11_6⟩ ⟨_, _, lm11_7⟩ ⟨_, _, lm11_8⟩ fun n h hn => ⟨_, _, lmb11 h hn⟩) (mem_cons (lms ⟨_, _, lm12_3⟩ ⟨_, _, lm12_4⟩ ⟨_, _, lm12_5⟩ ⟨_, _, lm12_6⟩ ⟨_, _, lm12_7⟩ ⟨_, _, lm12_8⟩ fun n h hn => ⟨_, _, lmb12 h hn⟩) (mem_cons (lms ⟨_, _, lm13_3⟩ ⟨_, _, lm13_4⟩ ⟨_, _, lm13_5⟩ ⟨_, _, lm13_6⟩ ⟨_, _, lm13_7⟩ ⟨_, _, lm13_8⟩ fun n h hn => ⟨_, _, lmb13 h hn⟩) (mem_cons (lms ⟨_, _, lm14_3⟩ ⟨_, _, lm14_4⟩ ⟨_, _, lm14_5⟩ ⟨_, _, lm14_6⟩ ⟨_, _, lm14_7⟩ ⟨_, _, lm14_8⟩ fun n h hn => ⟨_, _, lmb14 h hn⟩) (mem_cons (lms ⟨_, _, lm15_3⟩ ⟨_, _, lm15_4⟩ ⟨_, _, lm15_5⟩ ⟨_, _, lm15_6⟩ ⟨_, _, lm15_7⟩ ⟨_, _, lm15_8⟩ fun n h hn => ⟨_, _, lmb15 h hn⟩) (mem_cons (lms ⟨_, _, lm16_3⟩ ⟨_, _, lm16_4⟩ ⟨_, _, lm16_5⟩ ⟨_, _, lm16_6⟩ ⟨_, _, lm16_7⟩ ⟨_, _, lm16_8⟩ fun n h hn => ⟨_, _, lmb16 h hn⟩) (mem_cons (lms ⟨_, _, lm17_3⟩ ⟨_, _, lm17_4⟩ ⟨_, _, lm17_5⟩ ⟨_, _, lm17_6⟩ ⟨_, _, lm17_7⟩ ⟨_, _, lm17_8⟩ fun n h hn => ⟨_, _, lmb17 h hn⟩) (mem_cons (lms ⟨_, _, lm18_3⟩ ⟨_, _, lm18_4⟩ ⟨_, _, lm18_5⟩ ⟨_, _, lm18_6⟩ ⟨_, _, lm18_7⟩ ⟨_, _, lm18_8⟩ fun n h hn => ⟨_, _, lmb18 h hn⟩) (mem_cons (lms ⟨_, _, lm19_3⟩ ⟨_, _, lm19_4⟩ ⟨_, _, lm19_5⟩ ⟨_, _, lm19_6⟩ ⟨_, _, lm19_7⟩ ⟨_, _, lm19_8⟩ fun n h hn => ⟨_, _, lmb19 h hn⟩) (mem_cons (lms ⟨_, _, lm20_3⟩ ⟨_, _, lm20_4⟩ ⟨_, _, lm20_5⟩ ⟨_, _, lm20_6⟩ ⟨_, _, lm20_7⟩ ⟨_, _, lm20_8⟩ fun n h hn => ⟨_, _, lmb20 h hn⟩) (mem_cons (lms ⟨_, _, lm21_3⟩ ⟨_, _, lm21_4⟩ ⟨_, _, lm21_5⟩ ⟨_, _, lm21_6⟩ ⟨_, _, lm21_7⟩ ⟨_, _, lm21_8⟩ fun n h hn => ⟨_, _, lmb21 h hn⟩) (mem_cons (lms ⟨_, _, lm22_3⟩ ⟨_, _, lm22_4⟩ ⟨_, _, lm22_5⟩ ⟨_, _, lm22_6⟩ ⟨_, _, lm22_7⟩ ⟨_, _, lm22_8⟩ fun n h hn => ⟨_, _, lmb22 h hn⟩) (mem_cons (lms ⟨_, _, lm23_3⟩ ⟨_, _, lm23_4⟩ ⟨_, _, lm23_5⟩ ⟨_, _, lm23_6⟩ ⟨_, _, lm23_7⟩ ⟨_, _, lm23_8⟩ fun n h hn => ⟨_, _, lmb23 h hn⟩) (mem_cons (lms ⟨_, _, lm24_3⟩ ⟨_, _, lm24_4⟩ ⟨_, _, lm24_5⟩ ⟨_, _, lm24_6⟩ ⟨_, _, lm24_7⟩ ⟨_, _, lm24_8⟩ fun n h hn => ⟨_, _, lmb24 h hn⟩) (mem_cons (lms ⟨_, _, lm25_3⟩ ⟨_, _, lm25_4⟩ ⟨_, _, lm25_5⟩ ⟨_, _, lm25_6⟩ ⟨_, _, lm25_7⟩ ⟨_, _, lm25_8⟩ fun n h hn => ⟨_, _, lmb25 h hn⟩) (mem_nil))))))))))))))))))))))))))
theorem mk_all : ∀ p ∈ T26, mkF_Thing [.str p.1, p.2] = some [.str p.1, p.2] := mem_cons (by kernel_rfl) (mem_cons (by kernel_rfl) (mem_cons (by kernel_rfl) (mem_cons (by kernel_rfl) (mem_cons (by kernel_rfl) (mem_cons (by kernel_rfl) (mem_cons (by kernel_rfl) (mem_cons (by kernel_rfl) (mem_cons (by kernel_rfl) (mem_cons (by kernel_rfl) (mem_cons (by kernel_rfl) (mem_cons (by kernel_rfl) (mem_cons (by kernel_rfl) (mem_cons (by kernel_rfl) (mem_cons (by kernel_rfl) (mem_cons (by kernel_rfl) (mem_cons (by kernel_rfl) (mem_cons (by kernel_rfl) (mem_cons (by kernel_rfl) (mem_cons (by kernel_rfl) (mem_cons (by kernel_rfl) (mem_cons (by kernel_rfl) (mem_cons (by kernel_rfl) (mem_cons (by kernel_rfl) (mem_cons (by kernel_rfl) (mem_cons (by kernel_rfl) (mem_nil))))))))))))))))))))))))))
end LW
namespace LW
open PySem PySem.Spec L2 TL DL
open PyProof.Rows hiding pairD cutD
open Tk
local macro_rules | `(tactic| push_cast [$xs,*] $[$l]?) => `(tactic| simp only [↓q_Chain3, ↓q_iEnum, ↓q_sForR, ↓q_iR3, ↓q_repT, ↓q_ListR1, ↓q_TupR1, ↓q_iSeq, ↓q_zipM, ↓wzip_m, ↓q_nil0, ↓q_tIf, ↓q_star, ↓q_zip, ↓wseq_t, ↓wseq_l, ↓wzip_t, ↓wzip_l, ↓q_pfl_nx, ↓q_pfl_rt, ↓q_pfl_bk, ↓q_pfl_ct, ↓q_run_rt, ↓q_run_nx, ↓q_bk_nx, ↓q_bk_ct, ↓q_bk_bk, ↓q_bk_rt, ↓q_R_some, ↓q_R_none, ↓q_R_cond, ↓q_var0, ↓q_varS, ↓q_C, ↓q_Bin, ↓q_neg, ↓q_nil, ↓q_cons, ↓q_tup, ↓q_lst, ↓q_lstM, ↓q_Call, ↓q_And, ↓q_Or, ↓q_Not, ↓q_Test, ↓q_tAnd, ↓q_tOr, ↓q_tNot, ↓q_If, ↓q_Chain, ↓q_Skip, ↓q_Break, ↓q_Cont, ↓q_Never, ↓q_fNever, ↓q_Seq, ↓q_Expr, ↓q_Ret, ↓q_sIf, ↓q_Asg, ↓q_N, ↓q_gNil, ↓q_gCons, ↓q_gTup, ↓q_gSub, ↓q_Par, ↓q_Run, ↓q_For, ↓q_iLst, ↓q_iTup, ↓q_iR1, ↓q_iR2, ↓q_add, ↓q_addL, ↓q_addS, ↓q_I0, ↓q_mul, ↓q_fdiv, ↓q_mod, ↓q_eqI, ↓q_eqS, ↓q_eqB, ↓q_neI, ↓q_neS, ↓q_neB, ↓q_isN, ↓q_notN, ↓q_isi, ↓q_abs, ↓q_max2, ↓q_min2, ↓q_maxT, ↓q_intI, ↓q_intB, ↓q_lenS, ↓q_lenT, ↓q_lenL, ↓q_lenC, ↓q_divmod, ↓q_listL, ↓q_listT, ↓q_tupL, ↓q_tupT, ↓q_KIn, ↓q_Fld, ↓q_Meth, ↓q_MakeF, ↓q_sFld, ↓q_KIx, ↓q_inT, ↓q_inL, ↓q_inS, ↓q_ixL, ↓q_ixT, ↓q_ixC, ↓q_Lc, ↓q_Yes, ↓q_Sl, ↓q_oNone, ↓q_oSome, ↓q_slC, ↓q_slL, ↓q_slS, ↓q_MethK, ↓q_CallK, ↓q_Repr, ↓q_DispF, ↓q_DIx, ↓q_rep, ↓q_Prop, ↓q_IsC, ↓q_DGet1, ↓q_DIn, ↓q_gUnl, ↓q_DictK, ↓q_repM, ↓q_aXi, ↓q_aXs, ↓q_aXt, ↓q_aXl, ↓q_aMl, ↓q_ltX, ↓q_leX, ↓q_leX2, ↓q_SlX, ↓q_sXc, ↓q_sXl, ↓q_sXt, ↓q_sXs, ↓q_RevT, ↓q_sxI, ↓q_sxS, ↓q_lxT, ↓q_lxL, ↓q_txL, ↓q_txT, ↓q_lmT, ↓q_lmL, ↓q_Par3, ↓q_Join, ↓wp_two, ↓wp_r1, ↓wp_r2, ↓wp_someB, ↓wp_strE, ↓wp_FldO, ↓wp_someL, ↓wp_last, ↓wp_someX, ↓wp_three, ↓q_p40, ↓qi_t, ↓qi_f, ↓wb_bl, ↓wi_int, ↓wstr_str, ↓wtup_tup, ↓wlst_lst, ↓wref_ref, isn_int, isn_non, isn_str, isn_tup, isn_lst, isn_ref, isn_bl, isi_str_str, isi_int_int, isi_int_bl, isi_bool_int, isi_bool_bl, isi_int_non, isi_int_str, isi_tuple_tup, str_eq, String.reduceEq, List.any_cons, List.any_nil, List.all_cons, List.all_nil, Bool.and_true, Bool.or_false, Bool.true_and, Bool.false_and, Bool.and_false, Bool.false_or, Bool.or_true, Bool.true_or, Bool.not_not, flat_str, flat_int, flat_non, eqF_str, List.map_cons, List.map_nil, List.length_cons, List.length_nil, List.length_map, List.cons_append, List.nil_append, List.append_nil, List.set_cons_zero, List.set_cons_succ, List.replicate_succ, List.replicate_zero, Nat.reduceSub, Nat.reduceAdd, Nat.reduceLeDiff, Nat.zero_add, Nat.sub_self, Bool.not_eq_true', Bool.not_true, Bool.not_false, if_true, if_false, reduceIte, Bool.false_eq_true, true_and, and_true, decide_true, decide_false, Bool.true_eq_false, eq_self, $xs,*] $[$l]?)
theorem drawB {S : Sto} {i : Nat} {m : Int} {P : Tk → D → Sto → Prop} (h : Prs S i) (hm : 0 < m) (hm2 : m ≤ 1000000000) (k : ∀ r S', 0 ≤ r → r < m → Prs S' i → DL.Apart S S' i → P go (.int r) S') : Qr go (w__law_draw [.ref i, .int m] S) P :=
  r_draw h hm (by omega) k
abbrev twoI (n : Int) : Int := n * (n - 1) / 2
theorem two_bd {n : Int} (h0 : 0 ≤ n) (h1 : n ≤ 3000000000) : 0 ≤ twoI n ∧ twoI n ≤ 10000000000000000000 := by
  unfold twoI
  rcases Int.lt_or_le 0 n with h | h
  · obtain ⟨p0, p1⟩ := mul_bd (a := n) (b := n - 1) (A := 3000000000) (B := 3000000000) (by omega) h1 (by omega) (by omega)
    generalize n * (n - 1) = X at p0 p1
    omega
  · have : n = 0 := by omega
    subst this
    decide
theorem pairs_of_eq {n : Int} (h0 : 0 ≤ n) (h1 : n ≤ 3000000000) (S : Sto) : w_pairs_of [.int n] S = some (.int (twoI n), S) := by
  refine Qr_iff.mpr ?_ |> R.eq
  unfold w_pairs_of d_pairs_of b_pairs_of
  push_cast []
  exact ⟨⟨small_lit (by omega) (by omega), small_lit (by omega) (by omega)⟩, (by decide : (0 : Int) < 2), lg_lit (by omega) (by omega)⟩
theorem law_two_eq {n : Int} (h0 : 0 ≤ n) (h1 : n ≤ 3000000000) (S : Sto) : w__law_two [.int n] S = some (.int (twoI n), S) := by
  refine Qr_iff.mpr ?_ |> R.eq
  unfold w__law_two d__law_two b__law_two
  push_cast []
  exact ⟨⟨small_lit (by omega) (by omega), small_lit (by omega) (by omega)⟩, (by decide : (0 : Int) < 2), lg_lit (by omega) (by omega)⟩
theorem chk_ok {n : Int} (h0 : 0 ≤ n) (h1 : n ≤ 3000000000) (S : Sto) : w_check_people [.int n, .int 10000000000000000000000000000000000000000] S = some (.non, S) := by
  have e1 : w_is_integer [.int n] S = some (.bl true, S) := rfl
  have f1 : (n < 0) = False := eq_false (by omega)
  have f2 : (n > 10000000000000000000000000000000000000000) = False := eq_false (by omega)
  refine Qr_iff.mpr ?_ |> R.eq
  unfold w_check_people d_check_people b_check_people
  push_cast [e1, f1, f2]
def fateS (L : Option Int) (M t : Int) : Str := match L with
  | none => "never"
  | some l => if t < l then "never" else if M < t then "always" else "perhaps"
theorem fate_eq {kd : Str} {z : D} {n : Int} {L : Option Int} {M : Int} (h : LM kd z n L M) (h0 : 3 ≤ n) (h1 : n ≤ 2000000000) {t : Int} (t0 : 0 ≤ t) (t1 : t ≤ twoI n) (S : Sto) : w_Thing_fate [.obj "Thing" ["word", "many"] [.str kd, z], .int n, .int t] S = some (.str (fateS L M t), S) := by
  have hb : w_is_between [.int t, .int 0, .int (twoI n)] S = some (.bl true, S) := by
    rw [is_between_eq rfl]
    show some (D.bl (decide (0 ≤ t) && decide (t ≤ twoI n)), S) = _
    rw [decide_eq_true t0, decide_eq_true t1]
    rfl
  have hc := chk_ok (n := n) (by omega) (by omega) S
  have hp := pairs_of_eq (n := n) (by omega) (by omega) S
  refine Qr_iff.mpr ?_ |> R.eq
  unfold w_Thing_fate d_Thing_fate b_Thing_fate
  push_cast [hc, hp, hb]
  refine ⟨_, rfl, _, rfl, q_of (h.a S) ?_⟩
  cases L with
  | none =>
    push_cast [oD]
    rfl
  | some l =>
    have hM := h.c S
    push_cast [oD]
    refine qi_dec (fun hl => ?_) fun hl => ?_
    · push_cast []
      show _ = D.str (if t < l then _ else _)
      rw [if_pos hl]
    · push_cast []
      refine ⟨_, rfl, _, rfl, q_of hM ?_⟩
      push_cast []
      refine qi_dec (fun hm => ?_) fun hm => ?_
      · push_cast []
        show _ = D.str (if t < l then _ else if M < t then _ else _)
        rw [if_neg hl, if_pos hm]
      · push_cast []
        show _ = D.str (if t < l then _ else if M < t then _ else _)
        rw [if_neg hl, if_neg hm]
theorem far_ok {kd : Str} {z : D} (mk : mkF_Thing [.str kd, z] = some [.str kd, z]) (lm : LMs (kd, z)) {S : Sto} {i : Nat} (hP : Prs S i) : Qr go (w__law_far_right [.ref i, .str kd, z] S) fun _ d S' => d = .bl true ∧ Prs S' i := by
  have p9 : ∀ S, gPow (.int 10) (.int 9) S = some (.int 1000000000, S) := fun S => by kernel_rfl
  unfold w__law_far_right d__law_far_right b__law_far_right
  push_cast [p9]
  refine drawB hP (by decide) (by decide) fun r S1 r0 r1 hP1 _ => ?_
  obtain ⟨n, hn⟩ : ∃ n, 3 + r = n := ⟨_, rfl⟩
  have n0 : 3 ≤ n := by omega
  have n1 : n ≤ 2000000000 := by omega
  obtain ⟨L, M, h⟩ := lm n n0 n1
  have two := law_two_eq (n := n) (by omega) (by omega)
  have hfate := fun t t0 t1 => fate_eq h n0 n1 (t := t) t0 t1
  obtain ⟨b0, b1⟩ := two_bd (n := n) (by omega) (by omega)
  have hM0 := h.m0
  have hM1 := h.m1
  have hl0 := h.l0
  push_cast [hn, mk]
  refine q_of (h.b S1) ?_
  push_cast []
  refine q_of (h.d S1) ?_
  push_cast [two, p9]
  refine drawB hP1 (by decide) (by decide) fun d S2 d0 d1 hP2 _ => ?_
  cases L with
  | none =>
    push_cast [oD]
    obtain ⟨ts, hts⟩ : ∃ ts : List Int, ts = [0, twoI n, M, (if twoI n < M + 1 then twoI n else M + 1), d] := ⟨_, rfl⟩
    have h0 : ∀ t ∈ ts, 0 ≤ t := by
      subst hts
      refine mem_cons (by omega) (mem_cons b0 (mem_cons hM0 (mem_cons ?_ (mem_cons d0 mem_nil))))
      split <;> omega
    rw [show [D.int 0, D.int (twoI n), D.int M, D.int (if twoI n < M + 1 then twoI n else M + 1), D.int d] = ts.map D.int from by rw [hts]; rfl]
    refine q_lcQ D.int D.int (fun t => decide (t ≤ twoI n)) (fun t ht => ?_) ?_
    · push_cast [wipeD, two]
      exact fun _ => trivial
    refine q_forM [8, 9] (fun S' => S' = S2) rfl ?_ ?_
    · rintro d' hd' _ S3 ⟨a8, a9, rfl⟩ rfl
      obtain ⟨t, ht, rfl⟩ := List.mem_map.mp hd'
      rw [List.mem_filter, decide_eq_true_eq] at ht
      have hf := hfate t (h0 t ht.1) ht.2 S3
      have ef : fateS none M t = "never" := rfl
      push_cast []
      refine ⟨⟨_, rfl, rfl⟩, q_of hf ?_⟩
      push_cast [ef]
      exact ⟨_, _, rfl⟩
    · rintro _ S3 ⟨a8, a9, rfl⟩ rfl
      push_cast []
      exact hP2
  | some l =>
    obtain ⟨l0, l1⟩ := hl0 l rfl
    push_cast [oD]
    obtain ⟨ts, hts⟩ : ∃ ts : List Int, ts = [0, twoI n, M, (if twoI n < M + 1 then twoI n else M + 1), d, l, (if l - 1 > 0 then l - 1 else 0)] := ⟨_, rfl⟩
    have h0 : ∀ t ∈ ts, 0 ≤ t := by
      subst hts
      refine mem_cons (by omega) (mem_cons b0 (mem_cons hM0 (mem_cons ?_ (mem_cons d0 (mem_cons l0 (mem_cons ?_ mem_nil))))))
      · split <;> omega
      · split <;> omega
    rw [show [D.int 0, D.int (twoI n), D.int M, D.int (if twoI n < M + 1 then twoI n else M + 1), D.int d, D.int l, D.int (if l - 1 > 0 then l - 1 else 0)] = ts.map D.int from by rw [hts]; rfl]
    refine q_lcQ D.int D.int (fun t => decide (t ≤ twoI n)) (fun t ht => ?_) ?_
    · push_cast [wipeD, two]
      exact fun _ => trivial
    refine q_forM [8, 9] (fun S' => S' = S2) rfl ?_ ?_
    · rintro d' hd' _ S3 ⟨a8, a9, rfl⟩ rfl
      obtain ⟨t, ht, rfl⟩ := List.mem_map.mp hd'
      rw [List.mem_filter, decide_eq_true_eq] at ht
      have hf := hfate t (h0 t ht.1) ht.2 S3
      push_cast []
      refine qi_dec (fun hl => ?_) fun hl => ?_
      · push_cast []
        refine ⟨⟨_, rfl, rfl⟩, q_of hf ?_⟩
        have ef : fateS (some l) M t = "never" := if_pos hl
        push_cast [ef]
        exact ⟨_, _, rfl⟩
      · push_cast []
        refine qi_dec (fun hm => ?_) fun hm => ?_
        · push_cast []
          refine ⟨⟨_, rfl, rfl⟩, q_of hf ?_⟩
          have ef : fateS (some l) M t = "always" := (if_neg hl).trans (if_pos hm)
          push_cast [ef]
          exact ⟨_, _, rfl⟩
        · push_cast []
          refine ⟨⟨_, rfl, rfl⟩, q_of hf ?_⟩
          have ef : fateS (some l) M t = "perhaps" := (if_neg hl).trans (if_neg hm)
          push_cast [ef]
          exact ⟨_, _, rfl⟩
    · rintro _ S3 ⟨a8, a9, rfl⟩ rfl
      push_cast []
      exact hP2
end LW
namespace LW
open PySem PySem.Spec L2 TL DL
open PyProof.Rows hiding pairD cutD
open Tk
local macro_rules | `(tactic| push_cast [$xs,*] $[$l]?) => `(tactic| simp only [↓q_Chain3, ↓q_iEnum, ↓q_sForR, ↓q_iR3, ↓q_repT, ↓q_ListR1, ↓q_TupR1, ↓q_iSeq, ↓q_zipM, ↓wzip_m, ↓q_nil0, ↓q_tIf, ↓q_star, ↓q_zip, ↓wseq_t, ↓wseq_l, ↓wzip_t, ↓wzip_l, ↓q_pfl_nx, ↓q_pfl_rt, ↓q_pfl_bk, ↓q_pfl_ct, ↓q_run_rt, ↓q_run_nx, ↓q_bk_nx, ↓q_bk_ct, ↓q_bk_bk, ↓q_bk_rt, ↓q_R_some, ↓q_R_none, ↓q_R_cond, ↓q_var0, ↓q_varS, ↓q_C, ↓q_Bin, ↓q_neg, ↓q_nil, ↓q_cons, ↓q_tup, ↓q_lst, ↓q_lstM, ↓q_Call, ↓q_And, ↓q_Or, ↓q_Not, ↓q_Test, ↓q_tAnd, ↓q_tOr, ↓q_tNot, ↓q_If, ↓q_Chain, ↓q_Skip, ↓q_Break, ↓q_Cont, ↓q_Never, ↓q_fNever, ↓q_Seq, ↓q_Expr, ↓q_Ret, ↓q_sIf, ↓q_Asg, ↓q_N, ↓q_gNil, ↓q_gCons, ↓q_gTup, ↓q_gSub, ↓q_Par, ↓q_Run, ↓q_For, ↓q_iLst, ↓q_iTup, ↓q_iR1, ↓q_iR2, ↓q_add, ↓q_addL, ↓q_addS, ↓q_I0, ↓q_mul, ↓q_fdiv, ↓q_mod, ↓q_eqI, ↓q_eqS, ↓q_eqB, ↓q_neI, ↓q_neS, ↓q_neB, ↓q_isN, ↓q_notN, ↓q_isi, ↓q_abs, ↓q_max2, ↓q_min2, ↓q_maxT, ↓q_intI, ↓q_intB, ↓q_lenS, ↓q_lenT, ↓q_lenL, ↓q_lenC, ↓q_divmod, ↓q_listL, ↓q_listT, ↓q_tupL, ↓q_tupT, ↓q_KIn, ↓q_Fld, ↓q_Meth, ↓q_MakeF, ↓q_sFld, ↓q_KIx, ↓q_inT, ↓q_inL, ↓q_inS, ↓q_ixL, ↓q_ixT, ↓q_ixC, ↓q_Lc, ↓q_Yes, ↓q_Sl, ↓q_oNone, ↓q_oSome, ↓q_slC, ↓q_slL, ↓q_slS, ↓q_MethK, ↓q_CallK, ↓q_Repr, ↓q_DispF, ↓q_DIx, ↓q_rep, ↓q_Prop, ↓q_IsC, ↓q_DGet1, ↓q_DIn, ↓q_gUnl, ↓q_DictK, ↓q_repM, ↓q_aXi, ↓q_aXs, ↓q_aXt, ↓q_aXl, ↓q_aMl, ↓q_ltX, ↓q_leX, ↓q_leX2, ↓q_SlX, ↓q_sXc, ↓q_sXl, ↓q_sXt, ↓q_sXs, ↓q_RevT, ↓q_sxI, ↓q_sxS, ↓q_lxT, ↓q_lxL, ↓q_txL, ↓q_txT, ↓q_lmT, ↓q_lmL, ↓q_Par3, ↓q_Join, ↓wp_two, ↓wp_r1, ↓wp_r2, ↓wp_someB, ↓wp_strE, ↓wp_FldO, ↓wp_someL, ↓wp_last, ↓wp_someX, ↓wp_three, ↓q_p40, ↓qi_t, ↓qi_f, ↓wb_bl, ↓wi_int, ↓wstr_str, ↓wtup_tup, ↓wlst_lst, ↓wref_ref, isn_int, isn_non, isn_str, isn_tup, isn_lst, isn_ref, isn_bl, isi_str_str, isi_int_int, isi_int_bl, isi_bool_int, isi_bool_bl, isi_int_non, isi_int_str, isi_tuple_tup, str_eq, String.reduceEq, List.any_cons, List.any_nil, List.all_cons, List.all_nil, Bool.and_true, Bool.or_false, Bool.true_and, Bool.false_and, Bool.and_false, Bool.false_or, Bool.or_true, Bool.true_or, Bool.not_not, flat_str, flat_int, flat_non, eqF_str, List.map_cons, List.map_nil, List.length_cons, List.length_nil, List.length_map, List.cons_append, List.nil_append, List.append_nil, List.set_cons_zero, List.set_cons_succ, List.replicate_succ, List.replicate_zero, Nat.reduceSub, Nat.reduceAdd, Nat.reduceLeDiff, Nat.zero_add, Nat.sub_self, Bool.not_eq_true', Bool.not_true, Bool.not_false, if_true, if_false, reduceIte, Bool.false_eq_true, true_and, and_true, decide_true, decide_false, Bool.true_eq_false, eq_self, $xs,*] $[$l]?)
theorem right_ok (hI : ∀ p ∈ T26, ∀ n : Nat, n ≤ 4 → ∀ S, w__law_is_right [.str p.1, p.2, .int (n : Int)] S = some (.bl true, S)) {S : Sto} {i : Nat} (hP : Prs S i) : Qr go (w__law_right [.ref i] S) fun _ d _ => d = .bl true := by
  unfold w__law_right d__law_right b__law_right
  generalize w__law_is_right = g at hI ⊢
  push_cast [things4]
  refine q_forM [2, 3, 4] (fun S' => Prs S' i) hP ?_ ?_
  · rintro d hd _ S1 ⟨a2, a3, a4, rfl⟩ hP1
    obtain ⟨p, hp, rfl⟩ := List.mem_map.mp hd
    push_cast [thD]
    refine q_imp (far_ok (mk_all p hp) (lm_all p hp) hP1) ?_
    rintro _ S2 ⟨rfl, hP2⟩
    push_cast []
    refine ⟨rfl, ?_⟩
    refine q_for [4] (fun _ S' => S' = S2) rfl ?_ ?_
    · rintro j d _ S3 hj ⟨b4, rfl⟩ rfl
      obtain ⟨k, rfl, hk⟩ : ∃ k : Nat, d = .int (k : Int) ∧ k ≤ 4 := by
        have hj4 : j < 4 := (List.getElem?_eq_some_iff.mp hj).1
        have h : j = 0 ∨ j = 1 ∨ j = 2 ∨ j = 3 := by omega
        rcases h with rfl | rfl | rfl | rfl
        · exact ⟨0, (Option.some.inj hj).symm, by omega⟩
        · exact ⟨1, (Option.some.inj hj).symm, by omega⟩
        · exact ⟨2, (Option.some.inj hj).symm, by omega⟩
        · exact ⟨3, (Option.some.inj hj).symm, by omega⟩
      have hg := hI p hp k hk S3
      push_cast [hg]
      exact ⟨_, rfl⟩
    · rintro _ S3 ⟨b4, rfl⟩ rfl
      push_cast []
      exact ⟨⟨_, _, _, rfl⟩, hP2⟩
  · rintro _ S1 ⟨a2, a3, a4, rfl⟩ hP1
    push_cast []
    refine drawQ hP1 (by decide) (by decide) fun x S2 x0 x1 hP2 _ => ?_
    obtain ⟨j, rfl⟩ := Int.eq_ofNat_of_zero_le x0
    have hj : j < T26.length := by omega
    have hx : L2.atI (T26.map thD) (j : Int) = some (thD T26[j]) := atI_nat (by rw [List.getElem?_map, List.getElem?_eq_getElem hj]; rfl)
    have hg := hI _ (List.getElem_mem hj) 4 (by omega) S2
    push_cast []
    refine ⟨_, hx, ?_⟩
    push_cast [thD]
    refine q_of hg ?_
    push_cast []
end LW
namespace LW
open PySem PySem.Spec L2 TL DL
theorem setK_is {ds : List D} {ks : List NestedKey} (h : toNKs ds = some ks) (ok : okK ks = true) : setK ks = isort leK (ddk ks) := by
  have al := (Bool.and_eq_true_iff.mp ok).1
  have ik := toNKs_ik h
  have p : (setK ks).Perm (isort leK (ddk ks)) := (List.mergeSort_perm _ _).trans (isort_perm _ _).symm
  refine p.eq_of_pairwise (le := fun a b => leK a b = true) (fun a b ha hb g1 g2 => ?_) (List.pairwise_mergeSort leK_trans leK_total _) (isort_sorted ⟨leK_trans, fun a b => by have := leK_total a b; rwa [Bool.or_eq_true] at this⟩ _)
  have ha := mem_setK.mp ha
  have hb := mem_setK.mp (p.mem_iff.mpr hb)
  exact leK_anti (ik a ha) (ik b hb) (List.all_eq_true.mp (List.all_eq_true.mp al a ha) b hb) g1 g2
def fSortK' (fe : FE) : FE := fun env S => (fe env S).bind fun p => (lstOf p.2 p.1).bind fun ds => match asInts ds with
  | some ns => if ns.length < 64 then some (.lst ((isort leI (ddi ns)).map .int), p.2) else none
  | none => (toNKs ds).bind fun ks => if okK ks = true ∧ (ddk ks).length ≤ 62 then some (.lst ((isort leK (ddk ks)).map nkD), p.2) else none
theorem fSortK_eq (fe : FE) : fSortK fe = fSortK' fe := by
  funext env S
  unfold fSortK fSortK'
  congr 1
  funext p
  congr 1
  funext ds
  cases asInts ds with
  | some ns => rfl
  | none =>
    cases h : toNKs ds with
    | none => rfl
    | some ks =>
      show (if okK ks = true ∧ (ddk ks).length ≤ 62 then some (D.lst ((setK ks).map nkD), p.2) else none) = (if okK ks = true ∧ (ddk ks).length ≤ 62 then some (D.lst ((isort leK (ddk ks)).map nkD), p.2) else none)
      by_cases ok : okK ks = true
      · rw [setK_is h ok]
      · rw [if_neg (fun e => ok e.1), if_neg (fun e => ok e.1)]
def bR (c__law_tied : FD) : FS :=
  (sSeq (sAsg (fLc (iRange1 (fCons (fVar 0) fNil)) (gN 8) tYesD (fTup (fCons (fTup (fCons (fVar 8) fNil)) (fCons (fVar 8) fNil))) [8]) (gN 3))
    (sSeq (sFor (iRange1 (fCons (fBin gSubI (fVar 2) (fC (.int 1))) fNil)) (gN 4) (sSeq (sAsg (fLstM fNil) (gN 5))
    (sSeq (sFor (iLst (fVar 3)) (gTup 2 (gCons (gN 6) (gCons (gN 7) gNil))) (sFor (iRange1 (fCons (fVar 0) fNil)) (gN 8) (sIf (tAndD (fTest (fBin (gInX true) (fVar 8) (fVar 6))) (fTest (fCall c__law_tied (fCons (fVar 1) (fCons (fVar 7) (fCons (fVar 8) fNil)))))) (sExpr (fAppend (fVar 5) (fTup (fCons (fCall cTupleX (fCons (fCall cSorted (fCons (fBin gAddX (fVar 6) (fTup (fCons (fVar 8) fNil))) fNil)) fNil)) (fCons (fVar 8) fNil))))) sSkip)))
    (sAsg (fSortK' (fVar 5)) (gN 3)))))
    (sRet (fVar 3))))
theorem rows_is (g : FD) : d__law_rows_of g = runD 9 (bR g) := by
  unfold d__law_rows_of b__law_rows_of bR
  rw [fSortK_eq]
abbrev wR : FD := pureD (runD 9 (bR w__law_tied))
abbrev wH : FD := d__law_holds w__law_subsets w__law_joined w__law_core w__law_is_crowd w__law_rings wR w__law_pairs_apart
abbrev wF : FD := d__law_fate wH w__law_subsets w__law_all
abbrev wI : FD := d__law_is_right w__law_two w_Thing_fate wF mkF_Thing
theorem is_right_is : w__law_is_right = wI := by
  have e : w__law_rows_of = wR := congrArg pureD (rows_is _)
  show d__law_is_right w__law_two w_Thing_fate (d__law_fate (d__law_holds w__law_subsets w__law_joined w__law_core w__law_is_crowd w__law_rings w__law_rows_of w__law_pairs_apart) w__law_subsets w__law_all) mkF_Thing = _
  rw [e]
theorem t1 (S : Sto) : wI [.str "row", .int 4, .int 3] S = some (.bl true, S) := by kernel_rfl
end LW
namespace LW
open PySem PySem.Spec L2 TL DL
theorem c0_0 (S : Sto) : wI [.str "odd ring", .non, .int 0] S = some (.bl true, S) := by kernel_rfl
theorem c0_1 (S : Sto) : wI [.str "odd ring", .non, .int 1] S = some (.bl true, S) := by kernel_rfl
theorem c0_2 (S : Sto) : wI [.str "odd ring", .non, .int 2] S = some (.bl true, S) := by kernel_rfl
theorem c0_3 (S : Sto) : wI [.str "odd ring", .non, .int 3] S = some (.bl true, S) := by kernel_rfl
theorem c1_0 (S : Sto) : wI [.str "even ring", .non, .int 0] S = some (.bl true, S) := by kernel_rfl
theorem c1_1 (S : Sto) : wI [.str "even ring", .non, .int 1] S = some (.bl true, S) := by kernel_rfl
theorem c1_2 (S : Sto) : wI [.str "even ring", .non, .int 2] S = some (.bl true, S) := by kernel_rfl
theorem c1_3 (S : Sto) : wI [.str "even ring", .non, .int 3] S = some (.bl true, S) := by kernel_rfl
theorem c2_0 (S : Sto) : wI [.str "crowd", .int 2, .int 0] S = some (.bl true, S) := by kernel_rfl
theorem c2_1 (S : Sto) : wI [.str "crowd", .int 2, .int 1] S = some (.bl true, S) := by kernel_rfl
theorem c2_2 (S : Sto) : wI [.str "crowd", .int 2, .int 2] S = some (.bl true, S) := by kernel_rfl
theorem c2_3 (S : Sto) : wI [.str "crowd", .int 2, .int 3] S = some (.bl true, S) := by kernel_rfl
theorem c3_0 (S : Sto) : wI [.str "crowd", .int 3, .int 0] S = some (.bl true, S) := by kernel_rfl
theorem c3_1 (S : Sto) : wI [.str "crowd", .int 3, .int 1] S = some (.bl true, S) := by kernel_rfl
theorem c3_2 (S : Sto) : wI [.str "crowd", .int 3, .int 2] S = some (.bl true, S) := by kernel_rfl
theorem c3_3 (S : Sto) : wI [.str "crowd", .int 3, .int 3] S = some (.bl true, S) := by kernel_rfl
theorem c4_0 (S : Sto) : wI [.str "crowd", .int 4, .int 0] S = some (.bl true, S) := by kernel_rfl
theorem c4_1 (S : Sto) : wI [.str "crowd", .int 4, .int 1] S = some (.bl true, S) := by kernel_rfl
theorem c4_2 (S : Sto) : wI [.str "crowd", .int 4, .int 2] S = some (.bl true, S) := by kernel_rfl
theorem c4_3 (S : Sto) : wI [.str "crowd", .int 4, .int 3] S = some (.bl true, S) := by kernel_rfl
theorem c5_0 (S : Sto) : wI [.str "star", .int 1, .int 0] S = some (.bl true, S) := by kernel_rfl
theorem c5_1 (S : Sto) : wI [.str "star", .int 1, .int 1] S = some (.bl true, S) := by kernel_rfl
theorem c5_2 (S : Sto) : wI [.str "star", .int 1, .int 2] S = some (.bl true, S) := by kernel_rfl
theorem c5_3 (S : Sto) : wI [.str "star", .int 1, .int 3] S = some (.bl true, S) := by kernel_rfl
theorem c6_0 (S : Sto) : wI [.str "star", .int 2, .int 0] S = some (.bl true, S) := by kernel_rfl
theorem c6_1 (S : Sto) : wI [.str "star", .int 2, .int 1] S = some (.bl true, S) := by kernel_rfl
theorem c6_2 (S : Sto) : wI [.str "star", .int 2, .int 2] S = some (.bl true, S) := by kernel_rfl
theorem c6_3 (S : Sto) : wI [.str "star", .int 2, .int 3] S = some (.bl true, S) := by kernel_rfl
theorem c7_0 (S : Sto) : wI [.str "star", .int 3, .int 0] S = some (.bl true, S) := by kernel_rfl
theorem c7_1 (S : Sto) : wI [.str "star", .int 3, .int 1] S = some (.bl true, S) := by kernel_rfl
theorem c7_2 (S : Sto) : wI [.str "star", .int 3, .int 2] S = some (.bl true, S) := by kernel_rfl
theorem c7_3 (S : Sto) : wI [.str "star", .int 3, .int 3] S = some (.bl true, S) := by kernel_rfl
theorem c8_0 (S : Sto) : wI [.str "star", .int 4, .int 0] S = some (.bl true, S) := by kernel_rfl
theorem c8_1 (S : Sto) : wI [.str "star", .int 4, .int 1] S = some (.bl true, S) := by kernel_rfl
theorem c8_2 (S : Sto) : wI [.str "star", .int 4, .int 2] S = some (.bl true, S) := by kernel_rfl
theorem c8_3 (S : Sto) : wI [.str "star", .int 4, .int 3] S = some (.bl true, S) := by kernel_rfl
theorem c9_0 (S : Sto) : wI [.str "pairs", .int 1, .int 0] S = some (.bl true, S) := by kernel_rfl
theorem c9_1 (S : Sto) : wI [.str "pairs", .int 1, .int 1] S = some (.bl true, S) := by kernel_rfl
theorem c9_2 (S : Sto) : wI [.str "pairs", .int 1, .int 2] S = some (.bl true, S) := by kernel_rfl
theorem c9_3 (S : Sto) : wI [.str "pairs", .int 1, .int 3] S = some (.bl true, S) := by kernel_rfl
theorem c10_0 (S : Sto) : wI [.str "pairs", .int 2, .int 0] S = some (.bl true, S) := by kernel_rfl
theorem c10_1 (S : Sto) : wI [.str "pairs", .int 2, .int 1] S = some (.bl true, S) := by kernel_rfl
theorem c10_2 (S : Sto) : wI [.str "pairs", .int 2, .int 2] S = some (.bl true, S) := by kernel_rfl
theorem c10_3 (S : Sto) : wI [.str "pairs", .int 2, .int 3] S = some (.bl true, S) := by kernel_rfl
theorem c11_0 (S : Sto) : wI [.str "pairs", .int 3, .int 0] S = some (.bl true, S) := by kernel_rfl
theorem c11_1 (S : Sto) : wI [.str "pairs", .int 3, .int 1] S = some (.bl true, S) := by kernel_rfl
theorem c11_2 (S : Sto) : wI [.str "pairs", .int 3, .int 2] S = some (.bl true, S) := by kernel_rfl
theorem c11_3 (S : Sto) : wI [.str "pairs", .int 3, .int 3] S = some (.bl true, S) := by kernel_rfl
theorem c12_0 (S : Sto) : wI [.str "pairs", .int 4, .int 0] S = some (.bl true, S) := by kernel_rfl
theorem c12_1 (S : Sto) : wI [.str "pairs", .int 4, .int 1] S = some (.bl true, S) := by kernel_rfl
theorem c12_2 (S : Sto) : wI [.str "pairs", .int 4, .int 2] S = some (.bl true, S) := by kernel_rfl
theorem c12_3 (S : Sto) : wI [.str "pairs", .int 4, .int 3] S = some (.bl true, S) := by kernel_rfl
theorem c13_0 (S : Sto) : wI [.str "row", .int 2, .int 0] S = some (.bl true, S) := by kernel_rfl
theorem c13_1 (S : Sto) : wI [.str "row", .int 2, .int 1] S = some (.bl true, S) := by kernel_rfl
theorem c13_2 (S : Sto) : wI [.str "row", .int 2, .int 2] S = some (.bl true, S) := by kernel_rfl
theorem c13_3 (S : Sto) : wI [.str "row", .int 2, .int 3] S = some (.bl true, S) := by kernel_rfl
theorem c14_0 (S : Sto) : wI [.str "row", .int 3, .int 0] S = some (.bl true, S) := by kernel_rfl
theorem c14_1 (S : Sto) : wI [.str "row", .int 3, .int 1] S = some (.bl true, S) := by kernel_rfl
theorem c14_2 (S : Sto) : wI [.str "row", .int 3, .int 2] S = some (.bl true, S) := by kernel_rfl
theorem c14_3 (S : Sto) : wI [.str "row", .int 3, .int 3] S = some (.bl true, S) := by kernel_rfl
theorem c15_0 (S : Sto) : wI [.str "row", .int 4, .int 0] S = some (.bl true, S) := by kernel_rfl
theorem c15_1 (S : Sto) : wI [.str "row", .int 4, .int 1] S = some (.bl true, S) := by kernel_rfl
theorem c15_2 (S : Sto) : wI [.str "row", .int 4, .int 2] S = some (.bl true, S) := by kernel_rfl
theorem c15_3 (S : Sto) : wI [.str "row", .int 4, .int 3] S = some (.bl true, S) := by kernel_rfl
theorem c16_0 (S : Sto) : wI [.str "ring", .int 3, .int 0] S = some (.bl true, S) := by kernel_rfl
theorem c16_1 (S : Sto) : wI [.str "ring", .int 3, .int 1] S = some (.bl true, S) := by kernel_rfl
theorem c16_2 (S : Sto) : wI [.str "ring", .int 3, .int 2] S = some (.bl true, S) := by kernel_rfl
theorem c16_3 (S : Sto) : wI [.str "ring", .int 3, .int 3] S = some (.bl true, S) := by kernel_rfl
theorem c17_0 (S : Sto) : wI [.str "ring", .int 4, .int 0] S = some (.bl true, S) := by kernel_rfl
theorem c17_1 (S : Sto) : wI [.str "ring", .int 4, .int 1] S = some (.bl true, S) := by kernel_rfl
theorem c17_2 (S : Sto) : wI [.str "ring", .int 4, .int 2] S = some (.bl true, S) := by kernel_rfl
theorem c17_3 (S : Sto) : wI [.str "ring", .int 4, .int 3] S = some (.bl true, S) := by kernel_rfl
theorem c18_0 (S : Sto) : wI [.str "core", .int 1, .int 0] S = some (.bl true, S) := by kernel_rfl
theorem c18_1 (S : Sto) : wI [.str "core", .int 1, .int 1] S = some (.bl true, S) := by kernel_rfl
theorem c18_2 (S : Sto) : wI [.str "core", .int 1, .int 2] S = some (.bl true, S) := by kernel_rfl
theorem c18_3 (S : Sto) : wI [.str "core", .int 1, .int 3] S = some (.bl true, S) := by kernel_rfl
theorem c19_0 (S : Sto) : wI [.str "core", .int 2, .int 0] S = some (.bl true, S) := by kernel_rfl
theorem c19_1 (S : Sto) : wI [.str "core", .int 2, .int 1] S = some (.bl true, S) := by kernel_rfl
theorem c19_2 (S : Sto) : wI [.str "core", .int 2, .int 2] S = some (.bl true, S) := by kernel_rfl
theorem c19_3 (S : Sto) : wI [.str "core", .int 2, .int 3] S = some (.bl true, S) := by kernel_rfl
theorem c20_0 (S : Sto) : wI [.str "core", .int 3, .int 0] S = some (.bl true, S) := by kernel_rfl
theorem c20_1 (S : Sto) : wI [.str "core", .int 3, .int 1] S = some (.bl true, S) := by kernel_rfl
theorem c20_2 (S : Sto) : wI [.str "core", .int 3, .int 2] S = some (.bl true, S) := by kernel_rfl
theorem c20_3 (S : Sto) : wI [.str "core", .int 3, .int 3] S = some (.bl true, S) := by kernel_rfl
theorem c21_0 (S : Sto) : wI [.str "core", .int 4, .int 0] S = some (.bl true, S) := by kernel_rfl
theorem c21_1 (S : Sto) : wI [.str "core", .int 4, .int 1] S = some (.bl true, S) := by kernel_rfl
theorem c21_2 (S : Sto) : wI [.str "core", .int 4, .int 2] S = some (.bl true, S) := by kernel_rfl
theorem c21_3 (S : Sto) : wI [.str "core", .int 4, .int 3] S = some (.bl true, S) := by kernel_rfl
theorem c22_0 (S : Sto) : wI [.str "linked", .int 1, .int 0] S = some (.bl true, S) := by kernel_rfl
theorem c22_1 (S : Sto) : wI [.str "linked", .int 1, .int 1] S = some (.bl true, S) := by kernel_rfl
theorem c22_2 (S : Sto) : wI [.str "linked", .int 1, .int 2] S = some (.bl true, S) := by kernel_rfl
theorem c22_3 (S : Sto) : wI [.str "linked", .int 1, .int 3] S = some (.bl true, S) := by kernel_rfl
theorem c23_0 (S : Sto) : wI [.str "linked", .int 2, .int 0] S = some (.bl true, S) := by kernel_rfl
theorem c23_1 (S : Sto) : wI [.str "linked", .int 2, .int 1] S = some (.bl true, S) := by kernel_rfl
theorem c23_2 (S : Sto) : wI [.str "linked", .int 2, .int 2] S = some (.bl true, S) := by kernel_rfl
theorem c23_3 (S : Sto) : wI [.str "linked", .int 2, .int 3] S = some (.bl true, S) := by kernel_rfl
theorem c24_0 (S : Sto) : wI [.str "linked", .int 3, .int 0] S = some (.bl true, S) := by kernel_rfl
theorem c24_1 (S : Sto) : wI [.str "linked", .int 3, .int 1] S = some (.bl true, S) := by kernel_rfl
theorem c24_2 (S : Sto) : wI [.str "linked", .int 3, .int 2] S = some (.bl true, S) := by kernel_rfl
theorem c24_3 (S : Sto) : wI [.str "linked", .int 3, .int 3] S = some (.bl true, S) := by kernel_rfl
theorem c25_0 (S : Sto) : wI [.str "linked", .int 4, .int 0] S = some (.bl true, S) := by kernel_rfl
theorem c25_1 (S : Sto) : wI [.str "linked", .int 4, .int 1] S = some (.bl true, S) := by kernel_rfl
theorem c25_2 (S : Sto) : wI [.str "linked", .int 4, .int 2] S = some (.bl true, S) := by kernel_rfl
theorem c25_3 (S : Sto) : wI [.str "linked", .int 4, .int 3] S = some (.bl true, S) := by kernel_rfl
end LW
namespace LW
open PySem PySem.Spec L2 TL DL
theorem c0_4 (S : Sto) : wI [.str "odd ring", .non, .int 4] S = some (.bl true, S) := by kernel_rfl
theorem c1_4 (S : Sto) : wI [.str "even ring", .non, .int 4] S = some (.bl true, S) := by kernel_rfl
theorem c2_4 (S : Sto) : wI [.str "crowd", .int 2, .int 4] S = some (.bl true, S) := by kernel_rfl
theorem c3_4 (S : Sto) : wI [.str "crowd", .int 3, .int 4] S = some (.bl true, S) := by kernel_rfl
theorem c4_4 (S : Sto) : wI [.str "crowd", .int 4, .int 4] S = some (.bl true, S) := by kernel_rfl
theorem c5_4 (S : Sto) : wI [.str "star", .int 1, .int 4] S = some (.bl true, S) := by kernel_rfl
theorem c6_4 (S : Sto) : wI [.str "star", .int 2, .int 4] S = some (.bl true, S) := by kernel_rfl
theorem c7_4 (S : Sto) : wI [.str "star", .int 3, .int 4] S = some (.bl true, S) := by kernel_rfl
theorem c8_4 (S : Sto) : wI [.str "star", .int 4, .int 4] S = some (.bl true, S) := by kernel_rfl
end LW
namespace LW
open PySem PySem.Spec L2 TL DL
theorem c9_4 (S : Sto) : wI [.str "pairs", .int 1, .int 4] S = some (.bl true, S) := by kernel_rfl
theorem c10_4 (S : Sto) : wI [.str "pairs", .int 2, .int 4] S = some (.bl true, S) := by kernel_rfl
theorem c11_4 (S : Sto) : wI [.str "pairs", .int 3, .int 4] S = some (.bl true, S) := by kernel_rfl
theorem c12_4 (S : Sto) : wI [.str "pairs", .int 4, .int 4] S = some (.bl true, S) := by kernel_rfl
theorem c13_4 (S : Sto) : wI [.str "row", .int 2, .int 4] S = some (.bl true, S) := by kernel_rfl
theorem c14_4 (S : Sto) : wI [.str "row", .int 3, .int 4] S = some (.bl true, S) := by kernel_rfl
theorem c15_4 (S : Sto) : wI [.str "row", .int 4, .int 4] S = some (.bl true, S) := by kernel_rfl
theorem c16_4 (S : Sto) : wI [.str "ring", .int 3, .int 4] S = some (.bl true, S) := by kernel_rfl
theorem c17_4 (S : Sto) : wI [.str "ring", .int 4, .int 4] S = some (.bl true, S) := by kernel_rfl
end LW
namespace LW
open PySem PySem.Spec L2 TL DL
theorem c18_4 (S : Sto) : wI [.str "core", .int 1, .int 4] S = some (.bl true, S) := by kernel_rfl
theorem c19_4 (S : Sto) : wI [.str "core", .int 2, .int 4] S = some (.bl true, S) := by kernel_rfl
theorem c20_4 (S : Sto) : wI [.str "core", .int 3, .int 4] S = some (.bl true, S) := by kernel_rfl
theorem c21_4 (S : Sto) : wI [.str "core", .int 4, .int 4] S = some (.bl true, S) := by kernel_rfl
theorem c22_4 (S : Sto) : wI [.str "linked", .int 1, .int 4] S = some (.bl true, S) := by kernel_rfl
theorem c23_4 (S : Sto) : wI [.str "linked", .int 2, .int 4] S = some (.bl true, S) := by kernel_rfl
theorem c24_4 (S : Sto) : wI [.str "linked", .int 3, .int 4] S = some (.bl true, S) := by kernel_rfl
theorem c25_4 (S : Sto) : wI [.str "linked", .int 4, .int 4] S = some (.bl true, S) := by kernel_rfl
end LW
namespace LW
open PySem PySem.Spec L2 TL DL
open PyProof.Rows hiding pairD cutD
open Tk
local macro_rules | `(tactic| push_cast [$xs,*] $[$l]?) => `(tactic| simp only [↓q_Chain3, ↓q_iEnum, ↓q_sForR, ↓q_iR3, ↓q_repT, ↓q_ListR1, ↓q_TupR1, ↓q_iSeq, ↓q_zipM, ↓wzip_m, ↓q_nil0, ↓q_tIf, ↓q_star, ↓q_zip, ↓wseq_t, ↓wseq_l, ↓wzip_t, ↓wzip_l, ↓q_pfl_nx, ↓q_pfl_rt, ↓q_pfl_bk, ↓q_pfl_ct, ↓q_run_rt, ↓q_run_nx, ↓q_bk_nx, ↓q_bk_ct, ↓q_bk_bk, ↓q_bk_rt, ↓q_R_some, ↓q_R_none, ↓q_R_cond, ↓q_var0, ↓q_varS, ↓q_C, ↓q_Bin, ↓q_neg, ↓q_nil, ↓q_cons, ↓q_tup, ↓q_lst, ↓q_lstM, ↓q_Call, ↓q_And, ↓q_Or, ↓q_Not, ↓q_Test, ↓q_tAnd, ↓q_tOr, ↓q_tNot, ↓q_If, ↓q_Chain, ↓q_Skip, ↓q_Break, ↓q_Cont, ↓q_Never, ↓q_fNever, ↓q_Seq, ↓q_Expr, ↓q_Ret, ↓q_sIf, ↓q_Asg, ↓q_N, ↓q_gNil, ↓q_gCons, ↓q_gTup, ↓q_gSub, ↓q_Par, ↓q_Run, ↓q_For, ↓q_iLst, ↓q_iTup, ↓q_iR1, ↓q_iR2, ↓q_add, ↓q_addL, ↓q_addS, ↓q_I0, ↓q_mul, ↓q_fdiv, ↓q_mod, ↓q_eqI, ↓q_eqS, ↓q_eqB, ↓q_neI, ↓q_neS, ↓q_neB, ↓q_isN, ↓q_notN, ↓q_isi, ↓q_abs, ↓q_max2, ↓q_min2, ↓q_maxT, ↓q_intI, ↓q_intB, ↓q_lenS, ↓q_lenT, ↓q_lenL, ↓q_lenC, ↓q_divmod, ↓q_listL, ↓q_listT, ↓q_tupL, ↓q_tupT, ↓q_KIn, ↓q_Fld, ↓q_Meth, ↓q_MakeF, ↓q_sFld, ↓q_KIx, ↓q_inT, ↓q_inL, ↓q_inS, ↓q_ixL, ↓q_ixT, ↓q_ixC, ↓q_Lc, ↓q_Yes, ↓q_Sl, ↓q_oNone, ↓q_oSome, ↓q_slC, ↓q_slL, ↓q_slS, ↓q_MethK, ↓q_CallK, ↓q_Repr, ↓q_DispF, ↓q_DIx, ↓q_rep, ↓q_Prop, ↓q_IsC, ↓q_DGet1, ↓q_DIn, ↓q_gUnl, ↓q_DictK, ↓q_repM, ↓q_aXi, ↓q_aXs, ↓q_aXt, ↓q_aXl, ↓q_aMl, ↓q_ltX, ↓q_leX, ↓q_leX2, ↓q_SlX, ↓q_sXc, ↓q_sXl, ↓q_sXt, ↓q_sXs, ↓q_RevT, ↓q_sxI, ↓q_sxS, ↓q_lxT, ↓q_lxL, ↓q_txL, ↓q_txT, ↓q_lmT, ↓q_lmL, ↓q_Par3, ↓q_Join, ↓wp_two, ↓wp_r1, ↓wp_r2, ↓wp_someB, ↓wp_strE, ↓wp_FldO, ↓wp_someL, ↓wp_last, ↓wp_someX, ↓wp_three, ↓q_p40, ↓qi_t, ↓qi_f, ↓wb_bl, ↓wi_int, ↓wstr_str, ↓wtup_tup, ↓wlst_lst, ↓wref_ref, isn_int, isn_non, isn_str, isn_tup, isn_lst, isn_ref, isn_bl, isi_str_str, isi_int_int, isi_int_bl, isi_bool_int, isi_bool_bl, isi_int_non, isi_int_str, isi_tuple_tup, str_eq, String.reduceEq, List.any_cons, List.any_nil, List.all_cons, List.all_nil, Bool.and_true, Bool.or_false, Bool.true_and, Bool.false_and, Bool.and_false, Bool.false_or, Bool.or_true, Bool.true_or, Bool.not_not, flat_str, flat_int, flat_non, eqF_str, List.map_cons, List.map_nil, List.length_cons, List.length_nil, List.length_map, List.cons_append, List.nil_append, List.append_nil, List.set_cons_zero, List.set_cons_succ, List.replicate_succ, List.replicate_zero, Nat.reduceSub, Nat.reduceAdd, Nat.reduceLeDiff, Nat.zero_add, Nat.sub_self, Bool.not_eq_true', Bool.not_true, Bool.not_false, if_true, if_false, reduceIte, Bool.false_eq_true, true_and, and_true, decide_true, decide_false, Bool.true_eq_false, eq_self, $xs,*] $[$l]?)
theorem few {kd : Str} {z : D} (h0 : ∀ S, wI [.str kd, z, .int 0] S = some (.bl true, S)) (h1 : ∀ S, wI [.str kd, z, .int 1] S = some (.bl true, S)) (h2 : ∀ S, wI [.str kd, z, .int 2] S = some (.bl true, S)) (h3 : ∀ S, wI [.str kd, z, .int 3] S = some (.bl true, S)) (h4 : ∀ S, wI [.str kd, z, .int 4] S = some (.bl true, S)) : ∀ n : Nat, n ≤ 4 → ∀ S, wI [.str kd, z, .int (n : Int)] S = some (.bl true, S) := fun n hn => by
  have h : n = 0 ∨ n = 1 ∨ n = 2 ∨ n = 3 ∨ n = 4 := by omega
  rcases h with rfl | rfl | rfl | rfl | rfl
  · exact h0
  · exact h1
  · exact h2
  · exact h3
  · exact h4
theorem is_all0 : ∀ p ∈ T26, ∀ n : Nat, n ≤ 4 → ∀ S, wI [.str p.1, p.2, .int (n : Int)] S = some (.bl true, S) := mem_cons (few c0_0 c0_1 c0_2 c0_3 c0_4) (mem_cons (few c1_0 c1_1 c1_2 c1_3 c1_4) (mem_cons (few c2_0 c2_1 c2_2 c2_3 c2_4) (mem_cons (few c3_0 c3_1 c3_2 c3_3 c3_4) (mem_cons (few c4_0 c4_1 c4_2 c4_3 c4_4) (mem_cons (few c5_0 c5_1 c5_2 c5_3 c5_4) (mem_cons (few c6_0 c6_1 c6_2 c6_3 c6_4) (mem_cons (few c7_0 c7_1 c7_2 c7_3 c7_4) (mem_cons (few c8_0 c8_1 c8_2 c8_3 c8_4) (mem_cons (few c9_0 c9_1 c9_2 c9_3 c9_4) (mem_cons (few c10_0 c10_1 c10_2 c10_3 c10_4) (mem_cons (few c11_0 c11_1 c11_2 c11_3 c11_4) (mem_cons (few c12_0 c12_1 c12_2 c12_3 c12_4) (mem_cons (few c13_0 c13_1 c13_2 c13_3 c13_4) (mem_cons (few c14_0 c14_1 c14_2 c14_3 c14_4) (mem_cons (few c15_0 c15_1 c15_2 c15_3 c15_4) (mem_cons (few c16_0 c16_1 c16_2 c16_3 c16_4) (mem_cons (few c17_0 c17_1 c17_2 c17_3 c17_4) (mem_cons (few c18_0 c18_1 c18_2 c18_3 c18_4) (mem_cons (few c19_0 c19_1 c19_2 c19_3 c19_4) (mem_cons (few c20_0 c20_1 c20_2 c20_3 c20_4) (mem_cons (few c21_0 c21_1 c21_2 c21_3 c21_4) (mem_cons (few c22_0 c22_1 c22_2 c22_3 c22_4) (mem_cons (few c23_0 c23_1 c23_2 c23_3 c23_4) (mem_cons (few c24_0 c24_1 c24_2 c24_3 c24_4) (mem_cons (few c25_0 c25_1 c25_2 c25_3 c25_4) (mem_nil))))))))))))))))))))))))))
theorem is_all : ∀ p ∈ T26, ∀ n : Nat, n ≤ 4 → ∀ S, w__law_is_right [.str p.1, p.2, .int (n : Int)] S = some (.bl true, S) := by
  rw [is_right_is]
  exact is_all0
theorem plain (ns : List Int) (h : ns.length ≤ 63) : ∃ S', lawD [.scr ns] [] = some (.bl true, S') := by
  have main : Qr go (lawD [.scr ns] []) fun _ d S' => d = .bl true := by
    unfold lawD d_law b_law
    push_cast []
    refine ⟨rfl, by rw [len_range]; decide, ?_⟩
    refine q_lcE (fun d => d = .bl true) (fun _ _ => True) trivial ?_ ?_
    · rintro i d S' hi _
      obtain ⟨k, rfl, hk⟩ := range_mem (by omega) (List.mem_of_getElem? hi)
      push_cast [wipeD]
      refine r_purse ns h (k : Int) (by omega) (by omega) S' (P := ?_) fun S2 _ hP _ => ?_
      show Qr go _ _
      push_cast []
      exact q_imp (right_ok is_all hP) fun d S3 e => e
    · intro ys S' hy _ _
      have ea := all_true (S := S') hy
      push_cast [ea]
  obtain ⟨d, S', e, rfl⟩ := main
  exact ⟨S', e⟩
end LW
set_option maxHeartbeats 4000000
namespace LW
open PySem PySem.Spec PyProof.Rows L2 DL
theorem all_mk {l : PySem.W.OpenLaw} {w : World} {K : PySem.W.Frag} {h : Heap} {mg : Str → Option Value} {fa : Addr} (X : K.In h) (G : h.Ns mainGlobals mg) (hfa : mg "law" = some (.ref fa))
    {t_MOST_ASKED : Tok}
    {g_LEAST : Addr} {es_LEAST : Array DictEntry} {cn_LEAST : Nat}
    {ga_PLAIN : Addr} {gd_PLAIN : Option Addr} {gi_PLAIN : Array Value} {gn_PLAIN : Nat} {gs_PLAIN : Array (Option Value)}
    {C_Thing : Addr}
    {f_is_integer : Addr} {od_is_integer an_is_integer : Option Addr} {sl_is_integer : Array (Option Value)} {oc_is_integer kV_is_integer dc_is_integer pm_is_integer cd_is_integer ct_is_integer : Value}
    {f_is_between : Addr} {od_is_between an_is_between : Option Addr} {sl_is_between : Array (Option Value)} {oc_is_between kV_is_between dc_is_between pm_is_between cd_is_between ct_is_between : Value}
    {f_check_people : Addr} {od_check_people an_check_people : Option Addr} {sl_check_people : Array (Option Value)} {oc_check_people kV_check_people dc_check_people pm_check_people cd_check_people ct_check_people : Value}
    {f_pairs_of : Addr} {od_pairs_of an_pairs_of : Option Addr} {sl_pairs_of : Array (Option Value)} {oc_pairs_of kV_pairs_of dc_pairs_of pm_pairs_of cd_pairs_of ct_pairs_of : Value}
    {f_ring_size : Addr} {od_ring_size an_ring_size : Option Addr} {sl_ring_size : Array (Option Value)} {oc_ring_size kV_ring_size dc_ring_size pm_ring_size cd_ring_size ct_ring_size : Value}
    {f_fewest_people : Addr} {od_fewest_people an_fewest_people : Option Addr} {sl_fewest_people : Array (Option Value)} {oc_fewest_people kV_fewest_people dc_fewest_people pm_fewest_people cd_fewest_people ct_fewest_people : Value}
    {f_least_of : Addr} {od_least_of an_least_of : Option Addr} {sl_least_of : Array (Option Value)} {oc_least_of kV_least_of dc_least_of pm_least_of cd_least_of ct_least_of : Value}
    {f_most_pairs : Addr} {od_most_pairs an_most_pairs : Option Addr} {sl_most_pairs : Array (Option Value)} {oc_most_pairs kV_most_pairs dc_most_pairs pm_most_pairs cd_most_pairs ct_most_pairs : Value}
    {f_most_rings : Addr} {od_most_rings an_most_rings : Option Addr} {sl_most_rings : Array (Option Value)} {oc_most_rings kV_most_rings dc_most_rings pm_most_rings cd_most_rings ct_most_rings : Value}
    {f_most_groups : Addr} {od_most_groups an_most_groups : Option Addr} {sl_most_groups : Array (Option Value)} {oc_most_groups kV_most_groups dc_most_groups pm_most_groups cd_most_groups ct_most_groups : Value}
    {f_is_all_tied : Addr} {od_is_all_tied an_is_all_tied : Option Addr} {sl_is_all_tied : Array (Option Value)} {oc_is_all_tied kV_is_all_tied dc_is_all_tied pm_is_all_tied cd_is_all_tied ct_is_all_tied : Value}
    {f_most_of : Addr} {od_most_of an_most_of : Option Addr} {sl_most_of : Array (Option Value)} {oc_most_of kV_most_of dc_most_of pm_most_of cd_most_of ct_most_of : Value}
    {f_Thing___init__ : Addr} {od_Thing___init__ an_Thing___init__ : Option Addr} {sl_Thing___init__ : Array (Option Value)} {oc_Thing___init__ kV_Thing___init__ dc_Thing___init__ pm_Thing___init__ cd_Thing___init__ ct_Thing___init__ : Value}
    {dt_Thing___init__ : Addr} {do_Thing___init__ : Value} {dd_Thing___init__ : Option Addr} {di_Thing___init__ : Array Value} {dn_Thing___init__ : Nat} {ds_Thing___init__ : Array (Option Value)}
    {f_Thing_fate : Addr} {od_Thing_fate an_Thing_fate : Option Addr} {sl_Thing_fate : Array (Option Value)} {oc_Thing_fate kV_Thing_fate dc_Thing_fate pm_Thing_fate cd_Thing_fate ct_Thing_fate : Value}
    {f__law_purse : Addr} {od__law_purse an__law_purse : Option Addr} {sl__law_purse : Array (Option Value)} {oc__law_purse kV__law_purse dc__law_purse pm__law_purse cd__law_purse ct__law_purse : Value}
    {f__law_draw : Addr} {od__law_draw an__law_draw : Option Addr} {sl__law_draw : Array (Option Value)} {oc__law_draw kV__law_draw dc__law_draw pm__law_draw cd__law_draw ct__law_draw : Value}
    {f__law_all : Addr} {od__law_all an__law_all : Option Addr} {sl__law_all : Array (Option Value)} {oc__law_all kV__law_all dc__law_all pm__law_all cd__law_all ct__law_all : Value}
    {f__law_tied : Addr} {od__law_tied an__law_tied : Option Addr} {sl__law_tied : Array (Option Value)} {oc__law_tied kV__law_tied dc__law_tied pm__law_tied cd__law_tied ct__law_tied : Value}
    {f__law_subsets : Addr} {od__law_subsets an__law_subsets : Option Addr} {sl__law_subsets : Array (Option Value)} {oc__law_subsets kV__law_subsets dc__law_subsets pm__law_subsets cd__law_subsets ct__law_subsets : Value}
    {f__law_joined : Addr} {od__law_joined an__law_joined : Option Addr} {sl__law_joined : Array (Option Value)} {oc__law_joined kV__law_joined dc__law_joined pm__law_joined cd__law_joined ct__law_joined : Value}
    {f__law_rows_of : Addr} {od__law_rows_of an__law_rows_of : Option Addr} {sl__law_rows_of : Array (Option Value)} {oc__law_rows_of kV__law_rows_of dc__law_rows_of pm__law_rows_of cd__law_rows_of ct__law_rows_of : Value}
    {f__law_rings : Addr} {od__law_rings an__law_rings : Option Addr} {sl__law_rings : Array (Option Value)} {oc__law_rings kV__law_rings dc__law_rings pm__law_rings cd__law_rings ct__law_rings : Value}
    {f__law_pairs_apart : Addr} {od__law_pairs_apart an__law_pairs_apart : Option Addr} {sl__law_pairs_apart : Array (Option Value)} {oc__law_pairs_apart kV__law_pairs_apart dc__law_pairs_apart pm__law_pairs_apart cd__law_pairs_apart ct__law_pairs_apart : Value}
    {f__law_is_crowd : Addr} {od__law_is_crowd an__law_is_crowd : Option Addr} {sl__law_is_crowd : Array (Option Value)} {oc__law_is_crowd kV__law_is_crowd dc__law_is_crowd pm__law_is_crowd cd__law_is_crowd ct__law_is_crowd : Value}
    {f__law_core : Addr} {od__law_core an__law_core : Option Addr} {sl__law_core : Array (Option Value)} {oc__law_core kV__law_core dc__law_core pm__law_core cd__law_core ct__law_core : Value}
    {f__law_holds : Addr} {od__law_holds an__law_holds : Option Addr} {sl__law_holds : Array (Option Value)} {oc__law_holds kV__law_holds dc__law_holds pm__law_holds cd__law_holds ct__law_holds : Value}
    {f__law_things : Addr} {od__law_things an__law_things : Option Addr} {sl__law_things : Array (Option Value)} {oc__law_things kV__law_things dc__law_things pm__law_things cd__law_things ct__law_things : Value}
    {f__law_two : Addr} {od__law_two an__law_two : Option Addr} {sl__law_two : Array (Option Value)} {oc__law_two kV__law_two dc__law_two pm__law_two cd__law_two ct__law_two : Value}
    {f__law_most : Addr} {od__law_most an__law_most : Option Addr} {sl__law_most : Array (Option Value)} {oc__law_most kV__law_most dc__law_most pm__law_most cd__law_most ct__law_most : Value}
    {f__law_fewest : Addr} {od__law_fewest an__law_fewest : Option Addr} {sl__law_fewest : Array (Option Value)} {oc__law_fewest kV__law_fewest dc__law_fewest pm__law_fewest cd__law_fewest ct__law_fewest : Value}
    {f__law_least : Addr} {od__law_least an__law_least : Option Addr} {sl__law_least : Array (Option Value)} {oc__law_least kV__law_least dc__law_least pm__law_least cd__law_least ct__law_least : Value}
    {f__law_fate : Addr} {od__law_fate an__law_fate : Option Addr} {sl__law_fate : Array (Option Value)} {oc__law_fate kV__law_fate dc__law_fate pm__law_fate cd__law_fate ct__law_fate : Value}
    {f__law_is_right : Addr} {od__law_is_right an__law_is_right : Option Addr} {sl__law_is_right : Array (Option Value)} {oc__law_is_right kV__law_is_right dc__law_is_right pm__law_is_right cd__law_is_right ct__law_is_right : Value}
    {f__law_far_right : Addr} {od__law_far_right an__law_far_right : Option Addr} {sl__law_far_right : Array (Option Value)} {oc__law_far_right kV__law_far_right dc__law_far_right pm__law_far_right cd__law_far_right ct__law_far_right : Value}
    {f__law_right : Addr} {od__law_right an__law_right : Option Addr} {sl__law_right : Array (Option Value)} {oc__law_right kV__law_right dc__law_right pm__law_right cd__law_right ct__law_right : Value}
    {f_law : Addr} {od_law an_law : Option Addr} {sl_law : Array (Option Value)} {oc_law kV_law dc_law pm_law cd_law ct_law : Value}
    (n_abs : PySem.W.nsIn K mainGlobals "abs" = some none)
    (n_all : PySem.W.nsIn K mainGlobals "all" = some none)
    (n_bool : PySem.W.nsIn K mainGlobals "bool" = some none)
    (n_divmod : PySem.W.nsIn K mainGlobals "divmod" = some none)
    (n_int : PySem.W.nsIn K mainGlobals "int" = some none)
    (n_isinstance : PySem.W.nsIn K mainGlobals "isinstance" = some none)
    (n_len : PySem.W.nsIn K mainGlobals "len" = some none)
    (n_list : PySem.W.nsIn K mainGlobals "list" = some none)
    (n_max : PySem.W.nsIn K mainGlobals "max" = some none)
    (n_min : PySem.W.nsIn K mainGlobals "min" = some none)
    (n_range : PySem.W.nsIn K mainGlobals "range" = some none)
    (n_set : PySem.W.nsIn K mainGlobals "set" = some none)
    (n_sorted : PySem.W.nsIn K mainGlobals "sorted" = some none)
    (n_str : PySem.W.nsIn K mainGlobals "str" = some none)
    (n_tuple : PySem.W.nsIn K mainGlobals "tuple" = some none)
    (c_MOST_ASKED : PySem.W.nsIn K mainGlobals "MOST_ASKED" = some (some (.int 10000000000000000000000000000000000000000 t_MOST_ASKED)))
    (k_LEAST : PySem.W.nsIn K mainGlobals "LEAST" = some (some (.ref g_LEAST)))
    (l_LEAST : K.lookup g_LEAST = some ⟨.type "dict", none, .dict es_LEAST cn_LEAST, #[]⟩)
    (o_LEAST : TabOk w.params tab_LEAST es_LEAST.toList)
    (y_LEAST : (g_LEAST == sysModules) = false)
    (ta_PLAIN : PySem.W.nsIn K mainGlobals "PLAIN" = some (some (.ref ga_PLAIN)))
    (tl_PLAIN : K.lookup ga_PLAIN = some ⟨.type "tuple", gd_PLAIN, .seq gi_PLAIN gn_PLAIN, gs_PLAIN⟩)
    (tz_PLAIN : gi_PLAIN.size ≤ sizeLine)
    (tv_PLAIN : Vals [.str "odd ring", .str "even ring"] gi_PLAIN.toList)
    (ca_Thing : PySem.W.nsIn K mainGlobals "Thing" = some (some (.ref C_Thing)))
    (cpg_Thing : PySem.W.plainGet K C_Thing Str.empty = true)
    (chd_Thing : PySem.W.hasDictIn K C_Thing = true)
    (cpo_Thing : PySem.W.plainOver K C_Thing = true)
    (csa_Thing : PySem.W.findIn K (.ref C_Thing) "__setattr__" = some (some (.builtin "object.__setattr__")))
    (cmk_Thing : PySem.W.makesIn K C_Thing = true)
    (ckp_Thing : PySem.W.keepIn K (.ref C_Thing) = true)
    (na_Thing_many : PySem.W.findIn K (.ref C_Thing) "many" = some none)
    (na_Thing_word : PySem.W.findIn K (.ref C_Thing) "word" = some none)
    (a_is_integer : PySem.W.nsIn K mainGlobals "is_integer" = some (some (.ref f_is_integer)))
    (l_is_integer : K.lookup f_is_integer = some ⟨oc_is_integer, od_is_integer, .func (PySem.W.fnOf "is_integer" "is_integer" (defArgs s_is_integer) (defBody s_is_integer) (defScope s_is_integer) .none kV_is_integer dc_is_integer pm_is_integer an_is_integer cd_is_integer ct_is_integer), sl_is_integer⟩)
    (c_is_integer : PySem.W.codeIn K cd_is_integer "is_integer" = true)
    (k_is_integer : PySem.W.keepIn K (.ref f_is_integer) = true)
    (a_is_between : PySem.W.nsIn K mainGlobals "is_between" = some (some (.ref f_is_between)))
    (l_is_between : K.lookup f_is_between = some ⟨oc_is_between, od_is_between, .func (PySem.W.fnOf "is_between" "is_between" (defArgs s_is_between) (defBody s_is_between) (defScope s_is_between) .none kV_is_between dc_is_between pm_is_between an_is_between cd_is_between ct_is_between), sl_is_between⟩)
    (c_is_between : PySem.W.codeIn K cd_is_between "is_between" = true)
    (k_is_between : PySem.W.keepIn K (.ref f_is_between) = true)
    (a_check_people : PySem.W.nsIn K mainGlobals "check_people" = some (some (.ref f_check_people)))
    (l_check_people : K.lookup f_check_people = some ⟨oc_check_people, od_check_people, .func (PySem.W.fnOf "check_people" "check_people" (defArgs s_check_people) (defBody s_check_people) (defScope s_check_people) .none kV_check_people dc_check_people pm_check_people an_check_people cd_check_people ct_check_people), sl_check_people⟩)
    (c_check_people : PySem.W.codeIn K cd_check_people "check_people" = true)
    (k_check_people : PySem.W.keepIn K (.ref f_check_people) = true)
    (a_pairs_of : PySem.W.nsIn K mainGlobals "pairs_of" = some (some (.ref f_pairs_of)))
    (l_pairs_of : K.lookup f_pairs_of = some ⟨oc_pairs_of, od_pairs_of, .func (PySem.W.fnOf "pairs_of" "pairs_of" (defArgs s_pairs_of) (defBody s_pairs_of) (defScope s_pairs_of) .none kV_pairs_of dc_pairs_of pm_pairs_of an_pairs_of cd_pairs_of ct_pairs_of), sl_pairs_of⟩)
    (c_pairs_of : PySem.W.codeIn K cd_pairs_of "pairs_of" = true)
    (k_pairs_of : PySem.W.keepIn K (.ref f_pairs_of) = true)
    (a_ring_size : PySem.W.nsIn K mainGlobals "ring_size" = some (some (.ref f_ring_size)))
    (l_ring_size : K.lookup f_ring_size = some ⟨oc_ring_size, od_ring_size, .func (PySem.W.fnOf "ring_size" "ring_size" (defArgs s_ring_size) (defBody s_ring_size) (defScope s_ring_size) .none kV_ring_size dc_ring_size pm_ring_size an_ring_size cd_ring_size ct_ring_size), sl_ring_size⟩)
    (c_ring_size : PySem.W.codeIn K cd_ring_size "ring_size" = true)
    (k_ring_size : PySem.W.keepIn K (.ref f_ring_size) = true)
    (a_fewest_people : PySem.W.nsIn K mainGlobals "fewest_people" = some (some (.ref f_fewest_people)))
    (l_fewest_people : K.lookup f_fewest_people = some ⟨oc_fewest_people, od_fewest_people, .func (PySem.W.fnOf "fewest_people" "fewest_people" (defArgs s_fewest_people) (defBody s_fewest_people) (defScope s_fewest_people) .none kV_fewest_people dc_fewest_people pm_fewest_people an_fewest_people cd_fewest_people ct_fewest_people), sl_fewest_people⟩)
    (c_fewest_people : PySem.W.codeIn K cd_fewest_people "fewest_people" = true)
    (k_fewest_people : PySem.W.keepIn K (.ref f_fewest_people) = true)
    (a_least_of : PySem.W.nsIn K mainGlobals "least_of" = some (some (.ref f_least_of)))
    (l_least_of : K.lookup f_least_of = some ⟨oc_least_of, od_least_of, .func (PySem.W.fnOf "least_of" "least_of" (defArgs s_least_of) (defBody s_least_of) (defScope s_least_of) .none kV_least_of dc_least_of pm_least_of an_least_of cd_least_of ct_least_of), sl_least_of⟩)
    (c_least_of : PySem.W.codeIn K cd_least_of "least_of" = true)
    (k_least_of : PySem.W.keepIn K (.ref f_least_of) = true)
    (a_most_pairs : PySem.W.nsIn K mainGlobals "most_pairs" = some (some (.ref f_most_pairs)))
    (l_most_pairs : K.lookup f_most_pairs = some ⟨oc_most_pairs, od_most_pairs, .func (PySem.W.fnOf "most_pairs" "most_pairs" (defArgs s_most_pairs) (defBody s_most_pairs) (defScope s_most_pairs) .none kV_most_pairs dc_most_pairs pm_most_pairs an_most_pairs cd_most_pairs ct_most_pairs), sl_most_pairs⟩)
    (c_most_pairs : PySem.W.codeIn K cd_most_pairs "most_pairs" = true)
    (k_most_pairs : PySem.W.keepIn K (.ref f_most_pairs) = true)
    (a_most_rings : PySem.W.nsIn K mainGlobals "most_rings" = some (some (.ref f_most_rings)))
    (l_most_rings : K.lookup f_most_rings = some ⟨oc_most_rings, od_most_rings, .func (PySem.W.fnOf "most_rings" "most_rings" (defArgs s_most_rings) (defBody s_most_rings) (defScope s_most_rings) .none kV_most_rings dc_most_rings pm_most_rings an_most_rings cd_most_rings ct_most_rings), sl_most_rings⟩)
    (c_most_rings : PySem.W.codeIn K cd_most_rings "most_rings" = true)
    (k_most_rings : PySem.W.keepIn K (.ref f_most_rings) = true)
    (a_most_groups : PySem.W.nsIn K mainGlobals "most_groups" = some (some (.ref f_most_groups)))
    (l_most_groups : K.lookup f_most_groups = some ⟨oc_most_groups, od_most_groups, .func (PySem.W.fnOf "most_groups" "most_groups" (defArgs s_most_groups) (defBody s_most_groups) (defScope s_most_groups) .none kV_most_groups dc_most_groups pm_most_groups an_most_groups cd_most_groups ct_most_groups), sl_most_groups⟩)
    (c_most_groups : PySem.W.codeIn K cd_most_groups "most_groups" = true)
    (k_most_groups : PySem.W.keepIn K (.ref f_most_groups) = true)
    (a_is_all_tied : PySem.W.nsIn K mainGlobals "is_all_tied" = some (some (.ref f_is_all_tied)))
    (l_is_all_tied : K.lookup f_is_all_tied = some ⟨oc_is_all_tied, od_is_all_tied, .func (PySem.W.fnOf "is_all_tied" "is_all_tied" (defArgs s_is_all_tied) (defBody s_is_all_tied) (defScope s_is_all_tied) .none kV_is_all_tied dc_is_all_tied pm_is_all_tied an_is_all_tied cd_is_all_tied ct_is_all_tied), sl_is_all_tied⟩)
    (c_is_all_tied : PySem.W.codeIn K cd_is_all_tied "is_all_tied" = true)
    (k_is_all_tied : PySem.W.keepIn K (.ref f_is_all_tied) = true)
    (a_most_of : PySem.W.nsIn K mainGlobals "most_of" = some (some (.ref f_most_of)))
    (l_most_of : K.lookup f_most_of = some ⟨oc_most_of, od_most_of, .func (PySem.W.fnOf "most_of" "most_of" (defArgs s_most_of) (defBody s_most_of) (defScope s_most_of) .none kV_most_of dc_most_of pm_most_of an_most_of cd_most_of ct_most_of), sl_most_of⟩)
    (c_most_of : PySem.W.codeIn K cd_most_of "most_of" = true)
    (k_most_of : PySem.W.keepIn K (.ref f_most_of) = true)
    (a_Thing___init__ : PySem.W.findIn K (.ref C_Thing) "__init__" = some (some (.ref f_Thing___init__)))
    (i_Thing___init__ : PySem.W.isFn K (.ref f_Thing___init__) = true)
    (l_Thing___init__ : K.lookup f_Thing___init__ = some ⟨oc_Thing___init__, od_Thing___init__, .func (PySem.W.fnOf "__init__" "Thing.__init__" (defArgs s_Thing___init__) (defBody s_Thing___init__) (defScope s_Thing___init__) (.ref dt_Thing___init__) kV_Thing___init__ dc_Thing___init__ pm_Thing___init__ an_Thing___init__ cd_Thing___init__ ct_Thing___init__), sl_Thing___init__⟩)
    (c_Thing___init__ : PySem.W.codeIn K cd_Thing___init__ "Thing.__init__" = true)
    (k_Thing___init__ : PySem.W.keepIn K (.ref f_Thing___init__) = true)
    (dl_Thing___init__ : K.lookup dt_Thing___init__ = some ⟨do_Thing___init__, dd_Thing___init__, .seq di_Thing___init__ dn_Thing___init__, ds_Thing___init__⟩)
    (dv_Thing___init__ : Vals [.non] di_Thing___init__.toList)
    (a_Thing_fate : PySem.W.findIn K (.ref C_Thing) "fate" = some (some (.ref f_Thing_fate)))
    (i_Thing_fate : PySem.W.isFn K (.ref f_Thing_fate) = true)
    (l_Thing_fate : K.lookup f_Thing_fate = some ⟨oc_Thing_fate, od_Thing_fate, .func (PySem.W.fnOf "fate" "Thing.fate" (defArgs s_Thing_fate) (defBody s_Thing_fate) (defScope s_Thing_fate) .none kV_Thing_fate dc_Thing_fate pm_Thing_fate an_Thing_fate cd_Thing_fate ct_Thing_fate), sl_Thing_fate⟩)
    (c_Thing_fate : PySem.W.codeIn K cd_Thing_fate "Thing.fate" = true)
    (k_Thing_fate : PySem.W.keepIn K (.ref f_Thing_fate) = true)
    (a__law_purse : PySem.W.nsIn K mainGlobals "_law_purse" = some (some (.ref f__law_purse)))
    (l__law_purse : K.lookup f__law_purse = some ⟨oc__law_purse, od__law_purse, .func (PySem.W.fnOf "_law_purse" "_law_purse" (defArgs s__law_purse) (defBody s__law_purse) (defScope s__law_purse) .none kV__law_purse dc__law_purse pm__law_purse an__law_purse cd__law_purse ct__law_purse), sl__law_purse⟩)
    (c__law_purse : PySem.W.codeIn K cd__law_purse "_law_purse" = true)
    (k__law_purse : PySem.W.keepIn K (.ref f__law_purse) = true)
    (a__law_draw : PySem.W.nsIn K mainGlobals "_law_draw" = some (some (.ref f__law_draw)))
    (l__law_draw : K.lookup f__law_draw = some ⟨oc__law_draw, od__law_draw, .func (PySem.W.fnOf "_law_draw" "_law_draw" (defArgs s__law_draw) (defBody s__law_draw) (defScope s__law_draw) .none kV__law_draw dc__law_draw pm__law_draw an__law_draw cd__law_draw ct__law_draw), sl__law_draw⟩)
    (c__law_draw : PySem.W.codeIn K cd__law_draw "_law_draw" = true)
    (k__law_draw : PySem.W.keepIn K (.ref f__law_draw) = true)
    (a__law_all : PySem.W.nsIn K mainGlobals "_law_all" = some (some (.ref f__law_all)))
    (l__law_all : K.lookup f__law_all = some ⟨oc__law_all, od__law_all, .func (PySem.W.fnOf "_law_all" "_law_all" (defArgs s__law_all) (defBody s__law_all) (defScope s__law_all) .none kV__law_all dc__law_all pm__law_all an__law_all cd__law_all ct__law_all), sl__law_all⟩)
    (c__law_all : PySem.W.codeIn K cd__law_all "_law_all" = true)
    (k__law_all : PySem.W.keepIn K (.ref f__law_all) = true)
    (a__law_tied : PySem.W.nsIn K mainGlobals "_law_tied" = some (some (.ref f__law_tied)))
    (l__law_tied : K.lookup f__law_tied = some ⟨oc__law_tied, od__law_tied, .func (PySem.W.fnOf "_law_tied" "_law_tied" (defArgs s__law_tied) (defBody s__law_tied) (defScope s__law_tied) .none kV__law_tied dc__law_tied pm__law_tied an__law_tied cd__law_tied ct__law_tied), sl__law_tied⟩)
    (c__law_tied : PySem.W.codeIn K cd__law_tied "_law_tied" = true)
    (k__law_tied : PySem.W.keepIn K (.ref f__law_tied) = true)
    (a__law_subsets : PySem.W.nsIn K mainGlobals "_law_subsets" = some (some (.ref f__law_subsets)))
    (l__law_subsets : K.lookup f__law_subsets = some ⟨oc__law_subsets, od__law_subsets, .func (PySem.W.fnOf "_law_subsets" "_law_subsets" (defArgs s__law_subsets) (defBody s__law_subsets) (defScope s__law_subsets) .none kV__law_subsets dc__law_subsets pm__law_subsets an__law_subsets cd__law_subsets ct__law_subsets), sl__law_subsets⟩)
    (c__law_subsets : PySem.W.codeIn K cd__law_subsets "_law_subsets" = true)
    (k__law_subsets : PySem.W.keepIn K (.ref f__law_subsets) = true)
    (a__law_joined : PySem.W.nsIn K mainGlobals "_law_joined" = some (some (.ref f__law_joined)))
    (l__law_joined : K.lookup f__law_joined = some ⟨oc__law_joined, od__law_joined, .func (PySem.W.fnOf "_law_joined" "_law_joined" (defArgs s__law_joined) (defBody s__law_joined) (defScope s__law_joined) .none kV__law_joined dc__law_joined pm__law_joined an__law_joined cd__law_joined ct__law_joined), sl__law_joined⟩)
    (c__law_joined : PySem.W.codeIn K cd__law_joined "_law_joined" = true)
    (k__law_joined : PySem.W.keepIn K (.ref f__law_joined) = true)
    (a__law_rows_of : PySem.W.nsIn K mainGlobals "_law_rows_of" = some (some (.ref f__law_rows_of)))
    (l__law_rows_of : K.lookup f__law_rows_of = some ⟨oc__law_rows_of, od__law_rows_of, .func (PySem.W.fnOf "_law_rows_of" "_law_rows_of" (defArgs s__law_rows_of) (defBody s__law_rows_of) (defScope s__law_rows_of) .none kV__law_rows_of dc__law_rows_of pm__law_rows_of an__law_rows_of cd__law_rows_of ct__law_rows_of), sl__law_rows_of⟩)
    (c__law_rows_of : PySem.W.codeIn K cd__law_rows_of "_law_rows_of" = true)
    (k__law_rows_of : PySem.W.keepIn K (.ref f__law_rows_of) = true)
    (a__law_rings : PySem.W.nsIn K mainGlobals "_law_rings" = some (some (.ref f__law_rings)))
    (l__law_rings : K.lookup f__law_rings = some ⟨oc__law_rings, od__law_rings, .func (PySem.W.fnOf "_law_rings" "_law_rings" (defArgs s__law_rings) (defBody s__law_rings) (defScope s__law_rings) .none kV__law_rings dc__law_rings pm__law_rings an__law_rings cd__law_rings ct__law_rings), sl__law_rings⟩)
    (c__law_rings : PySem.W.codeIn K cd__law_rings "_law_rings" = true)
    (k__law_rings : PySem.W.keepIn K (.ref f__law_rings) = true)
    (a__law_pairs_apart : PySem.W.nsIn K mainGlobals "_law_pairs_apart" = some (some (.ref f__law_pairs_apart)))
    (l__law_pairs_apart : K.lookup f__law_pairs_apart = some ⟨oc__law_pairs_apart, od__law_pairs_apart, .func (PySem.W.fnOf "_law_pairs_apart" "_law_pairs_apart" (defArgs s__law_pairs_apart) (defBody s__law_pairs_apart) (defScope s__law_pairs_apart) .none kV__law_pairs_apart dc__law_pairs_apart pm__law_pairs_apart an__law_pairs_apart cd__law_pairs_apart ct__law_pairs_apart), sl__law_pairs_apart⟩)
    (c__law_pairs_apart : PySem.W.codeIn K cd__law_pairs_apart "_law_pairs_apart" = true)
    (k__law_pairs_apart : PySem.W.keepIn K (.ref f__law_pairs_apart) = true)
    (a__law_is_crowd : PySem.W.nsIn K mainGlobals "_law_is_crowd" = some (some (.ref f__law_is_crowd)))
    (l__law_is_crowd : K.lookup f__law_is_crowd = some ⟨oc__law_is_crowd, od__law_is_crowd, .func (PySem.W.fnOf "_law_is_crowd" "_law_is_crowd" (defArgs s__law_is_crowd) (defBody s__law_is_crowd) (defScope s__law_is_crowd) .none kV__law_is_crowd dc__law_is_crowd pm__law_is_crowd an__law_is_crowd cd__law_is_crowd ct__law_is_crowd), sl__law_is_crowd⟩)
    (c__law_is_crowd : PySem.W.codeIn K cd__law_is_crowd "_law_is_crowd" = true)
    (k__law_is_crowd : PySem.W.keepIn K (.ref f__law_is_crowd) = true)
    (a__law_core : PySem.W.nsIn K mainGlobals "_law_core" = some (some (.ref f__law_core)))
    (l__law_core : K.lookup f__law_core = some ⟨oc__law_core, od__law_core, .func (PySem.W.fnOf "_law_core" "_law_core" (defArgs s__law_core) (defBody s__law_core) (defScope s__law_core) .none kV__law_core dc__law_core pm__law_core an__law_core cd__law_core ct__law_core), sl__law_core⟩)
    (c__law_core : PySem.W.codeIn K cd__law_core "_law_core" = true)
    (k__law_core : PySem.W.keepIn K (.ref f__law_core) = true)
    (a__law_holds : PySem.W.nsIn K mainGlobals "_law_holds" = some (some (.ref f__law_holds)))
    (l__law_holds : K.lookup f__law_holds = some ⟨oc__law_holds, od__law_holds, .func (PySem.W.fnOf "_law_holds" "_law_holds" (defArgs s__law_holds) (defBody s__law_holds) (defScope s__law_holds) .none kV__law_holds dc__law_holds pm__law_holds an__law_holds cd__law_holds ct__law_holds), sl__law_holds⟩)
    (c__law_holds : PySem.W.codeIn K cd__law_holds "_law_holds" = true)
    (k__law_holds : PySem.W.keepIn K (.ref f__law_holds) = true)
    (a__law_things : PySem.W.nsIn K mainGlobals "_law_things" = some (some (.ref f__law_things)))
    (l__law_things : K.lookup f__law_things = some ⟨oc__law_things, od__law_things, .func (PySem.W.fnOf "_law_things" "_law_things" (defArgs s__law_things) (defBody s__law_things) (defScope s__law_things) .none kV__law_things dc__law_things pm__law_things an__law_things cd__law_things ct__law_things), sl__law_things⟩)
    (c__law_things : PySem.W.codeIn K cd__law_things "_law_things" = true)
    (k__law_things : PySem.W.keepIn K (.ref f__law_things) = true)
    (a__law_two : PySem.W.nsIn K mainGlobals "_law_two" = some (some (.ref f__law_two)))
    (l__law_two : K.lookup f__law_two = some ⟨oc__law_two, od__law_two, .func (PySem.W.fnOf "_law_two" "_law_two" (defArgs s__law_two) (defBody s__law_two) (defScope s__law_two) .none kV__law_two dc__law_two pm__law_two an__law_two cd__law_two ct__law_two), sl__law_two⟩)
    (c__law_two : PySem.W.codeIn K cd__law_two "_law_two" = true)
    (k__law_two : PySem.W.keepIn K (.ref f__law_two) = true)
    (a__law_most : PySem.W.nsIn K mainGlobals "_law_most" = some (some (.ref f__law_most)))
    (l__law_most : K.lookup f__law_most = some ⟨oc__law_most, od__law_most, .func (PySem.W.fnOf "_law_most" "_law_most" (defArgs s__law_most) (defBody s__law_most) (defScope s__law_most) .none kV__law_most dc__law_most pm__law_most an__law_most cd__law_most ct__law_most), sl__law_most⟩)
    (c__law_most : PySem.W.codeIn K cd__law_most "_law_most" = true)
    (k__law_most : PySem.W.keepIn K (.ref f__law_most) = true)
    (a__law_fewest : PySem.W.nsIn K mainGlobals "_law_fewest" = some (some (.ref f__law_fewest)))
    (l__law_fewest : K.lookup f__law_fewest = some ⟨oc__law_fewest, od__law_fewest, .func (PySem.W.fnOf "_law_fewest" "_law_fewest" (defArgs s__law_fewest) (defBody s__law_fewest) (defScope s__law_fewest) .none kV__law_fewest dc__law_fewest pm__law_fewest an__law_fewest cd__law_fewest ct__law_fewest), sl__law_fewest⟩)
    (c__law_fewest : PySem.W.codeIn K cd__law_fewest "_law_fewest" = true)
    (k__law_fewest : PySem.W.keepIn K (.ref f__law_fewest) = true)
    (a__law_least : PySem.W.nsIn K mainGlobals "_law_least" = some (some (.ref f__law_least)))
    (l__law_least : K.lookup f__law_least = some ⟨oc__law_least, od__law_least, .func (PySem.W.fnOf "_law_least" "_law_least" (defArgs s__law_least) (defBody s__law_least) (defScope s__law_least) .none kV__law_least dc__law_least pm__law_least an__law_least cd__law_least ct__law_least), sl__law_least⟩)
    (c__law_least : PySem.W.codeIn K cd__law_least "_law_least" = true)
    (k__law_least : PySem.W.keepIn K (.ref f__law_least) = true)
    (a__law_fate : PySem.W.nsIn K mainGlobals "_law_fate" = some (some (.ref f__law_fate)))
    (l__law_fate : K.lookup f__law_fate = some ⟨oc__law_fate, od__law_fate, .func (PySem.W.fnOf "_law_fate" "_law_fate" (defArgs s__law_fate) (defBody s__law_fate) (defScope s__law_fate) .none kV__law_fate dc__law_fate pm__law_fate an__law_fate cd__law_fate ct__law_fate), sl__law_fate⟩)
    (c__law_fate : PySem.W.codeIn K cd__law_fate "_law_fate" = true)
    (k__law_fate : PySem.W.keepIn K (.ref f__law_fate) = true)
    (a__law_is_right : PySem.W.nsIn K mainGlobals "_law_is_right" = some (some (.ref f__law_is_right)))
    (l__law_is_right : K.lookup f__law_is_right = some ⟨oc__law_is_right, od__law_is_right, .func (PySem.W.fnOf "_law_is_right" "_law_is_right" (defArgs s__law_is_right) (defBody s__law_is_right) (defScope s__law_is_right) .none kV__law_is_right dc__law_is_right pm__law_is_right an__law_is_right cd__law_is_right ct__law_is_right), sl__law_is_right⟩)
    (c__law_is_right : PySem.W.codeIn K cd__law_is_right "_law_is_right" = true)
    (k__law_is_right : PySem.W.keepIn K (.ref f__law_is_right) = true)
    (a__law_far_right : PySem.W.nsIn K mainGlobals "_law_far_right" = some (some (.ref f__law_far_right)))
    (l__law_far_right : K.lookup f__law_far_right = some ⟨oc__law_far_right, od__law_far_right, .func (PySem.W.fnOf "_law_far_right" "_law_far_right" (defArgs s__law_far_right) (defBody s__law_far_right) (defScope s__law_far_right) .none kV__law_far_right dc__law_far_right pm__law_far_right an__law_far_right cd__law_far_right ct__law_far_right), sl__law_far_right⟩)
    (c__law_far_right : PySem.W.codeIn K cd__law_far_right "_law_far_right" = true)
    (k__law_far_right : PySem.W.keepIn K (.ref f__law_far_right) = true)
    (a__law_right : PySem.W.nsIn K mainGlobals "_law_right" = some (some (.ref f__law_right)))
    (l__law_right : K.lookup f__law_right = some ⟨oc__law_right, od__law_right, .func (PySem.W.fnOf "_law_right" "_law_right" (defArgs s__law_right) (defBody s__law_right) (defScope s__law_right) .none kV__law_right dc__law_right pm__law_right an__law_right cd__law_right ct__law_right), sl__law_right⟩)
    (c__law_right : PySem.W.codeIn K cd__law_right "_law_right" = true)
    (k__law_right : PySem.W.keepIn K (.ref f__law_right) = true)
    (a_law : PySem.W.nsIn K mainGlobals "law" = some (some (.ref f_law)))
    (l_law : K.lookup f_law = some ⟨oc_law, od_law, .func (PySem.W.fnOf "law" "law" (defArgs s_law) (defBody s_law) (defScope s_law) .none kV_law dc_law pm_law an_law cd_law ct_law), sl_law⟩)
    (c_law : PySem.W.codeIn K cd_law "law" = true)
    (k_law : PySem.W.keepIn K (.ref f_law) = true) :
    ∃ fd : FuncData, (∀ (s : Shared) (v : Value), BindsTo s fd ⟨[v], []⟩ [("_law_script", v)]) ∧ ∀ base : Heap, K.In base → base.Ns mainGlobals mg → FnG l.prog w K mg base 60 fa fd ["_law_script"] (spScr K) := by
  have e := hfa.symm.trans (PySem.W.mg_of X G a_law)
  cases e
  have T : Txt w K mg (fun c : Str => if c = "Thing" then some C_Thing else none) C_Thing := ⟨PySem.W.mg_none_of X G n_abs,
    PySem.W.mg_none_of X G n_all,
    PySem.W.mg_none_of X G n_bool,
    PySem.W.mg_none_of X G n_divmod,
    PySem.W.mg_none_of X G n_int,
    PySem.W.mg_none_of X G n_isinstance,
    PySem.W.mg_none_of X G n_len,
    PySem.W.mg_none_of X G n_list,
    PySem.W.mg_none_of X G n_max,
    PySem.W.mg_none_of X G n_min,
    PySem.W.mg_none_of X G n_range,
    PySem.W.mg_none_of X G n_set,
    PySem.W.mg_none_of X G n_sorted,
    PySem.W.mg_none_of X G n_str,
    PySem.W.mg_none_of X G n_tuple,
    ⟨_, PySem.W.mg_of X G c_MOST_ASKED, ⟨_, rfl⟩⟩,
    kg_of (PySem.W.mg_of X G k_LEAST) l_LEAST o_LEAST y_LEAST,
    ⟨_, _, _, _, PySem.W.mg_of X G ta_PLAIN, tl_PLAIN, rfl, rfl, tz_PLAIN, tv_PLAIN⟩,
    ⟨(if_pos rfl), ⟨cpg_Thing, chd_Thing, cpo_Thing, csa_Thing⟩⟩,
    PySem.W.mg_of X G ca_Thing,
    na_Thing_many,
    na_Thing_word,
    ⟨_, _, fun_mk (st := s_is_integer) l_is_integer c_is_integer k_is_integer, PySem.W.mg_of X G a_is_integer, (fun_mk (st := s_is_integer) l_is_integer c_is_integer k_is_integer).binds (ps := ["value"]) (fun _ _ _ _ _ _ us hl => match us, hl with | [_], _ => rfl), (fun b hb => by cases hb)⟩,
    ⟨_, _, fun_mk (st := s_is_between) l_is_between c_is_between k_is_between, PySem.W.mg_of X G a_is_between, (fun_mk (st := s_is_between) l_is_between c_is_between k_is_between).binds (ps := ["value", "least", "most"]) (fun _ _ _ _ _ _ us hl => match us, hl with | [_, _, _], _ => rfl), (fun b hb => by cases hb)⟩,
    ⟨_, _, fun_mk (st := s_check_people) l_check_people c_check_people k_check_people, PySem.W.mg_of X G a_check_people, (fun_mk (st := s_check_people) l_check_people c_check_people k_check_people).binds (ps := ["people", "most"]) (fun _ _ _ _ _ _ us hl => match us, hl with | [_, _], _ => rfl), (fun b hb => by cases hb)⟩,
    ⟨_, _, fun_mk (st := s_pairs_of) l_pairs_of c_pairs_of k_pairs_of, PySem.W.mg_of X G a_pairs_of, (fun_mk (st := s_pairs_of) l_pairs_of c_pairs_of k_pairs_of).binds (ps := ["many"]) (fun _ _ _ _ _ _ us hl => match us, hl with | [_], _ => rfl), (fun b hb => by cases hb)⟩,
    ⟨_, _, fun_mk (st := s_ring_size) l_ring_size c_ring_size k_ring_size, PySem.W.mg_of X G a_ring_size, (fun_mk (st := s_ring_size) l_ring_size c_ring_size k_ring_size).binds (ps := ["kind", "number"]) (fun _ _ _ _ _ _ us hl => match us, hl with | [_, _], _ => rfl), (fun b hb => by cases hb)⟩,
    ⟨_, _, fun_mk (st := s_fewest_people) l_fewest_people c_fewest_people k_fewest_people, PySem.W.mg_of X G a_fewest_people, (fun_mk (st := s_fewest_people) l_fewest_people c_fewest_people k_fewest_people).binds (ps := ["kind", "number"]) (fun _ _ _ _ _ _ us hl => match us, hl with | [_, _], _ => rfl), (fun b hb => by cases hb)⟩,
    ⟨_, _, fun_mk (st := s_least_of) l_least_of c_least_of k_least_of, PySem.W.mg_of X G a_least_of, (fun_mk (st := s_least_of) l_least_of c_least_of k_least_of).binds (ps := ["kind", "number", "people"]) (fun _ _ _ _ _ _ us hl => match us, hl with | [_, _, _], _ => rfl), (fun b hb => by cases hb)⟩,
    ⟨_, _, fun_mk (st := s_most_pairs) l_most_pairs c_most_pairs k_most_pairs, PySem.W.mg_of X G a_most_pairs, (fun_mk (st := s_most_pairs) l_most_pairs c_most_pairs k_most_pairs).binds (ps := ["number", "people"]) (fun _ _ _ _ _ _ us hl => match us, hl with | [_, _], _ => rfl), (fun b hb => by cases hb)⟩,
    ⟨_, _, fun_mk (st := s_most_rings) l_most_rings c_most_rings k_most_rings, PySem.W.mg_of X G a_most_rings, (fun_mk (st := s_most_rings) l_most_rings c_most_rings k_most_rings).binds (ps := ["kind", "number", "people"]) (fun _ _ _ _ _ _ us hl => match us, hl with | [_, _, _], _ => rfl), (fun b hb => by cases hb)⟩,
    ⟨_, _, fun_mk (st := s_most_groups) l_most_groups c_most_groups k_most_groups, PySem.W.mg_of X G a_most_groups, (fun_mk (st := s_most_groups) l_most_groups c_most_groups k_most_groups).binds (ps := ["kind", "number", "people"]) (fun _ _ _ _ _ _ us hl => match us, hl with | [_, _, _], _ => rfl), (fun b hb => by cases hb)⟩,
    ⟨_, _, fun_mk (st := s_is_all_tied) l_is_all_tied c_is_all_tied k_is_all_tied, PySem.W.mg_of X G a_is_all_tied, (fun_mk (st := s_is_all_tied) l_is_all_tied c_is_all_tied k_is_all_tied).binds (ps := ["kind", "number", "people"]) (fun _ _ _ _ _ _ us hl => match us, hl with | [_, _, _], _ => rfl), (fun b hb => by cases hb)⟩,
    ⟨_, _, fun_mk (st := s_most_of) l_most_of c_most_of k_most_of, PySem.W.mg_of X G a_most_of, (fun_mk (st := s_most_of) l_most_of c_most_of k_most_of).binds (ps := ["kind", "number", "people"]) (fun _ _ _ _ _ _ us hl => match us, hl with | [_, _, _], _ => rfl), (fun b hb => by cases hb)⟩,
    ⟨_, _, (FunD.mk ⟨_, _, _, _, _, _, _, _, _, _, rfl, l_Thing___init__, c_Thing___init__, .inr ⟨by simp, _, _, _, dn_Thing___init__, rfl, dl_Thing___init__, by simp, dv_Thing___init__⟩, .inl rfl⟩ k_Thing___init__), ⟨cmk_Thing, a_Thing___init__, i_Thing___init__, ckp_Thing⟩, fun j hj => (match j, hj with | 0, _ => FunD.binds1 (ps := ["self", "kind", "size"]) (FunD.mk ⟨_, _, _, _, _, _, _, _, _, _, rfl, l_Thing___init__, c_Thing___init__, .inr ⟨by simp, _, _, _, dn_Thing___init__, rfl, dl_Thing___init__, by simp, dv_Thing___init__⟩, .inl rfl⟩ k_Thing___init__) 2 0 (by simp) (by simp) fun _ _ _ _ _ _ _ us its h1 h2 => (match us, h1, its, h2 with | [_, _], _, [_], _ => ⟨_, rfl, rfl⟩) | 1, _ => FunD.binds1 (ps := ["self", "kind", "size"]) (FunD.mk ⟨_, _, _, _, _, _, _, _, _, _, rfl, l_Thing___init__, c_Thing___init__, .inr ⟨by simp, _, _, _, dn_Thing___init__, rfl, dl_Thing___init__, by simp, dv_Thing___init__⟩, .inl rfl⟩ k_Thing___init__) 3 1 (by simp) (by simp) fun _ _ _ _ _ _ _ us its h1 h2 => (match us, h1, its, h2 with | [_, _, _], _, [_], _ => ⟨_, rfl, rfl⟩) | j + 2, h => absurd h (by simp)), fun b hb => by cases hb⟩,
    ⟨_, _, fun_mk (st := s_Thing_fate) l_Thing_fate c_Thing_fate k_Thing_fate, ⟨a_Thing_fate, i_Thing_fate, k_Thing_fate⟩, (fun_mk (st := s_Thing_fate) l_Thing_fate c_Thing_fate k_Thing_fate).binds (ps := ["self", "people", "count"]) (fun _ _ _ _ _ _ us hl => match us, hl with | [_, _, _], _ => rfl), (List.forall_mem_cons.mpr ⟨⟨fun s us ws _ h1 h2 => (match us, h1, ws, h2 with | [_], _, [_, _], _ => .of_eq rfl), kwG_vals⟩, fun b hb => by cases hb⟩)⟩,
    ⟨_, _, fun_mk (st := s__law_purse) l__law_purse c__law_purse k__law_purse, PySem.W.mg_of X G a__law_purse, (fun_mk (st := s__law_purse) l__law_purse c__law_purse k__law_purse).binds (ps := ["_law_script", "_law_spot"]) (fun _ _ _ _ _ _ us hl => match us, hl with | [_, _], _ => rfl), (fun b hb => by cases hb)⟩,
    ⟨_, _, fun_mk (st := s__law_draw) l__law_draw c__law_draw k__law_draw, PySem.W.mg_of X G a__law_draw, (fun_mk (st := s__law_draw) l__law_draw c__law_draw k__law_draw).binds (ps := ["_law_purse_here", "_law_many"]) (fun _ _ _ _ _ _ us hl => match us, hl with | [_, _], _ => rfl), (fun b hb => by cases hb)⟩,
    ⟨_, _, fun_mk (st := s__law_all) l__law_all c__law_all k__law_all, PySem.W.mg_of X G a__law_all, (fun_mk (st := s__law_all) l__law_all c__law_all k__law_all).binds (ps := ["_law_many"]) (fun _ _ _ _ _ _ us hl => match us, hl with | [_], _ => rfl), (fun b hb => by cases hb)⟩,
    ⟨_, _, fun_mk (st := s__law_tied) l__law_tied c__law_tied k__law_tied, PySem.W.mg_of X G a__law_tied, (fun_mk (st := s__law_tied) l__law_tied c__law_tied k__law_tied).binds (ps := ["_law_ties", "_law_x", "_law_y"]) (fun _ _ _ _ _ _ us hl => match us, hl with | [_, _, _], _ => rfl), (fun b hb => by cases hb)⟩,
    ⟨_, _, fun_mk (st := s__law_subsets) l__law_subsets c__law_subsets k__law_subsets, PySem.W.mg_of X G a__law_subsets, (fun_mk (st := s__law_subsets) l__law_subsets c__law_subsets k__law_subsets).binds (ps := ["_law_row"]) (fun _ _ _ _ _ _ us hl => match us, hl with | [_], _ => rfl), (fun b hb => by cases hb)⟩,
    ⟨_, _, fun_mk (st := s__law_joined) l__law_joined c__law_joined k__law_joined, PySem.W.mg_of X G a__law_joined, (fun_mk (st := s__law_joined) l__law_joined c__law_joined k__law_joined).binds (ps := ["_law_ties", "_law_left"]) (fun _ _ _ _ _ _ us hl => match us, hl with | [_, _], _ => rfl), (fun b hb => by cases hb)⟩,
    ⟨_, _, fun_mk (st := s__law_rows_of) l__law_rows_of c__law_rows_of k__law_rows_of, PySem.W.mg_of X G a__law_rows_of, (fun_mk (st := s__law_rows_of) l__law_rows_of c__law_rows_of k__law_rows_of).binds (ps := ["_law_many", "_law_ties", "_law_tally"]) (fun _ _ _ _ _ _ us hl => match us, hl with | [_, _, _], _ => rfl), (fun b hb => by cases hb)⟩,
    ⟨_, _, fun_mk (st := s__law_rings) l__law_rings c__law_rings k__law_rings, PySem.W.mg_of X G a__law_rings, (fun_mk (st := s__law_rings) l__law_rings c__law_rings k__law_rings).binds (ps := ["_law_many", "_law_ties"]) (fun _ _ _ _ _ _ us hl => match us, hl with | [_, _], _ => rfl), (fun b hb => by cases hb)⟩,
    ⟨_, _, fun_mk (st := s__law_pairs_apart) l__law_pairs_apart c__law_pairs_apart k__law_pairs_apart, PySem.W.mg_of X G a__law_pairs_apart, (fun_mk (st := s__law_pairs_apart) l__law_pairs_apart c__law_pairs_apart k__law_pairs_apart).binds (ps := ["_law_ties"]) (fun _ _ _ _ _ _ us hl => match us, hl with | [_], _ => rfl), (fun b hb => by cases hb)⟩,
    ⟨_, _, fun_mk (st := s__law_is_crowd) l__law_is_crowd c__law_is_crowd k__law_is_crowd, PySem.W.mg_of X G a__law_is_crowd, (fun_mk (st := s__law_is_crowd) l__law_is_crowd c__law_is_crowd k__law_is_crowd).binds (ps := ["_law_part", "_law_ties"]) (fun _ _ _ _ _ _ us hl => match us, hl with | [_, _], _ => rfl), (fun b hb => by cases hb)⟩,
    ⟨_, _, fun_mk (st := s__law_core) l__law_core c__law_core k__law_core, PySem.W.mg_of X G a__law_core, (fun_mk (st := s__law_core) l__law_core c__law_core k__law_core).binds (ps := ["_law_ties", "_law_folk", "_law_k"]) (fun _ _ _ _ _ _ us hl => match us, hl with | [_, _, _], _ => rfl), (fun b hb => by cases hb)⟩,
    ⟨_, _, fun_mk (st := s__law_holds) l__law_holds c__law_holds k__law_holds, PySem.W.mg_of X G a__law_holds, (fun_mk (st := s__law_holds) l__law_holds c__law_holds k__law_holds).binds (ps := ["_law_kind", "_law_k", "_law_many", "_law_ties"]) (fun _ _ _ _ _ _ us hl => match us, hl with | [_, _, _, _], _ => rfl), (fun b hb => by cases hb)⟩,
    ⟨_, _, fun_mk (st := s__law_things) l__law_things c__law_things k__law_things, PySem.W.mg_of X G a__law_things, (fun_mk (st := s__law_things) l__law_things c__law_things k__law_things).binds (ps := ["_law_most_here"]) (fun _ _ _ _ _ _ us hl => match us, hl with | [_], _ => rfl), (fun b hb => by cases hb)⟩,
    ⟨_, _, fun_mk (st := s__law_two) l__law_two c__law_two k__law_two, PySem.W.mg_of X G a__law_two, (fun_mk (st := s__law_two) l__law_two c__law_two k__law_two).binds (ps := ["_law_many"]) (fun _ _ _ _ _ _ us hl => match us, hl with | [_], _ => rfl), (fun b hb => by cases hb)⟩,
    ⟨_, _, fun_mk (st := s__law_most) l__law_most c__law_most k__law_most, PySem.W.mg_of X G a__law_most, (fun_mk (st := s__law_most) l__law_most c__law_most k__law_most).binds (ps := ["_law_kind", "_law_k", "_law_n"]) (fun _ _ _ _ _ _ us hl => match us, hl with | [_, _, _], _ => rfl), (fun b hb => by cases hb)⟩,
    ⟨_, _, fun_mk (st := s__law_fewest) l__law_fewest c__law_fewest k__law_fewest, PySem.W.mg_of X G a__law_fewest, (fun_mk (st := s__law_fewest) l__law_fewest c__law_fewest k__law_fewest).binds (ps := ["_law_kind", "_law_k"]) (fun _ _ _ _ _ _ us hl => match us, hl with | [_, _], _ => rfl), (fun b hb => by cases hb)⟩,
    ⟨_, _, fun_mk (st := s__law_least) l__law_least c__law_least k__law_least, PySem.W.mg_of X G a__law_least, (fun_mk (st := s__law_least) l__law_least c__law_least k__law_least).binds (ps := ["_law_kind", "_law_k", "_law_n"]) (fun _ _ _ _ _ _ us hl => match us, hl with | [_, _, _], _ => rfl), (fun b hb => by cases hb)⟩,
    ⟨_, _, fun_mk (st := s__law_fate) l__law_fate c__law_fate k__law_fate, PySem.W.mg_of X G a__law_fate, (fun_mk (st := s__law_fate) l__law_fate c__law_fate k__law_fate).binds (ps := ["_law_sort", "_law_k", "_law_many", "_law_tally"]) (fun _ _ _ _ _ _ us hl => match us, hl with | [_, _, _, _], _ => rfl), (fun b hb => by cases hb)⟩,
    ⟨_, _, fun_mk (st := s__law_is_right) l__law_is_right c__law_is_right k__law_is_right, PySem.W.mg_of X G a__law_is_right, (fun_mk (st := s__law_is_right) l__law_is_right c__law_is_right k__law_is_right).binds (ps := ["_law_sort", "_law_k", "_law_many"]) (fun _ _ _ _ _ _ us hl => match us, hl with | [_, _, _], _ => rfl), (fun b hb => by cases hb)⟩,
    ⟨_, _, fun_mk (st := s__law_far_right) l__law_far_right c__law_far_right k__law_far_right, PySem.W.mg_of X G a__law_far_right, (fun_mk (st := s__law_far_right) l__law_far_right c__law_far_right k__law_far_right).binds (ps := ["_law_purse_here", "_law_sort", "_law_k"]) (fun _ _ _ _ _ _ us hl => match us, hl with | [_, _, _], _ => rfl), (fun b hb => by cases hb)⟩,
    ⟨_, _, fun_mk (st := s__law_right) l__law_right c__law_right k__law_right, PySem.W.mg_of X G a__law_right, (fun_mk (st := s__law_right) l__law_right c__law_right k__law_right).binds (ps := ["_law_purse_here"]) (fun _ _ _ _ _ _ us hl => match us, hl with | [_], _ => rfl), (fun b hb => by cases hb)⟩,
    ⟨_, _, fun_mk (st := s_law) l_law c_law k_law, PySem.W.mg_of X G a_law, (fun_mk (st := s_law) l_law c_law k_law).binds (ps := ["_law_script"]) (fun _ _ _ _ _ _ us hl => match us, hl with | [_], _ => rfl), (fun b hb => by cases hb)⟩⟩
  exact ⟨_, fun s v => .of_eq rfl, fun base _ _ => law_scr (ct := (fun c : Str => if c = "Thing" then some C_Thing else none)) (law_fn (fun_mk (st := s_law) l_law c_law k_law) T) plain⟩
theorem facts {l : PySem.W.OpenLaw} {w : World} {K : Fr} {h : Heap} {mg : Str → Option Value} {fa : Addr} (G : h.Ns mainGlobals mg) (hfa : mg "law" = some (.ref fa)) (c : hd.Says w h K) :
    ∃ fd : FuncData, (∀ (s : Shared) (v : Value), BindsTo s fd ⟨[v], []⟩ [("_law_script", v)]) ∧ ∀ base : Heap, K.In base → base.Ns mainGlobals mg → FnG l.prog w K mg base 60 fa fd ["_law_script"] (spScr K) := by
  obtain ⟨t_MOST_ASKED, c_MOST_ASKED⟩ := int_at (c.fact 15 _ rfl)
  obtain ⟨es_LEAST, cn_LEAST, l_LEAST, o_LEAST⟩ := tb_at (c.tab 0 _ rfl)
  obtain ⟨gd_PLAIN, gi_PLAIN, gn_PLAIN, gs_PLAIN, tl_PLAIN, tz_PLAIN, tv_PLAIN⟩ := tup_at (c.fact 18 _ rfl)
  obtain ⟨oc_is_integer, od_is_integer, sl_is_integer, kV_is_integer, dc_is_integer, pm_is_integer, an_is_integer, cd_is_integer, ct_is_integer, l_is_integer, c_is_integer, k_is_integer⟩ := def_at (c.def_ 0 _ rfl).1 (c.def_ 0 _ rfl).2
  obtain ⟨oc_is_between, od_is_between, sl_is_between, kV_is_between, dc_is_between, pm_is_between, an_is_between, cd_is_between, ct_is_between, l_is_between, c_is_between, k_is_between⟩ := def_at (c.def_ 1 _ rfl).1 (c.def_ 1 _ rfl).2
  obtain ⟨oc_check_people, od_check_people, sl_check_people, kV_check_people, dc_check_people, pm_check_people, an_check_people, cd_check_people, ct_check_people, l_check_people, c_check_people, k_check_people⟩ := def_at (c.def_ 2 _ rfl).1 (c.def_ 2 _ rfl).2
  obtain ⟨oc_pairs_of, od_pairs_of, sl_pairs_of, kV_pairs_of, dc_pairs_of, pm_pairs_of, an_pairs_of, cd_pairs_of, ct_pairs_of, l_pairs_of, c_pairs_of, k_pairs_of⟩ := def_at (c.def_ 3 _ rfl).1 (c.def_ 3 _ rfl).2
  obtain ⟨oc_ring_size, od_ring_size, sl_ring_size, kV_ring_size, dc_ring_size, pm_ring_size, an_ring_size, cd_ring_size, ct_ring_size, l_ring_size, c_ring_size, k_ring_size⟩ := def_at (c.def_ 4 _ rfl).1 (c.def_ 4 _ rfl).2
  obtain ⟨oc_fewest_people, od_fewest_people, sl_fewest_people, kV_fewest_people, dc_fewest_people, pm_fewest_people, an_fewest_people, cd_fewest_people, ct_fewest_people, l_fewest_people, c_fewest_people, k_fewest_people⟩ := def_at (c.def_ 5 _ rfl).1 (c.def_ 5 _ rfl).2
  obtain ⟨oc_least_of, od_least_of, sl_least_of, kV_least_of, dc_least_of, pm_least_of, an_least_of, cd_least_of, ct_least_of, l_least_of, c_least_of, k_least_of⟩ := def_at (c.def_ 6 _ rfl).1 (c.def_ 6 _ rfl).2
  obtain ⟨oc_most_pairs, od_most_pairs, sl_most_pairs, kV_most_pairs, dc_most_pairs, pm_most_pairs, an_most_pairs, cd_most_pairs, ct_most_pairs, l_most_pairs, c_most_pairs, k_most_pairs⟩ := def_at (c.def_ 7 _ rfl).1 (c.def_ 7 _ rfl).2
  obtain ⟨oc_most_rings, od_most_rings, sl_most_rings, kV_most_rings, dc_most_rings, pm_most_rings, an_most_rings, cd_most_rings, ct_most_rings, l_most_rings, c_most_rings, k_most_rings⟩ := def_at (c.def_ 8 _ rfl).1 (c.def_ 8 _ rfl).2
  obtain ⟨oc_most_groups, od_most_groups, sl_most_groups, kV_most_groups, dc_most_groups, pm_most_groups, an_most_groups, cd_most_groups, ct_most_groups, l_most_groups, c_most_groups, k_most_groups⟩ := def_at (c.def_ 9 _ rfl).1 (c.def_ 9 _ rfl).2
  obtain ⟨oc_is_all_tied, od_is_all_tied, sl_is_all_tied, kV_is_all_tied, dc_is_all_tied, pm_is_all_tied, an_is_all_tied, cd_is_all_tied, ct_is_all_tied, l_is_all_tied, c_is_all_tied, k_is_all_tied⟩ := def_at (c.def_ 10 _ rfl).1 (c.def_ 10 _ rfl).2
  obtain ⟨oc_most_of, od_most_of, sl_most_of, kV_most_of, dc_most_of, pm_most_of, an_most_of, cd_most_of, ct_most_of, l_most_of, c_most_of, k_most_of⟩ := def_at (c.def_ 11 _ rfl).1 (c.def_ 11 _ rfl).2
  obtain ⟨oc_Thing___init__, od_Thing___init__, sl_Thing___init__, kV_Thing___init__, dc_Thing___init__, pm_Thing___init__, an_Thing___init__, cd_Thing___init__, ct_Thing___init__, l_Thing___init__, c_Thing___init__, k_Thing___init__⟩ := def_at (c.def_ 12 _ rfl).1 (c.def_ 12 _ rfl).2
  obtain ⟨do_Thing___init__, dd_Thing___init__, di_Thing___init__, dn_Thing___init__, ds_Thing___init__, dl_Thing___init__, dv_Thing___init__⟩ := seq_at (c.fact 43 _ rfl)
  obtain ⟨oc_Thing_fate, od_Thing_fate, sl_Thing_fate, kV_Thing_fate, dc_Thing_fate, pm_Thing_fate, an_Thing_fate, cd_Thing_fate, ct_Thing_fate, l_Thing_fate, c_Thing_fate, k_Thing_fate⟩ := def_at (c.def_ 13 _ rfl).1 (c.def_ 13 _ rfl).2
  obtain ⟨oc__law_purse, od__law_purse, sl__law_purse, kV__law_purse, dc__law_purse, pm__law_purse, an__law_purse, cd__law_purse, ct__law_purse, l__law_purse, c__law_purse, k__law_purse⟩ := def_at (c.def_ 14 _ rfl).1 (c.def_ 14 _ rfl).2
  obtain ⟨oc__law_draw, od__law_draw, sl__law_draw, kV__law_draw, dc__law_draw, pm__law_draw, an__law_draw, cd__law_draw, ct__law_draw, l__law_draw, c__law_draw, k__law_draw⟩ := def_at (c.def_ 15 _ rfl).1 (c.def_ 15 _ rfl).2
  obtain ⟨oc__law_all, od__law_all, sl__law_all, kV__law_all, dc__law_all, pm__law_all, an__law_all, cd__law_all, ct__law_all, l__law_all, c__law_all, k__law_all⟩ := def_at (c.def_ 16 _ rfl).1 (c.def_ 16 _ rfl).2
  obtain ⟨oc__law_tied, od__law_tied, sl__law_tied, kV__law_tied, dc__law_tied, pm__law_tied, an__law_tied, cd__law_tied, ct__law_tied, l__law_tied, c__law_tied, k__law_tied⟩ := def_at (c.def_ 17 _ rfl).1 (c.def_ 17 _ rfl).2
  obtain ⟨oc__law_subsets, od__law_subsets, sl__law_subsets, kV__law_subsets, dc__law_subsets, pm__law_subsets, an__law_subsets, cd__law_subsets, ct__law_subsets, l__law_subsets, c__law_subsets, k__law_subsets⟩ := def_at (c.def_ 18 _ rfl).1 (c.def_ 18 _ rfl).2
  obtain ⟨oc__law_joined, od__law_joined, sl__law_joined, kV__law_joined, dc__law_joined, pm__law_joined, an__law_joined, cd__law_joined, ct__law_joined, l__law_joined, c__law_joined, k__law_joined⟩ := def_at (c.def_ 19 _ rfl).1 (c.def_ 19 _ rfl).2
  obtain ⟨oc__law_rows_of, od__law_rows_of, sl__law_rows_of, kV__law_rows_of, dc__law_rows_of, pm__law_rows_of, an__law_rows_of, cd__law_rows_of, ct__law_rows_of, l__law_rows_of, c__law_rows_of, k__law_rows_of⟩ := def_at (c.def_ 20 _ rfl).1 (c.def_ 20 _ rfl).2
  obtain ⟨oc__law_rings, od__law_rings, sl__law_rings, kV__law_rings, dc__law_rings, pm__law_rings, an__law_rings, cd__law_rings, ct__law_rings, l__law_rings, c__law_rings, k__law_rings⟩ := def_at (c.def_ 21 _ rfl).1 (c.def_ 21 _ rfl).2
  obtain ⟨oc__law_pairs_apart, od__law_pairs_apart, sl__law_pairs_apart, kV__law_pairs_apart, dc__law_pairs_apart, pm__law_pairs_apart, an__law_pairs_apart, cd__law_pairs_apart, ct__law_pairs_apart, l__law_pairs_apart, c__law_pairs_apart, k__law_pairs_apart⟩ := def_at (c.def_ 22 _ rfl).1 (c.def_ 22 _ rfl).2
  obtain ⟨oc__law_is_crowd, od__law_is_crowd, sl__law_is_crowd, kV__law_is_crowd, dc__law_is_crowd, pm__law_is_crowd, an__law_is_crowd, cd__law_is_crowd, ct__law_is_crowd, l__law_is_crowd, c__law_is_crowd, k__law_is_crowd⟩ := def_at (c.def_ 23 _ rfl).1 (c.def_ 23 _ rfl).2
  obtain ⟨oc__law_core, od__law_core, sl__law_core, kV__law_core, dc__law_core, pm__law_core, an__law_core, cd__law_core, ct__law_core, l__law_core, c__law_core, k__law_core⟩ := def_at (c.def_ 24 _ rfl).1 (c.def_ 24 _ rfl).2
  obtain ⟨oc__law_holds, od__law_holds, sl__law_holds, kV__law_holds, dc__law_holds, pm__law_holds, an__law_holds, cd__law_holds, ct__law_holds, l__law_holds, c__law_holds, k__law_holds⟩ := def_at (c.def_ 25 _ rfl).1 (c.def_ 25 _ rfl).2
  obtain ⟨oc__law_things, od__law_things, sl__law_things, kV__law_things, dc__law_things, pm__law_things, an__law_things, cd__law_things, ct__law_things, l__law_things, c__law_things, k__law_things⟩ := def_at (c.def_ 26 _ rfl).1 (c.def_ 26 _ rfl).2
  obtain ⟨oc__law_two, od__law_two, sl__law_two, kV__law_two, dc__law_two, pm__law_two, an__law_two, cd__law_two, ct__law_two, l__law_two, c__law_two, k__law_two⟩ := def_at (c.def_ 27 _ rfl).1 (c.def_ 27 _ rfl).2
  obtain ⟨oc__law_most, od__law_most, sl__law_most, kV__law_most, dc__law_most, pm__law_most, an__law_most, cd__law_most, ct__law_most, l__law_most, c__law_most, k__law_most⟩ := def_at (c.def_ 28 _ rfl).1 (c.def_ 28 _ rfl).2
  obtain ⟨oc__law_fewest, od__law_fewest, sl__law_fewest, kV__law_fewest, dc__law_fewest, pm__law_fewest, an__law_fewest, cd__law_fewest, ct__law_fewest, l__law_fewest, c__law_fewest, k__law_fewest⟩ := def_at (c.def_ 29 _ rfl).1 (c.def_ 29 _ rfl).2
  obtain ⟨oc__law_least, od__law_least, sl__law_least, kV__law_least, dc__law_least, pm__law_least, an__law_least, cd__law_least, ct__law_least, l__law_least, c__law_least, k__law_least⟩ := def_at (c.def_ 30 _ rfl).1 (c.def_ 30 _ rfl).2
  obtain ⟨oc__law_fate, od__law_fate, sl__law_fate, kV__law_fate, dc__law_fate, pm__law_fate, an__law_fate, cd__law_fate, ct__law_fate, l__law_fate, c__law_fate, k__law_fate⟩ := def_at (c.def_ 31 _ rfl).1 (c.def_ 31 _ rfl).2
  obtain ⟨oc__law_is_right, od__law_is_right, sl__law_is_right, kV__law_is_right, dc__law_is_right, pm__law_is_right, an__law_is_right, cd__law_is_right, ct__law_is_right, l__law_is_right, c__law_is_right, k__law_is_right⟩ := def_at (c.def_ 32 _ rfl).1 (c.def_ 32 _ rfl).2
  obtain ⟨oc__law_far_right, od__law_far_right, sl__law_far_right, kV__law_far_right, dc__law_far_right, pm__law_far_right, an__law_far_right, cd__law_far_right, ct__law_far_right, l__law_far_right, c__law_far_right, k__law_far_right⟩ := def_at (c.def_ 33 _ rfl).1 (c.def_ 33 _ rfl).2
  obtain ⟨oc__law_right, od__law_right, sl__law_right, kV__law_right, dc__law_right, pm__law_right, an__law_right, cd__law_right, ct__law_right, l__law_right, c__law_right, k__law_right⟩ := def_at (c.def_ 34 _ rfl).1 (c.def_ 34 _ rfl).2
  obtain ⟨oc_law, od_law, sl_law, kV_law, dc_law, pm_law, an_law, cd_law, ct_law, l_law, c_law, k_law⟩ := def_at (c.def_ 35 _ rfl).1 (c.def_ 35 _ rfl).2
  exact all_mk c.in_ G hfa (He.eqO_ok (c.fact 0 _ rfl))
    (He.eqO_ok (c.fact 1 _ rfl))
    (He.eqO_ok (c.fact 2 _ rfl))
    (He.eqO_ok (c.fact 3 _ rfl))
    (He.eqO_ok (c.fact 4 _ rfl))
    (He.eqO_ok (c.fact 5 _ rfl))
    (He.eqO_ok (c.fact 6 _ rfl))
    (He.eqO_ok (c.fact 7 _ rfl))
    (He.eqO_ok (c.fact 8 _ rfl))
    (He.eqO_ok (c.fact 9 _ rfl))
    (He.eqO_ok (c.fact 10 _ rfl))
    (He.eqO_ok (c.fact 11 _ rfl))
    (He.eqO_ok (c.fact 12 _ rfl))
    (He.eqO_ok (c.fact 13 _ rfl))
    (He.eqO_ok (c.fact 14 _ rfl))
    c_MOST_ASKED
    (He.eqO_ok (c.fact 16 _ rfl))
    l_LEAST
    o_LEAST
    (notB (c.fact 17 _ rfl))
    (He.eqO_ok (c.fact 19 _ rfl))
    tl_PLAIN
    tz_PLAIN
    tv_PLAIN
    (He.eqO_ok (c.fact 20 _ rfl))
    (c.fact 21 _ rfl)
    (c.fact 22 _ rfl)
    (c.fact 23 _ rfl)
    (He.eqO_ok (c.fact 24 _ rfl))
    (c.fact 25 _ rfl)
    (c.fact 26 _ rfl)
    (He.eqO_ok (c.fact 27 _ rfl))
    (He.eqO_ok (c.fact 28 _ rfl))
    (He.eqO_ok (c.fact 29 _ rfl))
    l_is_integer
    c_is_integer
    k_is_integer
    (He.eqO_ok (c.fact 30 _ rfl))
    l_is_between
    c_is_between
    k_is_between
    (He.eqO_ok (c.fact 31 _ rfl))
    l_check_people
    c_check_people
    k_check_people
    (He.eqO_ok (c.fact 32 _ rfl))
    l_pairs_of
    c_pairs_of
    k_pairs_of
    (He.eqO_ok (c.fact 33 _ rfl))
    l_ring_size
    c_ring_size
    k_ring_size
    (He.eqO_ok (c.fact 34 _ rfl))
    l_fewest_people
    c_fewest_people
    k_fewest_people
    (He.eqO_ok (c.fact 35 _ rfl))
    l_least_of
    c_least_of
    k_least_of
    (He.eqO_ok (c.fact 36 _ rfl))
    l_most_pairs
    c_most_pairs
    k_most_pairs
    (He.eqO_ok (c.fact 37 _ rfl))
    l_most_rings
    c_most_rings
    k_most_rings
    (He.eqO_ok (c.fact 38 _ rfl))
    l_most_groups
    c_most_groups
    k_most_groups
    (He.eqO_ok (c.fact 39 _ rfl))
    l_is_all_tied
    c_is_all_tied
    k_is_all_tied
    (He.eqO_ok (c.fact 40 _ rfl))
    l_most_of
    c_most_of
    k_most_of
    (He.eqO_ok (c.fact 41 _ rfl))
    (c.fact 42 _ rfl)
    l_Thing___init__
    c_Thing___init__
    k_Thing___init__
    dl_Thing___init__
    dv_Thing___init__
    (He.eqO_ok (c.fact 44 _ rfl))
    (c.fact 45 _ rfl)
    l_Thing_fate
    c_Thing_fate
    k_Thing_fate
    (He.eqO_ok (c.fact 46 _ rfl))
    l__law_purse
    c__law_purse
    k__law_purse
    (He.eqO_ok (c.fact 47 _ rfl))
    l__law_draw
    c__law_draw
    k__law_draw
    (He.eqO_ok (c.fact 48 _ rfl))
    l__law_all
    c__law_all
    k__law_all
    (He.eqO_ok (c.fact 49 _ rfl))
    l__law_tied
    c__law_tied
    k__law_tied
    (He.eqO_ok (c.fact 50 _ rfl))
    l__law_subsets
    c__law_subsets
    k__law_subsets
    (He.eqO_ok (c.fact 51 _ rfl))
    l__law_joined
    c__law_joined
    k__law_joined
    (He.eqO_ok (c.fact 52 _ rfl))
    l__law_rows_of
    c__law_rows_of
    k__law_rows_of
    (He.eqO_ok (c.fact 53 _ rfl))
    l__law_rings
    c__law_rings
    k__law_rings
    (He.eqO_ok (c.fact 54 _ rfl))
    l__law_pairs_apart
    c__law_pairs_apart
    k__law_pairs_apart
    (He.eqO_ok (c.fact 55 _ rfl))
    l__law_is_crowd
    c__law_is_crowd
    k__law_is_crowd
    (He.eqO_ok (c.fact 56 _ rfl))
    l__law_core
    c__law_core
    k__law_core
    (He.eqO_ok (c.fact 57 _ rfl))
    l__law_holds
    c__law_holds
    k__law_holds
    (He.eqO_ok (c.fact 58 _ rfl))
    l__law_things
    c__law_things
    k__law_things
    (He.eqO_ok (c.fact 59 _ rfl))
    l__law_two
    c__law_two
    k__law_two
    (He.eqO_ok (c.fact 60 _ rfl))
    l__law_most
    c__law_most
    k__law_most
    (He.eqO_ok (c.fact 61 _ rfl))
    l__law_fewest
    c__law_fewest
    k__law_fewest
    (He.eqO_ok (c.fact 62 _ rfl))
    l__law_least
    c__law_least
    k__law_least
    (He.eqO_ok (c.fact 63 _ rfl))
    l__law_fate
    c__law_fate
    k__law_fate
    (He.eqO_ok (c.fact 64 _ rfl))
    l__law_is_right
    c__law_is_right
    k__law_is_right
    (He.eqO_ok (c.fact 65 _ rfl))
    l__law_far_right
    c__law_far_right
    k__law_far_right
    (He.eqO_ok (c.fact 66 _ rfl))
    l__law_right
    c__law_right
    k__law_right
    (He.eqO_ok (c.fact 67 _ rfl))
    l_law
    c_law
    k_law
end LW
open PySem PySem.W PySem.Calls PyProof.Rows in
set_option maxRecDepth 100000 in
set_option maxHeartbeats 0 in
theorem PySem.Challenge.cw_forcedties_k28_whole_fates_holds : PySem.Challenge.rw_forcedties_k28_whole_fates.Holds := by
  w_on; o_law
  refine HandSHeadRun.head_any (r := OpenLaw.row PySem.Challenge.rw_forcedties_k28_whole_fates) (q := LW.qv) (H := LW.hd.hook) (ob := LW.hd.ob) (M := 60000) (loose := LW.hLoose) (d := HandSHeadRun.topDef (OpenLaw.row PySem.Challenge.rw_forcedties_k28_whole_fates).prog 56) (kwd := []) LW.hd.ob_eq
    (by kernel_rfl) (fun s => by kernel_rfl) LW.run (by kernel_rfl) (by kernel_rfl) (by kernel_rfl) (by rfl) (by first | assumption | decide +kernel) (by decide +kernel) ⟨rfl, rfl, rfl, rfl, rfl, by decide +kernel⟩ ?hw ?hc
  case hw => w_witness2
  case hc =>
    refine DL.walkE (l := PySem.Challenge.rw_forcedties_k28_whole_fates) (k := 60) (x := "_law_script") rfl (by kernel_rfl) ⟨rfl, by decide, by decide⟩ ?F
    intro w mg fa h Y G hmg0
    obtain ⟨K, c⟩ := Y
    have hmg : mg ("law" : PySem.Str) = some (.ref fa) := by
      have e : (HandSHeadRun.topDef (OpenLaw.row PySem.Challenge.rw_forcedties_k28_whole_fates).prog 56).name = ("law" : PySem.Str) := by kernel_rfl
      rw [← e]
      exact hmg0
    obtain ⟨fd, hb, hF⟩ := LW.facts (l := PySem.Challenge.rw_forcedties_k28_whole_fates) G hmg c
    exact ⟨K, fd, c.in_, hb, hF⟩
