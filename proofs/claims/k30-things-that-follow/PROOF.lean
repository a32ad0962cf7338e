import PyProof.Rows.All
import Wide.All
import OpenK.AllK
import Wide.FinOn
import HandS.ForMost
import HandS.Defaults
import HandS.Property
import HandS.EndBits
import HandS.Wide
import HandS.WideBits
import HandS.Conv
import HandS.Exc
import KE.KeyNested
import KE.KDictCopyH
import KE.SortData
import HandS.More
import HandS.IsInst
import HandS.Lambda
import HandS.EndTab
import HandS.ExcInit
import HandS.Deep
import HandS.List
import PyProof.ReprRoads
import PyProof.CallFns
import HandS.NoneIn
import HandS.Codes
import HandS.Hot
import HandS.ExcCtx
import HandS.ExcOwn
import KE.KExcInit
import PyProof.ExcBaseAll.ArithmeticError
import PyProof.ExcBaseAll.ValueError
import HandS.ExcIs
import HandS.ExcField
import HandS.SetFor
import KE.KTryMore
import KE.KNestM
import KE.GoesMore
import KE.GoesEnum
import KE.KStateDown
import HandS.Head0
import HandS.Head1
import HandS.Head2
import HandS.HeadHook1
import KE.LtData
import HandS.TupAny
import HandS.TupLe
import HandS.Style
import HandS.RaiseMore
import HandS.Star
import HandS.Zip
import HandS.TupMul
import HandS.Strs
import HandS.SetBool
import HandS.Iter
import HandS.ReplaceLit
import HandS.OwnEq
import KE.KFmtOwn
import PyProof.InstNe
import HandS.FStr
import HandS.MakeKw
import HandS.ClsMeth
import KE.DataMinMax
import PyProof.StrOps2
import HandS.ExcValue
import HandS.TupSets
import PySem.Challenge.RW_forcedties_k30_whole_things_that_follow
set_option Elab.async false
set_option linter.all false
set_option maxRecDepth 100000
set_option maxHeartbeats 4000000
namespace DL
open PySem PySem.Spec PyProof.Rows L2
def TabOk (P : Params) : List (Str × Int) → List DictEntry → Prop
  | [], [] => True
  | p :: tab, e :: l => (∃ t t', e.key = .str p.1 t ∧ e.hash = PyData.keyHash P p.1 ∧ e.val = .int p.2 t') ∧ TabOk P tab l
  | _, _ => False
abbrev Fr := PySem.W.Frag
open He (ga ma eqO eqO_ok frG frG_in growG)
theorem notB {b : Bool} (h : (!b) = true) : b = false := by simpa using h
def matB : V → Value → Bool
  | .non, .none => true
  | .bl b, .bool c => b == c
  | .int i, .int j _ => i == j
  | .str x, .str y _ => x == y
  | .ref a, .ref b => Nat.beq a b
  | _, _ => false
theorem matB_ok {v : V} {u : Value} (h : matB v u = true) : RelV v u := by
  unfold matB at h
  split at h
  · rfl
  · rw [beq_iff_eq.mp h]; rfl
  · rw [beq_iff_eq.mp h]; exact ⟨_, rfl⟩
  · rw [beq_iff_eq.mp h]; exact ⟨_, rfl⟩
  · rw [Nat.eq_of_beq_eq_true h]; rfl
  · cases h
def valsB : List V → List Value → Bool
  | [], [] => true
  | v :: vs, u :: us => matB v u && valsB vs us
  | _, _ => false
theorem valsB_ok : ∀ {vs : List V} {us : List Value}, valsB vs us = true → Vals vs us
  | [], [], _ => .nil
  | v :: vs, u :: us, h => by
    have h : (matB v u && valsB vs us) = true := h
    simp only [Bool.and_eq_true] at h
    exact .cons (matB_ok h.1) (valsB_ok h.2)
  | [], _ :: _, h => by cases h
  | _ :: _, [], h => by cases h
def gloB (K : Fr) (x : Str) : Bool := eqO (PySem.W.nsIn K mainGlobals x) (some (some (.ref (ga K x))))
def freeB (K : Fr) (x : Str) : Bool := eqO (PySem.W.nsIn K mainGlobals x) (some none)
def litB (K : Fr) (x : Str) (v : V) : Bool := match PySem.W.nsIn K mainGlobals x with
  | some (some u) => matB v u
  | _ => false
theorem int_at {K : Fr} {x : Str} {i : Int} (h : litB K x (.int i) = true) : ∃ t, PySem.W.nsIn K mainGlobals x = some (some (.int i t)) := by
  unfold litB at h
  split at h
  · rename_i u e
    obtain ⟨t, rfl⟩ := matB_ok h
    exact ⟨t, e⟩
  · cases h
/-- a tuple at an address -/
def tupB (K : Fr) (a : Addr) (vs : List V) : Bool := match K.lookup a with
  | some ⟨.type n, _, .seq its _, _⟩ => n == "tuple" && (Nat.ble its.size 100 && valsB vs its.toList)
  | _ => false
theorem tup_at {K : Fr} {a : Addr} {vs : List V} (h : tupB K a vs = true) : ∃ gd gi gn gs, K.lookup a = some ⟨.type "tuple", gd, .seq gi gn, gs⟩ ∧ gi.size ≤ sizeLine ∧ Vals vs gi.toList := by
  unfold tupB at h
  split at h
  · rename_i n gd gi gn gs e
    simp only [Bool.and_eq_true] at h
    rw [beq_iff_eq.mp h.1] at e
    exact ⟨gd, gi, gn, gs, e, Nat.le_trans (Nat.le_of_ble_eq_true h.2.1) (by decide), valsB_ok h.2.2⟩
  · cases h
/-- the values of a def's defaults -/
def seqB (K : Fr) (a : Addr) (vs : List V) : Bool := match K.lookup a with
  | some ⟨_, _, .seq its _, _⟩ => valsB vs its.toList
  | _ => false
theorem seq_at {K : Fr} {a : Addr} {vs : List V} (h : seqB K a vs = true) : ∃ d0 dd di dn ds, K.lookup a = some ⟨d0, dd, .seq di dn, ds⟩ ∧ Vals vs di.toList := by
  unfold seqB at h
  split at h
  · rename_i d0 dd di dn ds e
    exact ⟨d0, dd, di, dn, ds, e, valsB_ok h⟩
  · cases h
abbrev FnW : Type := Option (Str × Str × Arguments × FuncBody × Scope × Addr × List (Str × Addr) × Addr)
def fnK (K : Fr) (a : Addr) : FnW := match K.lookup a with
  | some ⟨_, _, .func fd, _⟩ => some (fd.name, fd.qualname, fd.params, fd.body, fd.scope, fd.globals, fd.closure, fd.builtins)
  | _ => none
def refA : Value → Addr
  | .ref d => d
  | _ => 0
def refB : Value → Bool
  | .ref _ => true
  | _ => false
def dfl0 : Data → Addr
  | .func fd => refA fd.defaults
  | _ => 0
def code0 : Data → Addr
  | .func fd => refA fd.code
  | _ => 0
def at11 : Data → Addr
  | .fields vs => refA ((vs.toList[11]?).getD .none)
  | _ => 0
def dtK (K : Fr) (a : Addr) : Addr := match K.lookup a with
  | some o => dfl0 o.data
  | none => 0
def dflB : Value → Bool → Bool
  | .none, b => !b
  | .ref _, b => b
  | _, _ => false
def cqK (K : Fr) (a : Addr) : Addr := match K.lookup a with
  | some o => code0 o.data
  | none => 0
def cpK (K : Fr) (a : Addr) : Addr := match K.lookup (cqK K a) with
  | some o => at11 o.data
  | none => 0
def dfB (K : Fr) (a : Addr) (dfl : Bool) (q : Str) : Bool := (match K.lookup a with
  | some ⟨_, _, .func fd, _⟩ => PySem.W.codeIn K fd.code q && dflB fd.defaults dfl
  | _ => false) && PySem.W.keepIn K (.ref a)
structure DefK where
  ad : Fr → Addr
  name : Str
  qual : Str
  st : Stmt
  dfl : Bool
def DefK.val (d : DefK) : FnW := some (d.name, d.qual, defArgs d.st, .stmts (defBody d.st), defScope d.st, mainGlobals, [], builtinsNs)
def dvK (K : Fr) (a : Addr) (dfl : Bool) : Value := if dfl = true then .ref (dtK K a) else .none
theorem def_at {K : Fr} {d : DefK} (e : fnK K (d.ad K) = d.val) (c : dfB K (d.ad K) d.dfl d.qual = true) :
    ∃ oc od sl kV dc pm an cd ct, K.lookup (d.ad K) = some ⟨oc, od, .func (PySem.W.fnOf d.name d.qual (defArgs d.st) (defBody d.st) (defScope d.st) (dvK K (d.ad K) d.dfl) kV dc pm an cd ct), sl⟩ ∧ PySem.W.codeIn K cd d.qual = true ∧ PySem.W.keepIn K (.ref (d.ad K)) = true := by
  unfold dfB at c
  simp only [Bool.and_eq_true] at c
  obtain ⟨c, ck⟩ := c
  unfold fnK at e
  cases q : K.lookup (d.ad K) with
  | none =>
    rw [q] at c
    cases c
  | some o =>
    obtain ⟨oc, od, dt, osl⟩ := o
    have eqd : dtK K (d.ad K) = dfl0 dt := by
      unfold dtK
      rw [q]
    rw [q] at c e
    cases dt with
    | func fd =>
      obtain ⟨n1, n2, n3, n4, n5, n6, n7, n8, n9, n10, n11, n12, n13, n14, n15⟩ := fd
      have e2 : (some (n1, n2, n3, n4, n5, n6, n7, n15) : FnW) = some (d.name, d.qual, defArgs d.st, .stmts (defBody d.st), defScope d.st, mainGlobals, [], builtinsNs) := e
      simp only [Option.some.injEq, Prod.mk.injEq] at e2
      obtain ⟨h1, h2, h3, h4, h5, h6, h7, h9⟩ := e2
      replace c : (PySem.W.codeIn K n13 d.qual && dflB n8 d.dfl) = true := c
      have c : _ ∧ _ := Bool.and_eq_true_iff.mp c
      have hd : n8 = dvK K (d.ad K) d.dfl := by
        unfold dvK
        rw [eqd]
        have c2 := c.2
        revert c2
        cases n8 with
        | none =>
          intro c2
          have : d.dfl = false := notB c2
          rw [this]
          rfl
        | ref z =>
          intro c2
          have : d.dfl = true := c2
          rw [this]
          rfl
        | _ => intro c2; cases c2
      subst h1 h2 h3 h4 h5 h6 h7 h9
      rw [← hd]
      exact ⟨oc, od, osl, n9, n10, n11, n12, n13, n14, rfl, (by exact c.1), ck⟩
    | _ => cases c
abbrev TbW : Type := Option (List (Option (Str × Int × Int)))
def entW (e : DictEntry) : Option (Str × Int × Int) := match e.key, e.val with
  | .str x _, .int i _ => some (x, e.hash, i)
  | _, _ => none
def tbK (K : Fr) (x : Str) : TbW := match K.lookup (ga K x) with
  | some ⟨.type n, none, .dict es _, sl⟩ => if (n == "dict" && Nat.beq sl.size 0) = true then some (es.toList.map entW) else none
  | _ => none
def tbVal (P : Params) (tab : List (Str × Int)) : TbW := some (tab.map fun p => some (p.1, PyData.keyHash P p.1, p.2))
theorem tabOk_of {P : Params} : ∀ {tab : List (Str × Int)} {l : List DictEntry}, l.map entW = (tab.map fun p => some (p.1, PyData.keyHash P p.1, p.2)) → TabOk P tab l
  | [], [], _ => trivial
  | [], _ :: _, h => by cases h
  | _ :: _, [], h => by cases h
  | p :: tab, e :: l, h => by
    simp only [List.map_cons, List.cons.injEq] at h
    refine ⟨?_, tabOk_of h.2⟩
    have h1 := h.1
    unfold entW at h1
    split at h1
    · rename_i x t i u e1 e2
      simp only [Option.some.injEq, Prod.mk.injEq] at h1
      obtain ⟨rfl, h3, rfl⟩ := h1
      exact ⟨_, _, e1, h3, e2⟩
    · cases h1
theorem tb_at {K : Fr} {P : Params} {x : Str} {tab : List (Str × Int)} (e : tbK K x = tbVal P tab) : ∃ es cn, K.lookup (ga K x) = some ⟨.type "dict", none, .dict es cn, #[]⟩ ∧ TabOk P tab es.toList := by
  unfold tbK at e
  split at e
  · rename_i n es cn sl q
    split at e
    · rename_i h
      simp only [Bool.and_eq_true] at h
      have hs : sl = #[] := Array.eq_empty_of_size_eq_zero (Nat.eq_of_beq_eq_true h.2)
      rw [beq_iff_eq.mp h.1, hs] at q
      exact ⟨es, cn, q, tabOk_of (Option.some.inj e)⟩
    · cases e
  · cases e
def prK (K : Fr) (C : Addr) (m : Str) : Addr := match PySem.W.recIn K (ma K C m) "property" with
  | some (.ref f :: _) => f
  | _ => 0
def prB (K : Fr) (C : Addr) (m : Str) : Bool := match PySem.W.recIn K (ma K C m) "property" with
  | some (.ref _ :: _) => true
  | _ => false
theorem pr_at {K : Fr} {C : Addr} {m : Str} (h : prB K C m = true) : ∃ pr, PySem.W.recIn K (ma K C m) "property" = some (.ref (prK K C m) :: pr) := by
  unfold prB at h
  unfold prK
  split at h
  · rename_i f r e
    rw [e]
    exact ⟨r, rfl⟩
  · cases h
def func0 : Data → Bool
  | .func fd => refB fd.code
  | _ => false
def fld11 : Data → Bool
  | .fields vs => refB ((vs.toList[11]?).getD .none)
  | _ => false
def lamB (K : Fr) (a : Addr) : Bool := (match K.lookup a with
  | some o => func0 o.data
  | none => false) && ((match K.lookup (cqK K a) with
  | some o => fld11 o.data
  | none => false) && (PySem.W.codeHdIn K (cqK K a) (cpK K a) && (K.lookup (cpK K a)).isNone))
def rootsK (g : Addr → Option Obj) (names : List Str) : List Addr := match g mainGlobals with
  | some ⟨_, _, .dict es _, _⟩ => names.filterMap fun x => match es.toList.find? (·.key.isStr x) with
    | some e => (match e.val with
      | .ref a => some a
      | _ => none)
    | none => none
  | _ => []
/-- what an object names; of a code object nothing -/
def refsX (o : Obj) : List Addr := match o.cls with
  | .type n => if (n == "code") = true then [] else He.refsO o
  | _ => He.refsO o
/-- the addresses that are new among those that some objects name -/
def newK (g : Addr → Option Obj) (old : List Addr) : List Addr → List Addr → List Addr
  | [], acc => acc
  | a :: as, acc => newK g old as (match g a with
    | some o => (refsX o).foldl (fun acc b => if (old.any (Nat.beq b) || acc.any (Nat.beq b)) = true then acc else b :: acc) acc
    | none => acc)
def reachK (g : Addr → Option Obj) : Nat → List Addr → List Addr → List Addr
  | 0, old, _ => old
  | n + 1, old, front => (fun nw => reachK g n (old ++ nw) nw) (newK g old front [])
def fragK (g : Addr → Option Obj) (names : List Str) (n : Nat) (lams : List Str) : Fr :=
  (fun as => (fun cps => frG g (as.filter fun a => !cps.any (Nat.beq a))) (lams.map fun x => cpK (frG g as) (ga (frG g as) x))) (mainGlobals :: reachK g n (rootsK g names) (rootsK g names))
structure HeadK where
  names : List Str
  n : Nat
  lams : List Str
  facts : List (Fr → Bool)
  defs : List DefK
  tabs : List (Str × List (Str × Int))
abbrev AlK : Type := Bool × List FnW × List TbW
def HeadK.look (hd : HeadK) (g : Addr → Option Obj) (K : Fr) : AlK :=
  ((hd.facts.all fun f => f K) && ((hd.defs.all fun d => dfB K (d.ad K) d.dfl d.qual) && hd.lams.all fun x => lamB K (ga K x) && (match g (cpK K (ga K x)) with
    | some ⟨.none, none, .fields vs, sl⟩ => Nat.beq vs.size 0 && Nat.beq sl.size 0
    | _ => false)), hd.defs.map fun d => fnK K (d.ad K), hd.tabs.map fun p => tbK K p.1)
def HeadK.val (hd : HeadK) (P : Params) : AlK := (true, hd.defs.map DefK.val, hd.tabs.map fun p => tbVal P p.2)
structure HeadK.Says (hd : HeadK) (w : World) (h : Heap) (K : Fr) : Prop where
  in_ : K.In h
  fact : ∀ (i : Nat) (f : Fr → Bool), hd.facts[i]? = some f → f K = true
  def_ : ∀ (i : Nat) (d : DefK), hd.defs[i]? = some d → fnK K (d.ad K) = d.val ∧ dfB K (d.ad K) d.dfl d.qual = true
  tab : ∀ (i : Nat) (p : Str × List (Str × Int)), hd.tabs[i]? = some p → tbK K p.1 = tbVal w.params p.2
  lam : ∀ (i : Nat) (x : Str), hd.lams[i]? = some x → lamB K (ga K x) = true ∧ h.get? (cpK K (ga K x)) = some { cls := .none, data := .fields #[] }
theorem HeadK.says_of {hd : HeadK} {w : World} {h : Heap} {K : Fr} (X : K.In h) (e : hd.look h.get? K = hd.val w.params) : hd.Says w h K := by
  have e1 := congrArg (fun z : AlK => z.1) e
  have e2 := congrArg (fun z : AlK => z.2.1) e
  have e3 := congrArg (fun z : AlK => z.2.2) e
  dsimp only [HeadK.look, HeadK.val] at e1 e2 e3
  simp only [Bool.and_eq_true] at e1
  obtain ⟨a1, a2, a3⟩ := e1
  refine ⟨X, fun i f hf => List.all_eq_true.mp a1 f (List.mem_of_getElem? hf), fun i d hf => ⟨?_, List.all_eq_true.mp a2 d (List.mem_of_getElem? hf)⟩, fun i p hf => ?_, fun i x hf => ?_⟩
  · have z : (hd.defs.map fun d => fnK K (d.ad K))[i]? = (hd.defs.map DefK.val)[i]? := by rw [e2]
    rw [List.getElem?_map, List.getElem?_map, hf] at z
    exact Option.some.inj z
  · have z : (hd.tabs.map fun p => tbK K p.1)[i]? = (hd.tabs.map fun p => tbVal w.params p.2)[i]? := by rw [e3]
    rw [List.getElem?_map, List.getElem?_map, hf] at z
    exact Option.some.inj z
  · have z := List.all_eq_true.mp a3 x (List.mem_of_getElem? hf)
    simp only [Bool.and_eq_true] at z
    refine ⟨z.1, ?_⟩
    have z2 := z.2
    split at z2
    · rename_i vs sl q
      rw [q]
      simp only [Bool.and_eq_true] at z2
      rw [Array.eq_empty_of_size_eq_zero (Nat.eq_of_beq_eq_true z2.1), Array.eq_empty_of_size_eq_zero (Nat.eq_of_beq_eq_true z2.2)]
    · cases z2
def HeadK.obs (hd : HeadK) (g : Addr → Option Obj) : AlK := (fun K => hd.look g K) (fragK g hd.names hd.n hd.lams)
def HeadK.hook (hd : HeadK) : PySem.W.Hook where
  α := AlK
  obs := fun s => hd.obs s.heap.get?
  val := fun w => hd.val w.params
  says := fun w h => ∃ K : Fr, hd.Says w h K
  of := fun w s e => ⟨fragK s.heap.get? hd.names hd.n hd.lams, HeadK.says_of frG_in e⟩
  keeps := fun _ _ _ ⟨K, c⟩ k => ⟨K, c.in_.keeps k, c.fact, c.def_, c.tab, fun i x hf => ⟨(c.lam i x hf).1, k _ _ (c.lam i x hf).2⟩⟩
def HeadK.ob (hd : HeadK) (s : PySem.W.SharedT) : AlK := hd.obs (HandSHeadRun.getT s)
theorem HeadK.ob_eq (hd : HeadK) (s : PySem.W.SharedT) : hd.ob s = hd.hook.obs s.abs := by
  have e : HandSHeadRun.getT s = s.abs.heap.get? := funext (HandSHeadRun.getT_eq s)
  unfold HeadK.ob
  rw [e]
  rfl
end DL
namespace LW
open PySem PySem.Spec PyProof.Rows L2 DL
def topS (i : Nat) : Stmt := PySem.Challenge.pw_forcedties_k30_whole_things_that_follow.main.body.getD i (.Pass ⟨0, 0, 0, 0⟩)
def tab_FEW : List (Str × Int) := [("crowd", 2), ("star", 1), ("pairs", 1), ("row", 2), ("core", 1)]
def tab_LEAST : List (Str × Int) := [("crowd", 2), ("star", 1), ("pairs", 1), ("row", 2), ("ring", 3), ("core", 1), ("linked", 1)]
abbrev s_is_integer : Stmt := topS 13
abbrev s_is_between : Stmt := topS 14
abbrev s_Thing___init__ : Stmt := inClass (topS 33) 0
abbrev s_Thing_kind : Stmt := inClass (topS 33) 2
abbrev s_Thing_size : Stmt := inClass (topS 33) 3
abbrev s_check_thing : Stmt := topS 34
abbrev s_follows_from_core : Stmt := topS 38
abbrev s_follows_from_crowd : Stmt := topS 39
abbrev s_follows_from_ring : Stmt := topS 40
abbrev s_all_from : Stmt := topS 41
abbrev s_is_following : Stmt := topS 42
abbrev s_follows : Stmt := topS 43
abbrev s__law_purse : Stmt := topS 45
abbrev s__law_draw : Stmt := topS 46
abbrev s__law_all : Stmt := topS 47
abbrev s__law_ties : Stmt := topS 48
abbrev s__law_tied : Stmt := topS 49
abbrev s__law_subsets : Stmt := topS 50
abbrev s__law_joined : Stmt := topS 51
abbrev s__law_rows_of : Stmt := topS 52
abbrev s__law_rings : Stmt := topS 53
abbrev s__law_pairs_apart : Stmt := topS 54
abbrev s__law_is_crowd : Stmt := topS 58
abbrev s__law_core : Stmt := topS 56
abbrev s__law_holds : Stmt := topS 55
abbrev s__law_things : Stmt := topS 57
abbrev s__law_table : Stmt := topS 59
abbrev s__law_party_right : Stmt := topS 60
abbrev s__law_right : Stmt := topS 61
abbrev s_law : Stmt := topS 62
def hFacts0 : List (Fr → Bool) := [fun K => freeB K "abs",
  fun K => freeB K "all",
  fun K => freeB K "bool",
  fun K => freeB K "dict",
  fun K => freeB K "divmod",
  fun K => freeB K "enumerate",
  fun K => freeB K "int",
  fun K => freeB K "isinstance",
  fun K => freeB K "len",
  fun K => freeB K "list",
  fun K => freeB K "max",
  fun K => freeB K "min",
  fun K => freeB K "range",
  fun K => freeB K "set",
  fun K => freeB K "sorted",
  fun K => freeB K "str",
  fun K => freeB K "tuple",
  fun K => litB K "MOST_ASKED" (.int (10000000000000000000000000000000000000000)),
  fun K => gloB K "FEW",
  fun K => !(He.ga K "FEW" == sysModules),
  fun K => gloB K "LEAST",
  fun K => !(He.ga K "LEAST" == sysModules),
  fun K => tupB K (He.ga K "PLAIN") [.str "odd ring", .str "even ring"],
  fun K => gloB K "PLAIN",
  fun K => gloB K "Thing",
  fun K => PySem.W.plainGet K (He.ga K "Thing") Str.empty,
  fun K => PySem.W.hasDictIn K (He.ga K "Thing"),
  fun K => PySem.W.plainOver K (He.ga K "Thing"),
  fun K => He.eqO (PySem.W.findIn K (.ref (He.ga K "Thing")) "__setattr__") (some (some (.builtin "object.__setattr__"))),
  fun K => PySem.W.makesIn K (He.ga K "Thing")]
def hFacts1 : List (Fr → Bool) := [fun K => PySem.W.keepIn K (.ref (He.ga K "Thing")),
  fun K => He.eqO (PySem.W.findIn K (.ref (He.ga K "Thing")) "__class__") (some (some (.builtin "object.__class__"))),
  fun K => He.eqO (PySem.W.specialIn K (.builtin "object.__class__") "__get__") (some (some (.builtin "getset_descriptor.__get__"))),
  fun K => decide (PySem.W.takesIn K (.builtin "object.__class__") = some true),
  fun K => decide (PySem.W.mroIn K (He.ga K "Thing") (.type "object") = some true),
  fun K => He.eqO (PySem.W.findIn K (.ref (He.ga K "Thing")) "__ne__") (some (some (.builtin "object.__ne__"))),
  fun K => He.eqO (PySem.W.findIn K (.ref (He.ga K "Thing")) "__format__") (some (some (.builtin "object.__format__"))),
  fun K => decide (PySem.W.kitCls K (.type "NoneType") (.ref (He.ga K "Thing")) = some false),
  fun K => He.eqO (PySem.W.findIn K (.ref (He.ga K "Thing")) "many") (some none),
  fun K => He.eqO (PySem.W.findIn K (.ref (He.ga K "Thing")) "word") (some none),
  fun K => gloB K "is_integer",
  fun K => gloB K "is_between",
  fun K => He.eqO (PySem.W.findIn K (.ref (He.ga K "Thing")) "__init__") (some (some (.ref (He.ma K (He.ga K "Thing") "__init__")))),
  fun K => PySem.W.isFn K (.ref (He.ma K (He.ga K "Thing") "__init__")),
  fun K => seqB K (dtK K (He.ma K (He.ga K "Thing") "__init__")) [.non],
  fun K => He.eqO (PySem.W.findIn K (.ref (He.ga K "Thing")) "kind") (some (some (.ref (He.ma K (He.ga K "Thing") "kind")))),
  fun K => He.eqO (PySem.W.specialIn K (.ref (He.ma K (He.ga K "Thing") "kind")) "__get__") (some (some (.builtin "property.__get__"))),
  fun K => decide (PySem.W.takesIn K (.ref (He.ma K (He.ga K "Thing") "kind")) = some true),
  fun K => prB K (He.ga K "Thing") "kind",
  fun K => He.eqO (PySem.W.findIn K (.ref (He.ga K "Thing")) "size") (some (some (.ref (He.ma K (He.ga K "Thing") "size")))),
  fun K => He.eqO (PySem.W.specialIn K (.ref (He.ma K (He.ga K "Thing") "size")) "__get__") (some (some (.builtin "property.__get__"))),
  fun K => decide (PySem.W.takesIn K (.ref (He.ma K (He.ga K "Thing") "size")) = some true),
  fun K => prB K (He.ga K "Thing") "size",
  fun K => gloB K "check_thing",
  fun K => gloB K "follows_from_core",
  fun K => gloB K "follows_from_crowd",
  fun K => gloB K "follows_from_ring",
  fun K => gloB K "all_from",
  fun K => gloB K "is_following",
  fun K => gloB K "follows"]
def hFacts2 : List (Fr → Bool) := [fun K => gloB K "_law_purse",
  fun K => gloB K "_law_draw",
  fun K => gloB K "_law_all",
  fun K => gloB K "_law_ties",
  fun K => gloB K "_law_tied",
  fun K => gloB K "_law_subsets",
  fun K => gloB K "_law_joined",
  fun K => gloB K "_law_rows_of",
  fun K => gloB K "_law_rings",
  fun K => gloB K "_law_pairs_apart",
  fun K => gloB K "_law_is_crowd",
  fun K => gloB K "_law_core",
  fun K => gloB K "_law_holds",
  fun K => gloB K "_law_things",
  fun K => gloB K "_law_table",
  fun K => gloB K "_law_party_right",
  fun K => gloB K "_law_right",
  fun K => gloB K "law"]
def hFacts : List (Fr → Bool) := hFacts0 ++ hFacts1 ++ hFacts2
def hDefs0 : List DefK := [⟨fun K => He.ga K "is_integer", "is_integer", "is_integer", s_is_integer, false⟩,
  ⟨fun K => He.ga K "is_between", "is_between", "is_between", s_is_between, false⟩,
  ⟨fun K => He.ma K (He.ga K "Thing") "__init__", "__init__", "Thing.__init__", s_Thing___init__, true⟩,
  ⟨fun K => prK K (He.ga K "Thing") "kind", "kind", "Thing.kind", s_Thing_kind, false⟩,
  ⟨fun K => prK K (He.ga K "Thing") "size", "size", "Thing.size", s_Thing_size, false⟩,
  ⟨fun K => He.ga K "check_thing", "check_thing", "check_thing", s_check_thing, false⟩,
  ⟨fun K => He.ga K "follows_from_core", "follows_from_core", "follows_from_core", s_follows_from_core, false⟩,
  ⟨fun K => He.ga K "follows_from_crowd", "follows_from_crowd", "follows_from_crowd", s_follows_from_crowd, false⟩,
  ⟨fun K => He.ga K "follows_from_ring", "follows_from_ring", "follows_from_ring", s_follows_from_ring, false⟩,
  ⟨fun K => He.ga K "all_from", "all_from", "all_from", s_all_from, false⟩,
  ⟨fun K => He.ga K "is_following", "is_following", "is_following", s_is_following, false⟩,
  ⟨fun K => He.ga K "follows", "follows", "follows", s_follows, false⟩,
  ⟨fun K => He.ga K "_law_purse", "_law_purse", "_law_purse", s__law_purse, false⟩,
  ⟨fun K => He.ga K "_law_draw", "_law_draw", "_law_draw", s__law_draw, false⟩,
  ⟨fun K => He.ga K "_law_all", "_law_all", "_law_all", s__law_all, false⟩,
  ⟨fun K => He.ga K "_law_ties", "_law_ties", "_law_ties", s__law_ties, false⟩,
  ⟨fun K => He.ga K "_law_tied", "_law_tied", "_law_tied", s__law_tied, false⟩,
  ⟨fun K => He.ga K "_law_subsets", "_law_subsets", "_law_subsets", s__law_subsets, false⟩,
  ⟨fun K => He.ga K "_law_joined", "_law_joined", "_law_joined", s__law_joined, false⟩,
  ⟨fun K => He.ga K "_law_rows_of", "_law_rows_of", "_law_rows_of", s__law_rows_of, false⟩,
  ⟨fun K => He.ga K "_law_rings", "_law_rings", "_law_rings", s__law_rings, false⟩,
  ⟨fun K => He.ga K "_law_pairs_apart", "_law_pairs_apart", "_law_pairs_apart", s__law_pairs_apart, false⟩,
  ⟨fun K => He.ga K "_law_is_crowd", "_law_is_crowd", "_law_is_crowd", s__law_is_crowd, false⟩,
  ⟨fun K => He.ga K "_law_core", "_law_core", "_law_core", s__law_core, false⟩,
  ⟨fun K => He.ga K "_law_holds", "_law_holds", "_law_holds", s__law_holds, false⟩,
  ⟨fun K => He.ga K "_law_things", "_law_things", "_law_things", s__law_things, false⟩,
  ⟨fun K => He.ga K "_law_table", "_law_table", "_law_table", s__law_table, false⟩,
  ⟨fun K => He.ga K "_law_party_right", "_law_party_right", "_law_party_right", s__law_party_right, false⟩,
  ⟨fun K => He.ga K "_law_right", "_law_right", "_law_right", s__law_right, false⟩,
  ⟨fun K => He.ga K "law", "law", "law", s_law, false⟩]
def hDefs : List DefK := hDefs0
def hNames0 : List Str := ["FEW",
  "LEAST",
  "PLAIN",
  "Thing",
  "is_integer",
  "is_between",
  "check_thing",
  "follows_from_core",
  "follows_from_crowd",
  "follows_from_ring",
  "all_from",
  "is_following",
  "follows",
  "_law_purse",
  "_law_draw",
  "_law_all",
  "_law_ties",
  "_law_tied",
  "_law_subsets",
  "_law_joined",
  "_law_rows_of",
  "_law_rings",
  "_law_pairs_apart",
  "_law_is_crowd",
  "_law_core",
  "_law_holds",
  "_law_things",
  "_law_table",
  "_law_party_right",
  "_law_right"]
def hNames1 : List Str := ["law"]
def hNames : List Str := hNames0 ++ hNames1
def hLoose0 : List Str := ["_wall",
  "__name__",
  "WrongValue",
  "NoAnswer",
  "InvalidText",
  "InvalidNumber",
  "InvalidKind",
  "InvalidPerson",
  "NotAThing",
  "TooMany",
  "MOST_ASKED",
  "DIGITS",
  "is_integer",
  "is_between",
  "check_people",
  "check_two",
  "number_of",
  "pairs_of",
  "LEAST",
  "PLAIN",
  "most_pairs",
  "most_rings",
  "most_groups",
  "most_of",
  "is_all_tied",
  "is_star_tie",
  "is_ring_tie",
  "is_rule_tie",
  "ring_size",
  "fewest_people"]
def hLoose1 : List Str := ["least_of",
  "Thing",
  "check_thing",
  "thing_with",
  "FEW",
  "follows_from_core",
  "follows_from_crowd",
  "follows_from_ring",
  "all_from",
  "is_following",
  "follows",
  "_law_purse",
  "_law_draw",
  "_law_all",
  "_law_ties",
  "_law_tied",
  "_law_subsets",
  "_law_joined",
  "_law_rows_of",
  "_law_rings",
  "_law_pairs_apart",
  "_law_holds",
  "_law_core",
  "_law_things",
  "_law_is_crowd",
  "_law_table",
  "_law_party_right",
  "_law_right"]
def hLoose : List Str := hLoose0 ++ hLoose1
def hTabs : List (Str × List (Str × Int)) := [("FEW", tab_FEW), ("LEAST", tab_LEAST)]
def hd : HeadK := ⟨hNames, 4, [], hFacts, hDefs, hTabs⟩
abbrev Rw : PySem.W.OpenRow := PySem.W.OpenLaw.row PySem.Challenge.rw_forcedties_k30_whole_things_that_follow
abbrev qv : Program := PySem.W.view Rw.prog [62]
section
open HandSHeadRun PySem.W PySem.Calls
def RunA (r : OpenRow) (M : Nat) (w : World) : Prop := ∀ os : OsState, (endF (stepQ (denQ tabQ) r.prog w) M r.prog w os).map (fun s => looksF r.prog (boot_heap w.params) s.abs) = some true
def RunB (r : OpenRow) (q : Program) (M : Nat) (loose : List PySem.Str) (w : World) : Prop := ∀ os : OsState, (endF (stepQ (denQ tabQ) r.prog w) M r.prog w os).map (fun s => seenQ q loose (importedModules r.prog.main.body) (fun s => xlAt q [] s && recOk r.toRowW.records s) s.abs) = some (openGood q loose)
def RunC (r : OpenRow) (H : Hook) (ob : SharedT → H.α) (M : Nat) (w : World) : Prop := ∀ os : OsState, (endF (stepQ (denQ tabQ) r.prog w) M r.prog w os).map ob = some (H.val w)
theorem run_parts {r : OpenRow} {q : Program} {H : Hook} {ob : SharedT → H.α} {M : Nat} {loose : List PySem.Str} {w : World} (a : RunA r M w) (b : RunB r q M loose w) (c : RunC r H ob M w) : RunEq r q H ob M loose w := by
  intro os
  obtain ⟨s, hs, ha⟩ := Option.map_eq_some_iff.mp (a os)
  have hb := b os
  have hc := c os
  rw [hs] at hb hc ⊢
  have ha : looksF r.prog (boot_heap w.params) s.abs = true := ha
  have hb := Option.some.inj hb
  have hc := Option.some.inj hc
  show some (looksF r.prog (boot_heap w.params) s.abs, _, ob s) = _
  rw [ha, hc]
  exact congrArg some (congrArg (fun x => (true, x, H.val w)) hb)
end
set_option maxHeartbeats 0 in
theorem runa_false (w : World) : RunA Rw 60000 (w.withFollow "special-get-raises" false) := by
  intro os
  kernel_rfl
set_option maxHeartbeats 0 in
theorem runb_false (w : World) : RunB Rw qv 60000 hLoose (w.withFollow "special-get-raises" false) := by
  intro os
  kernel_rfl
set_option maxHeartbeats 0 in
theorem runc_false (w : World) : RunC Rw hd.hook hd.ob 60000 (w.withFollow "special-get-raises" false) := by
  intro os
  kernel_rfl
theorem run_false (w : World) : HandSHeadRun.RunEq Rw qv hd.hook hd.ob 60000 hLoose (w.withFollow "special-get-raises" false) := run_parts (runa_false w) (runb_false w) (runc_false w)
set_option maxHeartbeats 0 in
theorem runa_true (w : World) : RunA Rw 60000 (w.withFollow "special-get-raises" true) := by
  intro os
  kernel_rfl
set_option maxHeartbeats 0 in
theorem runb_true (w : World) : RunB Rw qv 60000 hLoose (w.withFollow "special-get-raises" true) := by
  intro os
  kernel_rfl
set_option maxHeartbeats 0 in
theorem runc_true (w : World) : RunC Rw hd.hook hd.ob 60000 (w.withFollow "special-get-raises" true) := by
  intro os
  kernel_rfl
theorem run_true (w : World) : HandSHeadRun.RunEq Rw qv hd.hook hd.ob 60000 hLoose (w.withFollow "special-get-raises" true) := run_parts (runa_true w) (runb_true w) (runc_true w)
theorem run (w : World) : HandSHeadRun.RunEq Rw qv hd.hook hd.ob 60000 hLoose w := PySem.W.byRow2 "special-get-raises" (P := fun w => HandSHeadRun.RunEq Rw qv hd.hook hd.ob 60000 hLoose w) run_false run_true w
open PySem PySem.W PySem.Calls PyProof.Rows in
set_option maxHeartbeats 0 in
theorem fin_bare : Rw.prog.bare := ⟨rfl, rfl, rfl, rfl, rfl, by decide +kernel⟩
open PySem PySem.W PySem.Calls PyProof.Rows in
set_option maxHeartbeats 0 in
theorem fin_open (h : Rw.wellSaid = true → Rw.Holds) : PySem.Challenge.rw_forcedties_k30_whole_things_that_follow.Holds := by
  w_on; o_law
  exact h (by assumption)
end LW
namespace DL
open PySem PySem.Spec PyProof.Rows L2
structure RoomG (k : Nat) (A : Around) : Prop where
  room : Room k A
  gd : A.guards = some []
theorem RoomG.mono {j k : Nat} {A : Around} (r : RoomG k A) (h : j ≤ k) : RoomG j A := ⟨r.room.mono h, r.gd⟩
theorem RoomG.deeper {k : Nat} {A : Around} (r : RoomG (k + 1) A) (env : Env) : RoomG k (A.deeper env) := ⟨r.room.deeper env, r.gd⟩
theorem RoomG.in1 {k : Nat} {A : Around} (r : RoomG (k + 1) A) : RoomG k A.in1 := ⟨r.room.in1, r.gd⟩
theorem make_guards {A : Around} {C : Addr} {us : List Value} {kw : List (Str × Value)} : (A.under (.builtin "type.__call__" ⟨.ref C :: us, kw⟩)).guards = A.guards := by
  cases h : A.guards <;> simp [Around.under, Code.guards, Code.isGuard, guardIds, pushGuards, h]
theorem RoomG.make {k : Nat} {A : Around} (r : RoomG (k + 1) A) (C : Addr) (us : List Value) (kw : List (Str × Value)) : RoomG k (A.under (.builtin "type.__call__" ⟨.ref C :: us, kw⟩)) := ⟨r.room.make C us kw, by rw [make_guards]; exact r.gd⟩
theorem RoomG.units {k : Nat} {A : Around} (r : RoomG k A) : A.units + 64 < cLine := r.room.units
structure FnG (P : Program) (w : World) (K : PySem.W.Frag) (mg : Str → Option Value) (base : Heap) (k : Nat) (f : Addr) (fd : FuncData) (ps : List Str) (sp : Sp) : Prop where
  len : ∀ vs H Q E, sp vs H Q E → vs.length = ps.length
  run : ∀ (A : Around) (outer : List Env) (s : Shared) (H : Hp) (args : Args) (us : List Value) (vs : List V) (Q : VK) (E : XK), RoomG k A → Env0 P w K mg base A outer s H →
    BindsTo s fd args (ps.zip us) → Vals vs us → sp vs H Q E → codeAny (model P w) A (.call (.ref f) args) (CR CX0 outer P w H s Q E) s
section
variable {P : Program} {w : World} {K : PySem.W.Frag} {mg : Str → Option Value} {base : Heap} {j k : Nat} {f : Addr} {fd : FuncData} {ps : List Str} {sp sp' : Sp}
theorem FnG.mono (F : FnG P w K mg base j f fd ps sp) (h : j ≤ k) : FnG P w K mg base k f fd ps sp := ⟨F.len, fun A o s H ar us vs Q E r => F.run A o s H ar us vs Q E (r.mono h)⟩
theorem FnG.imp (F : FnG P w K mg base k f fd ps sp) (h : ∀ vs H Q E, sp' vs H Q E → sp vs H Q E) : FnG P w K mg base k f fd ps sp' :=
  ⟨fun vs H Q E q => F.len vs H Q E (h _ _ _ _ q), fun A o s H ar us vs Q E r e0 b v q => F.run A o s H ar us vs Q E r e0 b v (h _ _ _ _ q)⟩
end
/-- what stands behind a call that ends well -/
theorem behind {X : Cx} {pins : List (Addr × Obj)} {σ : L2.St} {H : Hp} {s s' : Shared} {Q : VK} {E : XK} {r : Except Value Flow} (I : Inv X pins σ H s) (h : CR CX0 X.stack X.prog X.w H s Q E r s') : ∃ u, r = .ok (.ret u) ∧ EP X pins σ Q u s' := by
  cases r with
  | error er => exact False.elim h
  | ok fl =>
    cases fl <;> first | exact False.elim h | skip
    rename_i u
    exact ⟨u, rfl, I.after h⟩
section
variable {X : Cx} {k : Nat} {f C : Addr} {fd : FuncData} {ps : List Str} {sp : Sp} {dvs : List V} {ds : List Value} {E : XK} {x m : Str} {p pos apos : Pos} {e o : Expr} {es : List Expr} {ta : TE} {t tk : TA} {kws : List Keyword} {ks : List Str} {n : Nat} {g : List Value → List Value → List Value} {gV : List V → List V → List V}
theorem runG {pins : List (Addr × Obj)} {σ : L2.St} {H : Hp} {s : Shared} {Q : VK} {ar : Args} {us : List Value} {vs : List V} (F : FnG X.prog X.w X.K X.mg X.base k f fd ps sp) (hr : RoomG k X.A) (I : Inv X pins σ H s)
    (hb : BindsTo s fd ar (ps.zip us)) (rv : Vals vs us) (h : sp vs H Q E) : wpAny (model X.prog X.w) X.A (call (.ref f) ar.pos ar.kw) (EP X pins σ Q) X.xe s := by
  refine wpAny_call (codeAny_mono (F.run X.A X.stack s H ar us vs Q E hr I.env0 hb rv h) fun r s' q => ?_)
  obtain ⟨u, rfl, z⟩ := behind I q
  exact z
theorem runGb {pins : List (Addr × Obj)} {σ : L2.St} {H : Hp} {s : Shared} {Q : VK} {us : List Value} {vs : List V} (F : FnG X.prog X.w X.K X.mg X.base k f fd ps sp) (hr : RoomG k X.A) (hb : Binds X.K fd ps ds) (hd : Vals dvs ds)
    (I : Inv X pins σ H s) (rv : Vals vs us) (h : sp (vs ++ dvs) H Q E) : wpAny (model X.prog X.w) X.A (call (.ref f) us) (EP X pins σ Q) X.xe s :=
  runG (ar := ⟨us, []⟩) F hr I (hb s us I.kIn (by rw [← (rv.append hd).length]; exact F.len _ _ _ _ h)) (rv.append hd) h
theorem runGk {pins : List (Addr × Obj)} {σ : L2.St} {H : Hp} {s : Shared} {Q : VK} {us ws : List Value} {vs zs : List V} (F : FnG X.prog X.w X.K X.mg X.base k f fd ps sp) (hr : RoomG k X.A) (hb : KBn X.K fd ps n ks g gV)
    (I : Inv X pins σ H s) (rv : Vals vs us) (rz : Vals zs ws) (l1 : vs.length = n) (l2 : zs.length = ks.length) (h : sp (gV vs zs) H Q E) : wpAny (model X.prog X.w) X.A (call (.ref f) us (ks.zip ws)) (EP X pins σ Q) X.xe s :=
  runG (ar := ⟨us, ks.zip ws⟩) F hr I (hb.to s us ws I.kIn (rv.length.symm.trans l1) (rz.length.symm.trans l2)) (hb.rel rv rz) h
theorem pe_callG (F : FnG X.prog X.w X.K X.mg X.base k f fd ps sp) (hr : RoomG k X.A) (hg : Gl X x) (hm : X.mg x = some (.ref f)) (hk : PySem.W.keepIn X.K (.ref f) = true) (hb : Binds X.K fd ps ds) (hd : Vals dvs ds)
    (ha : PA X (e :: es) t) (hdb : (x == ("__debug__" : Str)) = false := by decide) (hst : starEach (e :: es) X.env = (false, eval e X.env) :: starEach es X.env := by rfl) (hpl : (backTo pos (starEach es X.env)).any (·.1) = false := by rfl) :
    PE X (.Call (.Name x p) (e :: es) [] pos) (tCall sp dvs E t) :=
  ⟨fun pins s σ H Q I h => wpAny_Call_Name_kw (ld_glob I hg hm (PySem.W.callWith_K (h₀ := X.base) I.ok.mod.kin hk
    (thn (ha.run pos pins s σ H _ I h) fun us s1 ⟨vs, H1, I1, rv, q⟩ => ⟨I1.kIn, runGb F hr hb hd I1 rv q⟩) hst hpl) hdb)⟩
def tCallK0 (n : Nat) (sp : Sp) (gV : List V → List V → List V) (E : XK) (tk : TA) : TE := fun σ H Q => tk σ H fun zs H2 => zs.length = n ∧ sp (gV [] zs) H2 Q E
theorem pe_callGK (F : FnG X.prog X.w X.K X.mg X.base k f fd ps sp) (hr : RoomG k X.A) (hg : Gl X x) (hm : X.mg x = some (.ref f)) (hk : PySem.W.keepIn X.K (.ref f) = true) (hb : KBn X.K fd ps 0 ks g gV) (hkw : PK X kws tk)
    (hall : (backToKw pos (keywordEach kws X.env)).all (·.1.isSome) = true := by rfl) (hks : (backToKw pos (keywordEach kws X.env)).filterMap (·.1) = ks := by rfl) (hdb : (x == ("__debug__" : Str)) = false := by decide)
    (hpl : ((backTo pos (starEach [] X.env)).any (·.1) || (backToKw pos (keywordEach kws X.env)).any (·.1.isNone)) = false := by rfl) : PE X (.Call (.Name x p) [] kws pos) (tCallK0 ks.length sp gV E tk) := by
  refine ⟨fun pins s σ H Q I h => wpAny_Call_Name_kw (ld_glob I hg hm (PySem.W.callWith_KW0 (h₀ := X.base) I.ok.mod.kin hk hall (thn (hkw.run pos pins s σ H _ I h) fun ws s2 ⟨zs, H2, I2, rz, lz, q2⟩ => ⟨I2.kIn, ?_⟩) hpl) hdb)⟩
  rw [hks]
  exact runGk (us := []) (vs := []) F hr hb I2 .nil rz rfl lz q2
theorem runMk {pins : List (Addr × Obj)} {σ : L2.St} {H : Hp} {s : Shared} {Q : VK} {us ws zs' : List Value} {kn : List Str} (M : Mk X.K C f) (F : FnG X.prog X.w X.K X.mg X.base k f fd ps sp) (hr : RoomG (k + 1) X.A) (I : Inv X pins σ H s)
    (hb : ∀ s' : Shared, X.K.In s'.heap → BindsTo s' fd ⟨.ref (s.heap.objs.size + 1) :: us, kn.zip ws⟩ (ps.zip (.ref (s.heap.objs.size + 1) :: zs'))) {zv : List V} (rv : Vals zv zs')
    (h : ∀ y dx, H y = none → H dx = none → dx ≠ y → sp (.ref y :: zv) (upd (upd H dx (.own y)) y (.ins C dx [])) (fun v H2 => v = .non ∧ Q (.ref y) H2) E) :
    wpAny (model X.prog X.w) X.A (call (.ref C) us (kn.zip ws)) (EP X pins σ Q) X.xe s := by
  have hq := h (s.heap.objs.size + 1) s.heap.objs.size (I.hok.fresh (Nat.le_succ _)) (I.hok.fresh (Nat.le_refl _)) (Nat.ne_of_lt (Nat.lt_succ_self _))
  have J := Inv.made (C := C) I
  refine wpAny_call (make_map (f := f) I.kIn M.makes M.init (beq_iff_eq.mp M.fn) (codeAny_mono (F.run _ X.stack _ _ _ _ (V.ref (s.heap.objs.size + 1) :: zv) _ E (hr.make C us (kn.zip ws)) (J.env0.make C us (kn.zip ws)) (hb _ J.kIn) (.cons rfl rv) hq) fun r s' z => ?_))
  obtain ⟨u, rfl, v, H', I3, ru, ev, q3⟩ := behind J z
  subst ev
  exact ⟨ru, V.ref (s.heap.objs.size + 1), H', I3, rfl, q3⟩
theorem pe_makeG (M : Mk X.K C f) (F : FnG X.prog X.w X.K X.mg X.base k f fd ps sp) (hr : RoomG (k + 1) X.A) (hg : Gl X x) (hm : X.mg x = some (.ref C)) (hb : Binds X.K fd ps ds) (hd : Vals dvs ds)
    (ha : PA X (e :: es) t) (hdb : (x == ("__debug__" : Str)) = false := by decide) (hst : starEach (e :: es) X.env = (false, eval e X.env) :: starEach es X.env := by rfl) (hpl : (backTo pos (starEach es X.env)).any (·.1) = false := by rfl) :
    PE X (.Call (.Name x p) (e :: es) [] pos) (tMake C sp dvs E t) := by
  refine ⟨fun pins s σ H Q I h => wpAny_Call_Name_kw (ld_glob I hg hm (PySem.W.callWith_K (h₀ := X.base) I.ok.mod.kin M.kp (thn (ha.run pos pins s σ H _ I h) fun us s1 ⟨vs, H1, I1, rv, q⟩ => ⟨I1.kIn, ?_⟩) hst hpl) hdb)⟩
  have q0 := q (s1.heap.objs.size + 1) s1.heap.objs.size (I1.hok.fresh (Nat.le_succ _)) (I1.hok.fresh (Nat.le_refl _)) (Nat.ne_of_lt (Nat.lt_succ_self _))
  have hl := F.len _ _ _ _ q0
  refine runMk (kn := []) (ws := []) M F hr I1 (fun s' kin => hb s' (Value.ref (s1.heap.objs.size + 1) :: us) kin ?_) (rv.append hd) q
  rw [← hl, List.cons_append, List.length_cons, List.length_cons, (rv.append hd).length]
end
section
variable {P : Program} {w : World} {K : PySem.W.Frag} {mg : Str → Option Value} {base : Heap}
theorem fnG_of {k : Nat} {f : Addr} {nm qual : Str} {prm : Arguments} {body : List Stmt} {scope : Scope} {dV kV doc pm cdv ct oc : Value} {an od : Option Addr} {osl : Array (Option Value)} {N ps : List Str} {sp : Sp}
    (lk : K.lookup f = some ⟨oc, od, .func (PySem.W.fnOf nm qual prm body scope dV kV doc pm an cdv ct), osl⟩) (hcd : PySem.W.codeIn K cdv qual = true) (S : FnScope N ps scope) (len : ∀ vs H Q E, sp vs H Q E → vs.length = ps.length)
    (hbody : ∀ (A : Around) (outer : List Env) (s : Shared) (H : Hp) (vs : List V) (Q : VK) (E : XK), RoomG k (A.deeper (envOfC qual scope s.heap.objs.size f cdv)) → sp vs H Q E →
      ∃ t, PSs (cxOf CX0 P w K mg base N qual scope f cdv A outer s H E).nox body t ∧ t { nx := fun _ H' => Q .non H', rt := Q } (start N vs) H) : FnG P w K mg base (k + 1) f (PySem.W.fnOf nm qual prm body scope dV kV doc pm an cdv ct) ps sp := by
  refine ⟨len, fun A outer s H ar us vs Q E hr e0 hb rv hsp => ?_⟩
  have old := fun b o e => (e0.bs b o e).1
  have kin : K.In s.heap := e0.mod.kin.keeps old
  refine codeAny_call_function hr.room.depth (kin _ _ lk) rfl S.co S.gen rfl (PySem.W.codeRec_of kin hcd) (hb _ _ _ _ (wpAny_newFunctionEnv_cells S.kind (fun y hy => ?_) fun env he s1 nw => ?_))
  · rcases S.par y.1 (List.of_mem_zip (b := y.2) hy).1 with q | q
    · exact .inl q
    · exact .inr ⟨q, PySem.W.cellsFrom_some _ _ _ (.inl q)⟩
  · subst he
    refine ⟨(e0.mod.nolimit.keeps old).keeps nw.toInCall.keep, codeAny_func ?_⟩
    obtain ⟨t, ht, hq⟩ := hbody A outer s H vs Q E (hr.deeper _) hsp
    refine wpAny_mono (ht.nox.run [] s1 (start N vs) H _ (inv_start S hr.room.hd e0 (len _ _ _ _ hsp) rv nw) hq) (fun fl s' z => ?_) fun _ _ z => z
    cases fl with
    | ret u => obtain ⟨v, _, G, J, ru, q⟩ := z; exact ⟨v, G, J.os, J.bare, J.base, J.hok, ru, q⟩
    | next => obtain ⟨_, G, J, q⟩ := z; exact ⟨.non, G, J.os, J.bare, J.base, J.hok, rfl, q⟩
    | brk => obtain ⟨_, _, _, q⟩ := z; exact q.elim
    | cont => obtain ⟨_, _, _, q⟩ := z; exact q.elim
theorem funG {x qual : Str} {st : Stmt} {f : Addr} {fd : FuncData} {N ps : List Str} {k : Nat} {sp : Sp} (F : Fun K x qual st f fd) (S : FnScope N ps (defScope st)) (len : ∀ vs H Q E, sp vs H Q E → vs.length = ps.length)
    (hbody : ∀ (cdv : Value) (A : Around) (outer : List Env) (s : Shared) (H : Hp) (vs : List V) (Q : VK) (E : XK), RoomG k (A.deeper (envOfC qual (defScope st) s.heap.objs.size f cdv)) → sp vs H Q E →
      ∃ t, PSs (cxOf CX0 P w K mg base N qual (defScope st) f cdv A outer s H E).nox (defBody st) t ∧ t { nx := fun _ H' => Q .non H', rt := Q } (start N vs) H) : FnG P w K mg base (k + 1) f fd ps sp := by
  obtain ⟨oc, od, kV, doc, pm, an, cdv, ct, osl, rfl, lk, hcd⟩ := F.ex
  exact fnG_of lk hcd S len (hbody cdv)
theorem funDG {x qual : Str} {prm : Arguments} {body : List Stmt} {scope : Scope} {dvs : List V} {kws : List (Str × V)} {f : Addr} {fd : FuncData} {N ps : List Str} {k : Nat} {sp : Sp} (F : FunD K x qual prm body scope dvs kws f fd) (S : FnScope N ps scope)
    (len : ∀ vs H Q E, sp vs H Q E → vs.length = ps.length)
    (hbody : ∀ (cdv : Value) (A : Around) (outer : List Env) (s : Shared) (H : Hp) (vs : List V) (Q : VK) (E : XK), RoomG k (A.deeper (envOfC qual scope s.heap.objs.size f cdv)) → sp vs H Q E →
      ∃ t, PSs (cxOf CX0 P w K mg base N qual scope f cdv A outer s H E).nox body t ∧ t { nx := fun _ H' => Q .non H', rt := Q } (start N vs) H) : FnG P w K mg base (k + 1) f fd ps sp := by
  obtain ⟨oc, od, dV, kV, doc, pm, an, cdv, ct, osl, rfl, lk, hcd, _, _⟩ := F.ex
  exact fnG_of lk hcd S len (hbody cdv)
end
section
variable {P : Program} {w : World} {K : PySem.W.Frag} {mg mb : Str → Option Value} {k : Nat} {fa a : Addr} {fd : FuncData} {x : Str} {sp : Sp} {s : Shared} {vs : List Value} {ns : List Int}
/-- from a tracked heap that holds the script at most -/
theorem lawG_core {G : Hp} (kin : K.In s.heap) (nsg : s.heap.Ns mainGlobals mg) (nsb : s.heap.Ns builtinsNs mb) (boot : ∀ y : Str, y ≠ "__name__" → mb y = bootBuiltins y) (lim : s.heap.NoLimit) (gn : s.gens = #[])
    (ha : s.heap.get? a = some { cls := .type "list", data := .seq vs.toArray }) (hr : Room k callerA) (F : ∀ base : Heap, K.In base → base.Ns mainGlobals mg → FnG P w K mg base k fa fd [x] sp) (bind : ∀ (z : Shared) (u : Value), BindsTo z fd ⟨[u], []⟩ [(x, u)])
    (only : Only G) (hok : HOk P w G s.heap) (at_ : ∀ b, G b ≠ none → b = a) (nk : G a ≠ none → K.lookup a = none) (hsp : sp [.ref a] G (fun v _ => v = .bl true) fun _ _ _ => False) :
    codeAny (model P w) callerA (.call (.ref fa) ⟨[.ref a], []⟩) (fun r z => r = .ok (.ret (.bool true)) ∧ OldK s.heap z.heap ∧ z.os = s.os ∧ AllBare z.gens) s := by
  have hid : ∀ {b : Addr} {o : Obj}, s.heap.get? b = some o → (b = a → False) → (hidT s.heap G).get? b = some o := fun {b o} e ne => hidT_get e (by
    cases q : G b with
    | none => rfl
    | some _ => exact (ne (at_ b (by rw [q]; simp))).elim)
  have nsd : ∀ {b : Addr} {m : Str → Option Value}, s.heap.Ns b m → (hidT s.heap G).Ns b m := fun {b m} ⟨o, es, ep, e, d, r⟩ => ⟨o, es, ep, hid e (fun q => by
    subst q
    rw [ha] at e
    cases e
    cases d), d, r⟩
  have kb : K.In (hidT s.heap G) := fun b o e => hidT_get (kin b o e) (by
    cases q : G b with
    | none => rfl
    | some _ =>
      have q1 := at_ b (by rw [q]; simp)
      subst q1
      rw [nk (by rw [q]; simp)] at e
      cases e)
  obtain ⟨mc, l1, l2⟩ := lim
  have none0 : ∀ b : Addr, b ∈ frs [] → False := fun b h => by cases h
  refine codeAny_mono ((F _ kb (nsd nsg)).run callerA [] s G ⟨[.ref a], []⟩ [.ref a] [.ref a] _ _ ⟨hr, rfl⟩ ⟨rfl, ⟨kb, nsd nsg, ⟨mb, nsd nsb, boot⟩, ⟨mc, nsd l1, l2⟩⟩, fun b o e => of_hidT e, Nat.le_of_eq (hidT_size _ _), trivial, fun b h => (none0 b h).elim, hok, .of_eq gn⟩
    (bind s (.ref a)) (.cons rfl .nil) hsp) fun r z h => ?_
  cases r with
  | error er => exact False.elim h
  | ok fl =>
    cases fl <;> first | exact False.elim h | skip
    rename_i u
    obtain ⟨v, G', os, bare, un, hok', ru, q⟩ := h
    have q : v = .bl true := q
    subst q
    have ru : u = Value.bool true := ru
    subst ru
    refine ⟨rfl, OldK.of_keep fun b o e => ?_, os, bare⟩
    cases q : G b with
    | none => exact un.keep b o e q (none0 b) (fun h => by cases h)
    | some c =>
      rcases only b with y | ⟨ob, xs, y⟩
      · rw [q] at y
        cases y
      · have e1 := (hok b _ y).1
        rw [e] at e1
        cases e1
        exact (hok' b _ (un.frzs b _ _ y)).1
theorem lawG (kin : K.In s.heap) (nsg : s.heap.Ns mainGlobals mg) (nsb : s.heap.Ns builtinsNs mb) (boot : ∀ y : Str, y ≠ "__name__" → mb y = bootBuiltins y) (lim : s.heap.NoLimit) (gn : s.gens = #[])
    (ha : s.heap.get? a = some { cls := .type "list", data := .seq vs.toArray }) (hi : IntsAre vs ns) (hl : ns.length ≤ sizeLine) (hr : Room k callerA) (F : ∀ base : Heap, K.In base → base.Ns mainGlobals mg → FnG P w K mg base k fa fd [x] sp)
    (bind : ∀ (z : Shared) (u : Value), BindsTo z fd ⟨[u], []⟩ [(x, u)]) (hsp : ∀ G : Hp, SqL K G a (ns.map V.int) → sp [.ref a] G (fun v _ => v = .bl true) fun _ _ _ => False) :
    codeAny (model P w) callerA (.call (.ref fa) ⟨[.ref a], []⟩) (fun r z => r = .ok (.ret (.bool true)) ∧ OldK s.heap z.heap ∧ z.os = s.os ∧ AllBare z.gens) s := by
  cases hk : K.lookup a with
  | some o =>
    have e := kin a o hk
    rw [ha] at e
    cases e
    exact lawG_core (G := fun _ => none) kin nsg nsb boot lim gn ha hr F bind (fun _ => .inl rfl) (fun _ _ y => by cases y) (fun _ y => absurd rfl y) (fun y => absurd rfl y)
      (hsp _ (.inr ⟨_, vs.toArray, _, hk, rfl, rfl, rfl, by rw [List.size_toArray, hi.length]; exact hl, by simpa using vals_ints hi⟩))
  | none =>
    have at_ : ∀ b, (fun b => if b = a then some (HO.frz { cls := .type "list", data := .seq vs.toArray } (.lst (ns.map V.int))) else none) b ≠ none → b = a := fun b y => Decidable.byContradiction fun ne => y (if_neg ne)
    refine lawG_core (G := fun b => if b = a then some (.frz { cls := .type "list", data := .seq vs.toArray } (.lst (ns.map V.int))) else none) kin nsg nsb boot lim gn ha hr F bind (fun b => ?_) (fun b u y => ?_) at_ (fun _ => hk) (hsp _ (.inl (.inr ⟨_, if_pos rfl⟩)))
    · by_cases hb : b = a
      · exact .inr ⟨_, _, if_pos hb⟩
      · exact .inl (if_neg hb)
    · have hb : b = a := at_ b (by rw [y]; simp)
      subst hb
      have y2 := (if_pos rfl).symm.trans y
      cases y2
      exact ⟨ha, by rw [List.length_map]; exact hl, vs, _, vals_ints hi, ha⟩
end
end DL
namespace DN
open PySem PySem.Spec
open PyProof.Rows L2
mutual
/-- neither a text nor None is in it -/
def intKey : NestedKey → Bool
  | .num _ => true
  | .tup ks => intKeys ks
  | _ => false
def intKeys : List NestedKey → Bool
  | [] => true
  | k :: ks => intKey k && intKeys ks
end
abbrev Ent := NestedKey × Addr × Value
def entN (w : World) (x : Ent) : DictEntry := ⟨x.1.hash w, .ref x.2.1, x.2.2⟩
/-- the dict at b: its keys (each with its tuple's address), its values -/
def NDict (w : World) (b : Addr) (xs : List Ent) : Heap → Prop := fun h => xs.length ≤ sizeLine ∧ (b == sysModules) = false ∧
  ∃ o es ep, h.get? b = some o ∧ o.ExactDict ∧ o.data = .dict es ep ∧ es.toList = xs.map (entN w) ∧ (xs.map (·.1)).Nodup
abbrev NDO (w : World) (b : Addr) (xs : List Ent) : HO := .ext (NDict w b xs)
section
variable {P : Program} {w w' : World} {H : Hp} {h : Heap} {a b : Addr} {xs : List Ent}
/-- it stands at the tracked address -/
theorem nd_at (ok : ObjOk P w H h a (NDO w' b xs)) : b = a ∧ NDict w' a xs h := by
  obtain ⟨p, _, mono⟩ := ok
  have e : b = a := by
    refine Classical.byContradiction fun ne => ?_
    obtain ⟨G, g1, g2⟩ := restrict h fun c => decide (c ≠ b)
    have q := mono h G p fun o e => (g1 a (decide_eq_true fun z => ne z.symm)).trans e
    obtain ⟨_, _, o, _, _, e, _⟩ := q
    rw [g2 b (decide_eq_false fun z => z rfl)] at e
    cases e
  exact ⟨e, e ▸ p⟩
theorem nd_dict (d : NDict w a xs h) (hk : ∀ x ∈ xs, (nestedKind P w).is h x.1 x.2.1) : h.DictOfH (nestedKind P w) a xs := by
  obtain ⟨h1, h2, o, es, ep, e1, e2, e3, e4, e5⟩ := d
  exact ⟨o, es, ep, e1, e2, e3, e4, hk, e5⟩
theorem nd_new (d : h.DictOfH (nestedKind P w) a xs) (hl : xs.length ≤ sizeLine) (hs : (a == sysModules) = false) : ObjOk P w H h a (NDO w a xs) := by
  obtain ⟨o, es, ep, e1, e2, e3, e4, _, e5⟩ := d
  exact ⟨⟨hl, hs, o, es, ep, e1, e2, e3, e4, e5⟩, ⟨o, e1⟩, fun h1 h2 ⟨q1, q2, o', es', ep', f1, f2⟩ k => ⟨q1, q2, o', es', ep', k o' f1, f2⟩⟩
end
mutual
/-- the value v is the key k -/
inductive VKey (K : PySem.W.Frag) (H : Hp) : NestedKey → V → Prop
  | num (i : Int) : VKey K H (.num i) (.int i)
  | tup {a : Addr} {ks : List NestedKey} {vs : List V} (h : SqT K H a vs) (r : VKeys K H ks vs) : VKey K H (.tup ks) (.ref a)
inductive VKeys (K : PySem.W.Frag) (H : Hp) : List NestedKey → List V → Prop
  | nil : VKeys K H [] []
  | cons {k : NestedKey} {v : V} {ks : List NestedKey} {vs : List V} (h : VKey K H k v) (r : VKeys K H ks vs) : VKeys K H (k :: ks) (v :: vs)
end
theorem sqT_kept {K : PySem.W.Frag} {H H' : Hp} {a : Addr} {vs : List V} (e : ∀ b o, H b = some o → H' b = some o) (h : SqT K H a vs) : SqT K H' a vs := h.imp (·.imp (e _ _) fun ⟨o, q⟩ => ⟨o, e _ _ q⟩) id
mutual
theorem VKey.mono {K : PySem.W.Frag} {H H' : Hp} (e : ∀ b o, H b = some o → H' b = some o) : ∀ (k : NestedKey) (v : V), VKey K H k v → VKey K H' k v
  | _, _, .num i => .num i
  | _, _, .tup h r => .tup (sqT_kept e h) (VKeys.mono e _ _ r)
theorem VKeys.mono {K : PySem.W.Frag} {H H' : Hp} (e : ∀ b o, H b = some o → H' b = some o) : ∀ (ks : List NestedKey) (vs : List V), VKeys K H ks vs → VKeys K H' ks vs
  | _, _, .nil => .nil
  | _, _, .cons h r => .cons (VKey.mono e _ _ h) (VKeys.mono e _ _ r)
end
section
variable {X : Cx} {pins : List (Addr × Obj)} {σ : L2.St} {H : Hp} {s : Shared}
mutual
theorem key_is (I : Inv X pins σ H s) : ∀ (k : NestedKey) (v : V) (u : Value), VKey X.K H k v → RelV v u → NestedIs s.heap k u
  | _, _, _, .num i, r => by
    obtain ⟨t, rfl⟩ := r
    exact .int i t
  | _, _, _, .tup (ks := ks) h q, r => by
    cases r
    obtain ⟨its, rv, ⟨o, h1, h2, n, h3⟩, _⟩ := I.tuple h
    exact .tup h1 h2 h3 (by simpa using keys_are I ks _ its q rv)
theorem keys_are (I : Inv X pins σ H s) : ∀ (ks : List NestedKey) (vs : List V) (us : List Value), VKeys X.K H ks vs → Vals vs us → NestedAll s.heap ks us
  | _, _, _, .nil, r => by
    cases r
    exact .nil
  | _, _, _, .cons h q, r => by
    cases r with
    | cons r1 r2 => exact .cons (key_is I _ _ _ h r1) (keys_are I _ _ _ q r2)
end
/-- an entry's key, as the walk knows it -/
def KeyOk (K : PySem.W.Frag) (H : Hp) (k : NestedKey) (a : Addr) : Prop := intKey k = true ∧ k.depth ≤ 8 ∧ VKey K H k (.ref a)
theorem KeyOk.is (I : Inv X pins σ H s) {k : NestedKey} {a : Addr} (h : KeyOk X.K H k a) : (nestedKind X.prog X.w).is s.heap k a := ⟨key_is I _ _ _ h.2.2 rfl, h.2.1⟩
/-- {} -/
def tNew (w : World) : TE := fun _ H Q => ∀ q, H q = none → Q (.ref q) (upd H q (NDO w q []))
theorem pe_ndnew {pos : Pos} : PE X (.Dict [] [] pos) (tNew X.w) := ⟨fun pins s σ H Q I h =>
  wpAny_Dict_empty ⟨.ref s.heap.objs.size, _, I.laid (a := s.heap.objs.size) (t' := s.toks) (fun _ _ q => Heap.get?_push_of_some _ q) (Nat.le_refl _) (nd_new (P := X.prog) (Heap.DictOfH.new s.heap) (Nat.zero_le _) (by
    have := I.big
    simp [Nat.ne_of_gt this])), rfl, h _ (I.hok.fresh (Nat.le_refl _))⟩⟩
theorem stored_len {xs : List Ent} {k : NestedKey} {c : Addr} {u : Value} (h : xs.length < sizeLine) : (storedH xs k c u).length ≤ sizeLine := by
  unfold storedH
  split
  · rw [List.length_map]; omega
  · rw [List.length_append]; simp; omega
mutual
theorem data_depth : ∀ k : NestedKey, k.data.depth = k.depth
  | .none => rfl
  | .num _ => rfl
  | .text _ => rfl
  | .tup ks => by
    show PyData.depthAll (NestedKey.datas ks) + 1 = NestedKey.depthAll ks + 1
    rw [datas_depth ks]
theorem datas_depth : ∀ ks : List NestedKey, PyData.depthAll (NestedKey.datas ks) = NestedKey.depthAll ks
  | [] => rfl
  | k :: ks => by
    show max (PyData.depth k.data) (PyData.depthAll (NestedKey.datas ks)) = max k.depth (NestedKey.depthAll ks)
    rw [data_depth k, datas_depth ks]
end
mutual
theorem key_reads (I : Inv X pins σ H s) : ∀ (k : NestedKey) (v : V) (u : Value), VKey X.K H k v → RelV v u → ∃ as, Reads s.heap u k.data as
  | _, _, _, .num i, r => by
    obtain ⟨t, rfl⟩ := r
    exact ⟨_, .int i t⟩
  | _, _, _, .tup (ks := ks) h q, r => by
    cases r
    obtain ⟨its, rv, ⟨o, h1, h2, n, h3⟩, _⟩ := I.tuple h
    obtain ⟨as, ra⟩ := keys_reads I ks _ its q rv
    exact ⟨_, .tuple h1 h2 h3 (by simpa using ra)⟩
theorem keys_reads (I : Inv X pins σ H s) : ∀ (ks : List NestedKey) (vs : List V) (us : List Value), VKeys X.K H ks vs → Vals vs us → ∃ as, ReadsAll s.heap us (NestedKey.datas ks) as
  | _, _, _, .nil, r => by
    cases r
    exact ⟨_, .nil⟩
  | _, _, _, .cons h q, r => by
    cases r with
    | cons r1 r2 =>
      obtain ⟨as, h1⟩ := key_reads I _ _ _ h r1
      obtain ⟨bs, h2⟩ := keys_reads I _ _ _ q r2
      exact ⟨_, .cons h1 h2⟩
end
end
end DN
namespace PySem.W
open PySem PySem.Calls
open PyProof.Rows
end PySem.W
namespace DN
open PySem PySem.Spec
open PyProof.Rows L2
/-- a whole number's code as an address -/
def encI (i : Int) : Nat := if 0 ≤ i then 2 * i.toNat else 2 * (-i).toNat + 1
theorem encI_inj {i j : Int} (h : encI i = encI j) : i = j := by
  unfold encI at h
  split at h <;> split at h <;> omega
/-- the name under which a class table tells a text's hash -/
def hq (x : Str) : Str := ⟨#[35] ++ x.cps⟩
/-- the class table tells the hash of each text in this world -/
def HC (ct : Str → Option Addr) (w : World) : Prop := ∀ x : Str, ct (hq x) = some (encI (hashStr w x))
theorem HC.eq {ct : Str → Option Addr} {w w' : World} (h : HC ct w) (h' : HC ct w') (x : Str) : hashStr w x = hashStr w' x := encI_inj (Option.some.inj ((h x).symm.trans (h' x)))
mutual
theorem hash_of {w w' : World} (e : ∀ x, hashStr w x = hashStr w' x) : ∀ k : NestedKey, k.hash w = k.hash w'
  | .none => rfl
  | .num _ => rfl
  | .text x => e x
  | .tup ks => by
    show reduceHash _ = reduceHash _
    rw [hashes_of e ks]
theorem hashes_of {w w' : World} (e : ∀ x, hashStr w x = hashStr w' x) : ∀ ks : List NestedKey, NestedKey.hashes w ks = NestedKey.hashes w' ks
  | [] => rfl
  | k :: ks => by
    show NestedKey.hash w k :: NestedKey.hashes w ks = NestedKey.hash w' k :: NestedKey.hashes w' ks
    rw [hash_of e k, hashes_of e ks]
end
theorem nd_of_eq {w w' : World} {h : Heap} {a : Addr} {xs : List Ent} (e : ∀ x, hashStr w x = hashStr w' x) (d : NDict w' a xs h) : NDict w a xs h := by
  obtain ⟨h1, h2, o, es, ep, e1, e2, e3, e4, e5⟩ := d
  refine ⟨h1, h2, o, es, ep, e1, e2, e3, e4.trans (List.map_congr_left fun x hx => ?_), e5⟩
  unfold entN
  rw [hash_of e x.1]
mutual
/-- the value v is the key k -/
inductive VKeyT (K : PySem.W.Frag) (H : Hp) : NestedKey → V → Prop
  | none : VKeyT K H .none .non
  | num (i : Int) : VKeyT K H (.num i) (.int i)
  | text (x : Str) : VKeyT K H (.text x) (.str x)
  | tup {a : Addr} {ks : List NestedKey} {vs : List V} (h : SqT K H a vs) (r : VKeysT K H ks vs) : VKeyT K H (.tup ks) (.ref a)
inductive VKeysT (K : PySem.W.Frag) (H : Hp) : List NestedKey → List V → Prop
  | nil : VKeysT K H [] []
  | cons {k : NestedKey} {v : V} {ks : List NestedKey} {vs : List V} (h : VKeyT K H k v) (r : VKeysT K H ks vs) : VKeysT K H (k :: ks) (v :: vs)
end
mutual
theorem VKeyT.mono {K : PySem.W.Frag} {H H' : Hp} (e : ∀ b o, H b = some o → H' b = some o) : ∀ (k : NestedKey) (v : V), VKeyT K H k v → VKeyT K H' k v
  | _, _, .none => .none
  | _, _, .num i => .num i
  | _, _, .text x => .text x
  | _, _, .tup h r => .tup (sqT_kept e h) (VKeysT.mono e _ _ r)
theorem VKeysT.mono {K : PySem.W.Frag} {H H' : Hp} (e : ∀ b o, H b = some o → H' b = some o) : ∀ (ks : List NestedKey) (vs : List V), VKeysT K H ks vs → VKeysT K H' ks vs
  | _, _, .nil => .nil
  | _, _, .cons h r => .cons (VKeyT.mono e _ _ h) (VKeysT.mono e _ _ r)
end
section
variable {X : Cx} {pins : List (Addr × Obj)} {σ : L2.St} {H : Hp} {s : Shared}
mutual
theorem keyT_is (I : Inv X pins σ H s) : ∀ (k : NestedKey) (v : V) (u : Value), VKeyT X.K H k v → RelV v u → NestedIs s.heap k u
  | _, _, u, .none, r => by
    cases (show u = Value.none from r)
    exact .none
  | _, _, _, .num i, r => by
    obtain ⟨t, rfl⟩ := r
    exact .int i t
  | _, _, _, .text x, r => by
    obtain ⟨t, rfl⟩ := r
    exact .text x t
  | _, _, _, .tup (ks := ks) h q, r => by
    cases r
    obtain ⟨its, rv, ⟨o, h1, h2, n, h3⟩, _⟩ := I.tuple h
    exact .tup h1 h2 h3 (by simpa using keysT_are I ks _ its q rv)
theorem keysT_are (I : Inv X pins σ H s) : ∀ (ks : List NestedKey) (vs : List V) (us : List Value), VKeysT X.K H ks vs → Vals vs us → NestedAll s.heap ks us
  | _, _, _, .nil, r => by
    cases r
    exact .nil
  | _, _, _, .cons h q, r => by
    cases r with
    | cons r1 r2 => exact .cons (keyT_is I _ _ _ h r1) (keysT_are I _ _ _ q r2)
end
def KeyOkT (K : PySem.W.Frag) (H : Hp) (k : NestedKey) (a : Addr) : Prop := k.depth ≤ 8 ∧ VKeyT K H k (.ref a)
theorem KeyOkT.is (I : Inv X pins σ H s) {k : NestedKey} {a : Addr} (h : KeyOkT X.K H k a) : (nestedKind X.prog X.w).is s.heap k a := ⟨keyT_is I _ _ _ h.2 rfl, h.1⟩
theorem nd_ofT (I : Inv X pins σ H s) {a b : Addr} {w' : World} {xs : List Ent} (e : ∀ x, hashStr X.w x = hashStr w' x) (ha : H a = some (NDO w' b xs)) (hk : ∀ x ∈ xs, KeyOkT X.K H x.1 x.2.1) : NDict X.w a xs s.heap ∧ s.heap.DictOfH (nestedKind X.prog X.w) a xs := by
  have d := nd_of_eq (w := X.w) e (nd_at (I.hok a _ ha)).2
  exact ⟨d, nd_dict d fun x hx => (hk x hx).is I⟩
/-- d[k] = v -/
def rSetT (K : PySem.W.Frag) (w : World) : TSet := fun o i v H Q => ∃ a b w' xs k c, o = .ref a ∧ i = .ref c ∧ (∀ x, hashStr w x = hashStr w' x) ∧ H a = some (NDO w' b xs) ∧ (∀ x ∈ xs, KeyOkT K H x.1 x.2.1) ∧ KeyOkT K H k c ∧ xs.length < sizeLine ∧
  ∀ u, RelV v u → Q (upd H a (NDO w a (storedH xs k c u)))
theorem set_ndT (hu : X.A.units + 16 < cLine) : PSet X (rSetT X.K X.w) := by
  intro pins s σ H o i v ov iv u Q I r1 r2 r3 h
  obtain ⟨a, b, w', xs, k, c, rfl, rfl, he, ha, hk, kc, hl, q⟩ := h
  cases (show ov = Value.ref a from r1)
  cases (show iv = Value.ref c from r2)
  obtain ⟨d, dd⟩ := nd_ofT I he ha hk
  refine wpAny_setItem_heap (knd := nestedKind X.prog X.w) (by show X.A.in1.units + 8 < cLine; simp only [Around.in1_units]; omega) (kc.is I) dd (fun h' d' sb => ?_) (by omega)
  obtain ⟨oo, es, ep, e1, _⟩ := id d'
  exact ⟨_, d_write I (by rw [ha]; trivial) sb ⟨_, e1⟩ (nd_new d' (stored_len hl) d.2.1), q u r3⟩
/-- d[k] -/
def rAtT (K : PySem.W.Frag) (w : World) : R2 := fun x y H Q => ∃ a b w' xs k c p, x = .ref a ∧ y = .ref c ∧ (∀ x, hashStr w x = hashStr w' x) ∧ H a = some (NDO w' b xs) ∧ (∀ z ∈ xs, KeyOkT K H z.1 z.2.1) ∧ KeyOkT K H k c ∧ atKey xs k = some p ∧ ∃ v, RelV v p.2 ∧ Q v H
theorem ix_ndT (hu : X.A.units + 16 < cLine) : IxR X (rAtT X.K X.w) := by
  intro value slice pins s σ H x y v u Q I rx ry h hs
  obtain ⟨a, b, w', xs, k, c, p, rfl, rfl, he, ha, hk, kc, hp, z, rz, q⟩ := h
  cases (show v = Value.ref a from rx)
  cases (show u = Value.ref c from ry)
  obtain ⟨d, dd⟩ := nd_ofT I he ha hk
  refine subscriptTail_builtinR (x := p.2) dd.typeIs slot_dict_getitem.lookup (wpAny_getItem_heap (knd := nestedKind X.prog X.w) (by show X.A.in1.units + 8 < cLine; simp only [Around.in1_units]; omega) (kc.is I) dd hp ⟨rfl, z, H, I.tok _, rz, q⟩) hs
end
end DN
namespace DL
open PySem L2
inductive D where
  | non
  | bl (b : Bool)
  | int (i : Int)
  | str (x : Str)
  | tup (ds : List D)
  | lst (ds : List D)
  | dct (ks : List Key) (ds : List D)
  | scr (ns : List Int)
  | ref (i : Nat)
  | obj (c : Str) (fs : List Str) (ds : List D)
  | exc (c : Str) (fs : List Str) (ds : List D)
  | typ (c : Str)
inductive Cell where
  | lst (ds : List D)
  | dct (kvs : List (Key × D))
  | ins (c : Str) (fs : List Str) (ds : List D)
  | tab (q : Str)
  | nd (kvs : List (NestedKey × D))
  | nt (kvs : List (NestedKey × D))
abbrev Sto := List Cell
abbrev DEnv := List (Option D)
abbrev FE := DEnv → Sto → Option (D × Sto)
abbrev FA := DEnv → Sto → Option (List D × Sto)
abbrev FT := DEnv → Sto → Option (Bool × Sto)
abbrev FD := List D → Sto → Option (D × Sto)
inductive Fl where
  | nx (env : DEnv)
  | rt (d : D)
  | bk (env : DEnv)
  | ct (env : DEnv)
abbrev FS := DEnv → Sto → Option (Fl × Sto)
abbrev CT := Str → Option Addr
/-- at a: an error of the class at C that stands as it is, its dict at dx, if it has one -/
def exk (a C : Addr) (dx : Option Addr) : HO := .ext fun h => ∃ o vs, h.get? a = some o ∧ o.cls = .ref C ∧ o.dict = dx ∧ o.data = .fields vs
section
variable (K : PySem.W.Frag) (ct : CT)
mutual
def Rep (m : List Addr) (F : Hp) : D → V → Prop
  | .non, v => v = .non
  | .bl b, v => v = .bl b
  | .int i, v => v = .int i
  | .str x, v => v = .str x
  | .tup ds, v => ∃ a vs, v = .ref a ∧ SqT K F a vs ∧ Reps m F ds vs
  | .lst ds, v => ∃ a vs, v = .ref a ∧ F a = some (.lst vs) ∧ Reps m F ds vs
  | .dct ks ds, v => ∃ a vs, v = .ref a ∧ F a = some (.dK (ks.zip vs)) ∧ ks.length = vs.length ∧ Reps m F ds vs
  | .scr ns, v => ∃ a, v = .ref a ∧ SqL K F a (ns.map V.int)
  | .ref i, v => ∃ a, m[i]? = some a ∧ v = .ref a
  | .obj c fs ds, v => ∃ a C dx vs, v = .ref a ∧ ct c = some C ∧ F a = some (.ins C dx (fs.zip vs)) ∧ fs.length = vs.length ∧ Reps m F ds vs
  | .exc c fs ds, v => ∃ a C dx vs, v = .ref a ∧ ct c = some C ∧ Rd F a (exk a C dx) ∧ ((dx = none ∧ fs = []) ∨ ∃ d, dx = some d ∧ F d = some (.xd (fs.zip vs))) ∧ fs.length = vs.length ∧ Reps m F ds vs
  | .typ c, v => ∃ C, ct c = some C ∧ v = .ref C
def Reps (m : List Addr) (F : Hp) : List D → List V → Prop
  | [], vs => vs = []
  | d :: ds, vs => ∃ v r, vs = v :: r ∧ Rep m F d v ∧ Reps m F ds r
end
def CellR (m : List Addr) (F : Hp) (o : Option HO) : Cell → Prop
  | .lst ds => ∃ vs, o = some (.lst vs) ∧ Reps K ct m F ds vs
  | .dct kvs => ∃ us, o = some (.dK us) ∧ Paired (fun (p : Key × D) (q : Key × V) => p.1 = q.1 ∧ Rep K ct m F p.2 q.2) kvs us
  | .ins c fs ds => ∃ C dx vs, o = some (.ins C dx (fs.zip vs)) ∧ ct c = some C ∧ fs.length = vs.length ∧ Reps K ct m F ds vs
  | .tab q => ∃ ps : Array Value, o = some (.tbl ps) ∧ TriplesOk ps.toList ∧ ∀ (pos : Pos) (cv : Value), codeAmong pos ps.toList = some cv → ∃ c, cv = .ref c ∧ F c = some (LamX.CodeO c q)
  | .nd kvs => ∃ (w : World) (b : Addr) (xs : List DN.Ent), o = some (DN.NDO w b xs) ∧ Paired (fun (p : NestedKey × D) (q : DN.Ent) => p.1 = q.1 ∧ DN.KeyOk K F p.1 q.2.1 ∧ ∃ v, RelV v q.2.2 ∧ Rep K ct m F p.2 v) kvs xs
  | .nt kvs => ∃ (w : World) (b : Addr) (xs : List DN.Ent), o = some (DN.NDO w b xs) ∧ DN.HC ct w ∧ Paired (fun (p : NestedKey × D) (q : DN.Ent) => p.1 = q.1 ∧ DN.KeyOkT K F p.1 q.2.1 ∧ ∃ v, RelV v q.2.2 ∧ Rep K ct m F p.2 v) kvs xs
def isTab : Cell → Option Str
  | .tab q => some q
  | _ => none
structure Sim (m : List Addr) (F : Hp) (S : Sto) (H : Hp) : Prop where
  same : Same F H
  len : m.length = S.length
  nd : m.Nodup
  off : ∀ a ∈ m, F a = none
  cell : ∀ (i : Nat) (a : Addr) (c : Cell), m[i]? = some a → S[i]? = some c → CellR K ct m F (H a) c
  tab : ∀ (i : Nat) (a : Addr) (c : Cell) (q : Str), m[i]? = some a → S[i]? = some c → isTab c = some q → ct q = some a
def EnvR (m : List Addr) (F : Hp) (env : DEnv) (σ : St) : Prop :=
  env.length = σ.length ∧ ∀ (i : Nat) (d : D), env[i]? = some (some d) → ∃ v, σ[i]? = some (some v) ∧ Rep K ct m F d v
end
/-- what an evaluation may do to the heap -/
structure Ext (m : List Addr) (F H : Hp) (m' : List Addr) (F' H' : Hp) : Prop where
  pre : ∀ (i : Nat) (a : Addr), m[i]? = some a → m'[i]? = some a
  same : Same F F'
  keep : ∀ b o, H b = some o → b ∉ m → H' b = some o
  new : ∀ a ∈ m', a ∈ m ∨ H a = none
  fnew : ∀ b o, F' b = some o → F b = some o ∨ H b = none
  grow : ∀ b o, H b = some o → ∃ o', H' b = some o'
theorem nodup_inj {α : Type} {a : α} : ∀ {l : List α} {i j : Nat}, l.Nodup → l[i]? = some a → l[j]? = some a → i = j
  | [], _, _, _, h, _ => by simp at h
  | x :: l, 0, 0, _, _, _ => rfl
  | x :: l, 0, j + 1, n, h, q => by
    simp at h q
    exact absurd (List.mem_iff_getElem?.mpr ⟨j, q⟩) (h ▸ (List.nodup_cons.mp n).1)
  | x :: l, i + 1, 0, n, h, q => by
    simp at h q
    exact absurd (List.mem_iff_getElem?.mpr ⟨i, h⟩) (q ▸ (List.nodup_cons.mp n).1)
  | x :: l, i + 1, j + 1, n, h, q => by
    have := nodup_inj (i := i) (j := j) (List.nodup_cons.mp n).2 (by simpa using h) (by simpa using q)
    omega
theorem Ext.refl (m : List Addr) (F H : Hp) : Ext m F H m F H := ⟨fun _ _ h => h, Same.refl _, fun _ _ h _ => h, fun _ h => .inl h, fun _ _ h => .inl h, fun _ o h => ⟨o, h⟩⟩
theorem Ext.mem {m m' : List Addr} {F H F' H' : Hp} (e : Ext m F H m' F' H') {a : Addr} (h : a ∈ m) : a ∈ m' := by
  obtain ⟨i, hi⟩ := List.mem_iff_getElem?.mp h
  exact List.mem_iff_getElem?.mpr ⟨i, e.pre i a hi⟩
theorem Ext.trans {m m1 m2 : List Addr} {F F1 F2 H H1 H2 : Hp} (a : Ext m F H m1 F1 H1) (b : Ext m1 F1 H1 m2 F2 H2) : Ext m F H m2 F2 H2 where
  pre := fun i x h => b.pre i x (a.pre i x h)
  same := a.same.trans b.same
  keep := fun c o h n => b.keep c o (a.keep c o h n) fun hm => by
    rcases a.new c hm with q | q
    · exact n q
    · rw [h] at q; cases q
  new := fun x hx => by
    rcases b.new x hx with q | q
    · exact a.new x q
    · cases e : H x with
      | none => exact .inr rfl
      | some o =>
        obtain ⟨o', h⟩ := a.grow x o e
        rw [h] at q; cases q
  fnew := fun x o hx => by
    rcases b.fnew x o hx with q | q
    · exact a.fnew x o q
    · cases e : H x with
      | none => exact .inr rfl
      | some o =>
        obtain ⟨o', h⟩ := a.grow x o e
        rw [h] at q; cases q
  grow := fun x o h => by
    obtain ⟨o1, h1⟩ := a.grow x o h
    exact b.grow x o1 h1
section
variable {K : PySem.W.Frag} {ct : CT}
theorem sqT_mono {F F' : Hp} {a : Addr} {vs : List V} (e : Same F F') (h : SqT K F a vs) : SqT K F' a vs := by
  rcases h with (h | ⟨o, h⟩) | h
  · exact .inl (.inl (e _ _ h))
  · exact .inl (.inr ⟨o, e _ _ h⟩)
  · exact .inr h
theorem rd_mono {F F' : Hp} {a : Addr} {u : HO} (e : Same F F') (h : Rd F a u) : Rd F' a u := h.imp (e _ _) fun ⟨o, h⟩ => ⟨o, e _ _ h⟩
mutual
theorem Rep.mono' {m m' : List Addr} {F F' : Hp} (hp : ∀ (i : Nat) (a : Addr), m[i]? = some a → m'[i]? = some a) (e : Same F F') : ∀ (d : D) (v : V), Rep K ct m F d v → Rep K ct m' F' d v
  | .non, _, h => h
  | .bl _, _, h => h
  | .int _, _, h => h
  | .str _, _, h => h
  | .tup ds, _, h => by
    obtain ⟨a, vs, e1, e2, e3⟩ := h
    exact ⟨a, vs, e1, sqT_mono e e2, Reps.mono' hp e ds vs e3⟩
  | .lst ds, _, h => by
    obtain ⟨a, vs, e1, e2, e3⟩ := h
    exact ⟨a, vs, e1, e _ _ e2, Reps.mono' hp e ds vs e3⟩
  | .dct ks ds, _, h => by
    obtain ⟨a, vs, e1, e2, e4, e3⟩ := h
    exact ⟨a, vs, e1, e _ _ e2, e4, Reps.mono' hp e ds vs e3⟩
  | .scr _, _, h => by
    obtain ⟨a, e1, e2⟩ := h
    exact ⟨a, e1, e.seq e2⟩
  | .ref i, _, h => by
    obtain ⟨a, e1, e2⟩ := h
    exact ⟨a, hp i a e1, e2⟩
  | .obj c fs ds, _, h => by
    obtain ⟨a, C, dx, vs, e1, e2, e4, e5, e3⟩ := h
    exact ⟨a, C, dx, vs, e1, e2, e _ _ e4, e5, Reps.mono' hp e ds vs e3⟩
  | .exc c fs ds, _, h => by
    obtain ⟨a, C, dx, vs, e1, e2, e4, e6, e5, e3⟩ := h
    exact ⟨a, C, dx, vs, e1, e2, rd_mono e e4, e6.imp id fun ⟨d, q1, q2⟩ => ⟨d, q1, e _ _ q2⟩, e5, Reps.mono' hp e ds vs e3⟩
  | .typ c, _, h => h
theorem Reps.mono' {m m' : List Addr} {F F' : Hp} (hp : ∀ (i : Nat) (a : Addr), m[i]? = some a → m'[i]? = some a) (e : Same F F') : ∀ (ds : List D) (vs : List V), Reps K ct m F ds vs → Reps K ct m' F' ds vs
  | [], _, h => h
  | d :: ds, _, h => by
    obtain ⟨v, r, e1, e2, e3⟩ := h
    exact ⟨v, r, e1, Rep.mono' hp e d v e2, Reps.mono' hp e ds r e3⟩
end
variable {m m' : List Addr} {F F' H H' : Hp} {S S' : Sto} {env : DEnv} {σ : St} {d : D} {v : V} {ds : List D} {vs : List V}
theorem Rep.mono (h : Rep K ct m F d v) (e : Ext m F H m' F' H') : Rep K ct m' F' d v := Rep.mono' e.pre e.same d v h
theorem Reps.mono (h : Reps K ct m F ds vs) (e : Ext m F H m' F' H') : Reps K ct m' F' ds vs := Reps.mono' e.pre e.same ds vs h
theorem EnvR.mono (h : EnvR K ct m F env σ) (e : Ext m F H m' F' H') : EnvR K ct m' F' env σ :=
  ⟨h.1, fun i d q => let ⟨v, h1, h2⟩ := h.2 i d q; ⟨v, h1, h2.mono e⟩⟩
theorem CellR.mono {o : Option HO} {c : Cell} (h : CellR K ct m F o c) (e : Ext m F H m' F' H') : CellR K ct m' F' o c := by
  cases c with
  | lst ds => obtain ⟨vs, e1, e2⟩ := h; exact ⟨vs, e1, e2.mono e⟩
  | dct kvs => obtain ⟨vs, e1, e2⟩ := h; exact ⟨vs, e1, Paired.mapP e2 fun p q z => ⟨z.1, z.2.mono e⟩⟩
  | ins c fs ds => obtain ⟨C, dx, vs, e1, e4, e3, e2⟩ := h; exact ⟨C, dx, vs, e1, e4, e3, e2.mono e⟩
  | tab q => obtain ⟨ps, e1, e2, e3⟩ := h; exact ⟨ps, e1, e2, fun pos cv hc => let ⟨c, z1, z2⟩ := e3 pos cv hc; ⟨c, z1, e.same _ _ z2⟩⟩
  | nd kvs => obtain ⟨w, b, xs, e1, e2⟩ := h; exact ⟨w, b, xs, e1, Paired.mapP e2 fun p q ⟨z1, ⟨z2, z3, z4⟩, v, z5, z6⟩ => ⟨z1, ⟨z2, z3, DN.VKey.mono e.same _ _ z4⟩, v, z5, z6.mono e⟩⟩
  | nt kvs => obtain ⟨w, b, xs, e1, hc, e2⟩ := h; exact ⟨w, b, xs, e1, hc, Paired.mapP e2 fun p q ⟨z1, ⟨z3, z4⟩, v, z5, z6⟩ => ⟨z1, ⟨z3, DN.VKeyT.mono e.same _ _ z4⟩, v, z5, z6.mono e⟩⟩
theorem CellR.isSome {o : Option HO} {c : Cell} (h : CellR K ct m F o c) : ∃ u, o = some u := by
  cases c with
  | lst ds => obtain ⟨vs, e1, _⟩ := h; exact ⟨_, e1⟩
  | dct kvs => obtain ⟨vs, e1, _⟩ := h; exact ⟨_, e1⟩
  | ins c fs ds => obtain ⟨C, dx, vs, e1, _⟩ := h; exact ⟨_, e1⟩
  | tab q => obtain ⟨ps, e1, _⟩ := h; exact ⟨_, e1⟩
  | nd kvs => obtain ⟨w, b, xs, e1, _⟩ := h; exact ⟨_, e1⟩
  | nt kvs => obtain ⟨w, b, xs, e1, _⟩ := h; exact ⟨_, e1⟩
theorem Sim.at (s : Sim K ct m F S H) {i : Nat} {a : Addr} (h : m[i]? = some a) : ∃ c, S[i]? = some c ∧ CellR K ct m F (H a) c := by
  have hi : i < S.length := by
    rw [← s.len]
    exact (List.getElem?_eq_some_iff.mp h).1
  exact ⟨S[i], List.getElem?_eq_getElem hi, s.cell i a S[i] h (List.getElem?_eq_getElem hi)⟩
theorem Sim.there (s : Sim K ct m F S H) {a : Addr} (h : a ∈ m) : ∃ o, H a = some o := by
  obtain ⟨i, hi⟩ := List.mem_iff_getElem?.mp h
  obtain ⟨c, _, hc⟩ := s.at hi
  exact hc.isSome
/-- a new frozen object -/
theorem Sim.frozen (s : Sim K ct m F S H) {p : Addr} (hp : H p = none) (o : HO) : Sim K ct m (upd F p o) S (upd H p o) ∧ Ext m F H m (upd F p o) (upd H p o) := by
  have nm : p ∉ m := fun h => by
    obtain ⟨o, q⟩ := s.there h
    rw [hp] at q; cases q
  have x : Ext m F H m (upd F p o) (upd H p o) := by
    refine ⟨fun _ _ h => h, fun b u h => ?_, fun b u h _ => ?_, fun a h => .inl h, fun b u h => ?_, fun b u h => ?_⟩
    · rw [upd_ne (ne_of_none (s.same _ _ h) hp)]; exact h
    · rw [upd_ne (ne_of_none h hp)]; exact h
    · by_cases hb : b = p
      · rw [hb]; exact .inr hp
      · rw [upd_ne hb] at h; exact .inl h
    · exact ⟨u, by rw [upd_ne (ne_of_none h hp)]; exact h⟩
  refine ⟨⟨fun b u h => ?_, s.len, s.nd, fun a h => ?_, fun i a c h1 h2 => ?_, s.tab⟩, x⟩
  · by_cases hb : b = p
    · rw [hb, upd_same] at h; rw [hb, upd_same]; exact h
    · rw [upd_ne hb] at h; rw [upd_ne hb]; exact s.same _ _ h
  · have na : a ≠ p := fun e => nm (e ▸ h)
    rw [upd_ne na]; exact s.off a h
  · have hm : a ∈ m := List.mem_iff_getElem?.mpr ⟨i, h1⟩
    have na : a ≠ p := fun e => nm (e ▸ hm)
    rw [upd_ne na]
    exact (s.cell i a c h1 h2).mono x
/-- a new cell -/
theorem Sim.fresh (s : Sim K ct m F S H) {p : Addr} (hp : H p = none) {o : HO} {c : Cell} (hc : CellR K ct m F (some o) c) (nt : isTab c = none := by rfl) : Sim K ct (m ++ [p]) F (S ++ [c]) (upd H p o) ∧ Ext m F H (m ++ [p]) F (upd H p o) := by
  have nm : p ∉ m := fun h => by
    obtain ⟨o, q⟩ := s.there h
    rw [hp] at q; cases q
  have x : Ext m F H (m ++ [p]) F (upd H p o) := by
    refine ⟨fun i a h => ?_, Same.refl _, fun b u h _ => ?_, fun a h => ?_, fun b u h => .inl h, fun b u h => ?_⟩
    · rw [List.getElem?_append_left (List.getElem?_eq_some_iff.mp h).1]; exact h
    · rw [upd_ne (ne_of_none h hp)]; exact h
    · rcases List.mem_append.mp h with q | q
      · exact .inl q
      · rw [List.mem_singleton.mp q]; exact .inr hp
    · exact ⟨u, by rw [upd_ne (ne_of_none h hp)]; exact h⟩
  refine ⟨⟨fun b u h => ?_, by simp [s.len], ?_, fun a h => ?_, fun i a c' h1 h2 => ?_, fun i a c' q h1 h2 h3 => ?_⟩, x⟩
  · rw [upd_ne (ne_of_none (s.same _ _ h) hp)]; exact s.same _ _ h
  · rw [List.nodup_append]
    exact ⟨s.nd, by simp, fun a ha b hb e => nm (by rw [List.mem_singleton.mp hb] at e; exact e ▸ ha)⟩
  · rcases List.mem_append.mp h with q | q
    · exact s.off a q
    · rw [List.mem_singleton.mp q]
      cases e : F p with
      | none => rfl
      | some o => rw [s.same _ _ e] at hp; cases hp
  · by_cases hi : i < m.length
    · rw [List.getElem?_append_left hi] at h1
      rw [List.getElem?_append_left (s.len ▸ hi)] at h2
      have hm : a ∈ m := List.mem_iff_getElem?.mpr ⟨i, h1⟩
      have na : a ≠ p := fun e => nm (e ▸ hm)
      rw [upd_ne na]
      exact (s.cell i a c' h1 h2).mono x
    · rw [List.getElem?_append_right (by omega)] at h1
      rw [List.getElem?_append_right (by have := s.len; omega)] at h2
      have e0 : i - m.length = 0 := by
        have := (List.getElem?_eq_some_iff.mp h1).1
        simp at this; omega
      rw [e0] at h1
      rw [← s.len, e0] at h2
      simp at h1 h2
      subst h1 h2
      rw [upd_same]
      exact hc.mono x
  · by_cases hi : i < m.length
    · rw [List.getElem?_append_left hi] at h1
      rw [List.getElem?_append_left (s.len ▸ hi)] at h2
      exact s.tab i a c' q h1 h2 h3
    · rw [List.getElem?_append_right (by have := s.len; omega)] at h2
      have := List.mem_of_getElem? h2
      rw [List.mem_singleton.mp this, nt] at h3
      cases h3
/-- a cell is changed -/
theorem Sim.change (s : Sim K ct m F S H) {i : Nat} {p : Addr} (hi : m[i]? = some p) {o : HO} {c : Cell} (hc : CellR K ct m F (some o) c) (nt : ∀ q, isTab c = some q → ct q = some p := by (intro q h; cases h)) : Sim K ct m F (S.set i c) (upd H p o) ∧ Ext m F H m F (upd H p o) := by
  have hm : p ∈ m := List.mem_iff_getElem?.mpr ⟨i, hi⟩
  have x : Ext m F H m F (upd H p o) := by
    refine ⟨fun _ _ h => h, Same.refl _, fun b u h n => ?_, fun a h => .inl h, fun _ _ h => .inl h, fun b u h => ?_⟩
    · have nb : b ≠ p := fun e => n (e ▸ hm)
      rw [upd_ne nb]; exact h
    · by_cases hb : b = p
      · rw [hb, upd_same]; exact ⟨o, rfl⟩
      · rw [upd_ne hb]; exact ⟨u, h⟩
  refine ⟨⟨fun b u h => ?_, by simp [s.len], s.nd, s.off, fun j a c' h1 h2 => ?_, fun j a c' q h1 h2 h3 => ?_⟩, x⟩
  · have nb : b ≠ p := fun e => by
      subst e
      rw [s.off b hm] at h; cases h
    rw [upd_ne nb]; exact s.same _ _ h
  · have hil : i < m.length := (List.getElem?_eq_some_iff.mp hi).1
    by_cases hj : j = i
    · subst hj
      rw [hi] at h1
      cases h1
      rw [List.getElem?_set_self (s.len ▸ hil)] at h2
      cases h2
      rw [upd_same]
      exact hc
    · rw [List.getElem?_set_ne (fun e => hj e.symm)] at h2
      have na : a ≠ p := fun e => by
        subst e
        have hjl : j < m.length := (List.getElem?_eq_some_iff.mp h1).1
        exact hj (nodup_inj s.nd h1 hi)
      rw [upd_ne na]
      exact s.cell j a c' h1 h2
  · have hil : i < m.length := (List.getElem?_eq_some_iff.mp hi).1
    by_cases hj : j = i
    · subst hj
      rw [hi] at h1
      cases h1
      rw [List.getElem?_set_self (s.len ▸ hil)] at h2
      cases h2
      exact nt q h3
    · rw [List.getElem?_set_ne (fun e => hj e.symm)] at h2
      exact s.tab j a c' q h1 h2 h3
theorem Reps.length : ∀ {ds : List D} {vs : List V}, Reps K ct m F ds vs → ds.length = vs.length
  | [], _, h => by have h : _ = _ := h; subst h; rfl
  | d :: ds, _, h => by
    obtain ⟨v, r, e1, _, e3⟩ := h
    subst e1
    simp [Reps.length e3]
theorem Reps.get : ∀ {ds : List D} {vs : List V} {i : Nat} {d : D}, Reps K ct m F ds vs → ds[i]? = some d → ∃ v, vs[i]? = some v ∧ Rep K ct m F d v
  | [], _, _, _, _, h => by simp at h
  | d :: ds, _, 0, _, hr, h => by
    obtain ⟨v, r, e1, e2, _⟩ := hr
    subst e1
    simp at h
    subst h
    exact ⟨v, rfl, e2⟩
  | d :: ds, _, i + 1, _, hr, h => by
    obtain ⟨v, r, e1, _, e3⟩ := hr
    subst e1
    exact Reps.get (i := i) e3 (by simpa using h)
theorem Reps.snoc : ∀ {ds : List D} {vs : List V} {d : D} {v : V}, Reps K ct m F ds vs → Rep K ct m F d v → Reps K ct m F (ds ++ [d]) (vs ++ [v])
  | [], _, d, v, h, q => by
    have h : _ = _ := h
    subst h
    exact ⟨v, [], rfl, q, rfl⟩
  | e :: ds, _, d, v, h, q => by
    obtain ⟨x, r, e1, e2, e3⟩ := h
    subst e1
    exact ⟨x, r ++ [v], rfl, e2, e3.snoc q⟩
theorem Reps.append : ∀ {ds es : List D} {vs us : List V}, Reps K ct m F ds vs → Reps K ct m F es us → Reps K ct m F (ds ++ es) (vs ++ us)
  | [], _, _, _, h, q => by
    have h : _ = _ := h
    subst h
    exact q
  | e :: ds, _, _, _, h, q => by
    obtain ⟨x, r, e1, e2, e3⟩ := h
    subst e1
    exact ⟨x, _, rfl, e2, e3.append q⟩
theorem Reps.set : ∀ {ds : List D} {vs : List V} {d : D} {v : V} (i : Nat), Reps K ct m F ds vs → Rep K ct m F d v → Reps K ct m F (ds.set i d) (vs.set i v)
  | [], _, d, v, i, h, q => by
    have h : _ = _ := h
    subst h
    cases i <;> exact rfl
  | e :: ds, _, d, v, 0, h, q => by
    obtain ⟨x, r, e1, e2, e3⟩ := h
    subst e1
    exact ⟨v, r, rfl, q, e3⟩
  | e :: ds, _, d, v, i + 1, h, q => by
    obtain ⟨x, r, e1, e2, e3⟩ := h
    subst e1
    exact ⟨x, _, rfl, e2, e3.set i q⟩
theorem Reps.take : ∀ {ds : List D} {vs : List V} (n : Nat), Reps K ct m F ds vs → Reps K ct m F (ds.take n) (vs.take n)
  | _, _, 0, _ => by simp [Reps]
  | [], _, n + 1, h => by
    have h : _ = _ := h
    subst h
    exact rfl
  | d :: ds, _, n + 1, h => by
    obtain ⟨x, r, e1, e2, e3⟩ := h
    subst e1
    exact ⟨x, _, rfl, e2, e3.take n⟩
theorem Reps.drop : ∀ {ds : List D} {vs : List V} (n : Nat), Reps K ct m F ds vs → Reps K ct m F (ds.drop n) (vs.drop n)
  | _, _, 0, h => h
  | [], _, n + 1, h => by
    have h : _ = _ := h
    subst h
    exact rfl
  | d :: ds, _, n + 1, h => by
    obtain ⟨x, r, e1, e2, e3⟩ := h
    subst e1
    exact e3.drop n
theorem Reps.mk1 (h : Rep K ct m F d v) : Reps K ct m F [d] [v] := ⟨v, [], rfl, h, rfl⟩
theorem Reps.ints (ns : List Int) : Reps K ct m F (ns.map D.int) (ns.map V.int) := by
  induction ns with
  | nil => exact rfl
  | cons n ns ih => exact ⟨_, _, rfl, rfl, ih⟩
theorem EnvR.set (h : EnvR K ct m F env σ) (i : Nat) (q : Rep K ct m F d v) : EnvR K ct m F (env.set i (some d)) (σ.set i (some v)) := by
  refine ⟨by simp [h.1], fun j e hj => ?_⟩
  by_cases e1 : i = j
  · subst e1
    have hl : i < env.length := by
      have := (List.getElem?_eq_some_iff.mp hj).1
      simpa using this
    rw [List.getElem?_set_self hl] at hj
    cases hj
    rw [List.getElem?_set_self (h.1 ▸ hl)]
    exact ⟨v, rfl, q⟩
  · rw [List.getElem?_set_ne e1] at hj
    rw [List.getElem?_set_ne e1]
    exact h.2 j e hj
end
section
variable (ct : CT)
def PostE (K : PySem.W.Frag) (m : List Addr) (F H : Hp) (S' : Sto) (d : D) (Q : VK) : Prop :=
  ∀ m' F' v H', Ext m F H m' F' H' → Sim K ct m' F' S' H' → Rep K ct m' F' d v → Q v H'
def PostA (K : PySem.W.Frag) (m : List Addr) (F H : Hp) (S' : Sto) (ds : List D) (Q : List V → Hp → Prop) : Prop :=
  ∀ m' F' vs H', Ext m F H m' F' H' → Sim K ct m' F' S' H' → Reps K ct m' F' ds vs → Q vs H'
def PostT (K : PySem.W.Frag) (m : List Addr) (F H : Hp) (S' : Sto) (b : Bool) (Q : Bool → Hp → Prop) : Prop :=
  ∀ m' F' H', Ext m F H m' F' H' → Sim K ct m' F' S' H' → Q b H'
def PostS (K : PySem.W.Frag) (m : List Addr) (F H : Hp) (S' : Sto) (fl : Fl) (E : Ends) : Prop :=
  match fl with
  | .nx env' => ∀ m' F' σ' H', Ext m F H m' F' H' → Sim K ct m' F' S' H' → EnvR K ct m' F' env' σ' → E.nx σ' H'
  | .rt d => ∀ m' F' v H', Ext m F H m' F' H' → Sim K ct m' F' S' H' → Rep K ct m' F' d v → E.rt v H'
  | .bk env' => ∀ m' F' σ' H', Ext m F H m' F' H' → Sim K ct m' F' S' H' → EnvR K ct m' F' env' σ' → E.bk σ' H'
  | .ct env' => ∀ m' F' σ' H', Ext m F H m' F' H' → Sim K ct m' F' S' H' → EnvR K ct m' F' env' σ' → E.ct σ' H'
def SE (X : Cx) (e : Expr) (f : FE) : Prop := ∃ t, PE X e t ∧ ∀ m F S σ H env d S' Q, Sim X.K ct m F S H → EnvR X.K ct m F env σ → f env S = some (d, S') → PostE ct X.K m F H S' d Q → t σ H Q
def SA (X : Cx) (es : List Expr) (f : FA) : Prop := ∃ t, PA X es t ∧ ∀ m F S σ H env ds S' Q, Sim X.K ct m F S H → EnvR X.K ct m F env σ → f env S = some (ds, S') → PostA ct X.K m F H S' ds Q → t σ H Q
def ST (X : Cx) (e : Expr) (f : FT) : Prop := ∃ t, PT X e t ∧ ∀ m F S σ H env b S' Q, Sim X.K ct m F S H → EnvR X.K ct m F env σ → f env S = some (b, S') → PostT ct X.K m F H S' b Q → t σ H Q
def SW (X : Cx) (e : Expr) (f : FT) : Prop := ∃ t, PW X e t ∧ ∀ m F S σ H env b S' Q, Sim X.K ct m F S H → EnvR X.K ct m F env σ → f env S = some (b, S') → PostT ct X.K m F H S' b Q → t σ H Q
def SS (X : Cx) (st : Stmt) (f : FS) : Prop := ∃ t, PS X st t ∧ ∀ m F S σ H env fl S' E, Sim X.K ct m F S H → EnvR X.K ct m F env σ → f env S = some (fl, S') → PostS ct X.K m F H S' fl E → t E σ H
def SSs (X : Cx) (sts : List Stmt) (f : FS) : Prop := ∃ t, PSs X sts t ∧ ∀ m F S σ H env fl S' E, Sim X.K ct m F S H → EnvR X.K ct m F env σ → f env S = some (fl, S') → PostS ct X.K m F H S' fl E → t E σ H
/-- a rule of two values, at data -/
def OpD (K : PySem.W.Frag) (r : R2) (g : D → D → Sto → Option (D × Sto)) : Prop := ∀ m F S H x y dx dy d S' Q, Sim K ct m F S H → Rep K ct m F dx x → Rep K ct m F dy y → g dx dy S = some (d, S') → PostE ct K m F H S' d Q → r x y H Q
def CallD (K : PySem.W.Frag) (r : List V → Hp → VK → Prop) (g : FD) : Prop := ∀ m F S H xs ds d S' Q, Sim K ct m F S H → Reps K ct m F ds xs → g ds S = some (d, S') → PostE ct K m F H S' d Q → r xs H Q
end
section
variable {ct : CT} {K : PySem.W.Frag} {m m1 : List Addr} {F F1 H H1 : Hp} {S S' : Sto}
theorem PostE.ext {d : D} {Q : VK} (p : PostE ct K m F H S' d Q) (e : Ext m F H m1 F1 H1) : PostE ct K m1 F1 H1 S' d Q := fun m' F' v H' x s r => p m' F' v H' (e.trans x) s r
theorem PostA.ext {d : List D} {Q : List V → Hp → Prop} (p : PostA ct K m F H S' d Q) (e : Ext m F H m1 F1 H1) : PostA ct K m1 F1 H1 S' d Q := fun m' F' v H' x s r => p m' F' v H' (e.trans x) s r
theorem PostT.ext {d : Bool} {Q : Bool → Hp → Prop} (p : PostT ct K m F H S' d Q) (e : Ext m F H m1 F1 H1) : PostT ct K m1 F1 H1 S' d Q := fun m' F' H' x s => p m' F' H' (e.trans x) s
theorem PostS.ext {fl : Fl} {E : Ends} (p : PostS ct K m F H S' fl E) (e : Ext m F H m1 F1 H1) : PostS ct K m1 F1 H1 S' fl E := by
  cases fl with
  | nx env' => exact fun m' F' σ' H' x s r => p m' F' σ' H' (e.trans x) s r
  | rt d => exact fun m' F' σ' H' x s r => p m' F' σ' H' (e.trans x) s r
  | bk env' => exact fun m' F' σ' H' x s r => p m' F' σ' H' (e.trans x) s r
  | ct env' => exact fun m' F' σ' H' x s r => p m' F' σ' H' (e.trans x) s r
theorem PostE.now {d : D} {v : V} {Q : VK} (p : PostE ct K m F H S d Q) (s : Sim K ct m F S H) (r : Rep K ct m F d v) : Q v H := p m F v H (Ext.refl _ _ _) s r
end
end DL
namespace DL
open PySem L2
section
variable {ct : CT} {X : Cx} {a b c e : Expr} {es : List Expr} {fa fb fc f : FE} {fas : FA} {pos : Pos}
def fVar (i : Nat) : FE := fun env S => match env[i]? with
  | some (some d) => some (d, S)
  | _ => none
def fC (d : D) : FE := fun _ S => some (d, S)
theorem se_var (i : Nat) {x : Str} (hN : X.N[i]? = some x := by rfl) (hv : Vis X.env.scope x := by first | exact Or.inl rfl | exact Or.inr (Or.inl rfl) | exact Or.inr (Or.inr rfl)) (hd : (x == ("__debug__" : Str)) = false := by decide)
    (hcd : (x == ("__classdict__" : Str)) = false := by decide) : SE ct X (.Name x pos) (fVar i) := by
  refine ⟨_, pe_var hN hv hd hcd, fun m F S σ H env d S' Q s r h p => ?_⟩
  unfold fVar at h
  split at h
  · rename_i d' e
    cases h
    obtain ⟨v, h1, h2⟩ := r.2 i _ e
    exact ⟨v, h1, p.now s h2⟩
  · cases h
theorem se_of {t : TE} {d : D} {v : V} (h : PE X e t) (ht : ∀ σ H (Q : VK), Q v H → t σ H Q) (hr : ∀ m F, Rep X.K ct m F d v) : SE ct X e (fC d) :=
  ⟨t, h, fun m F S σ H env d' S' Q s _ q p => by
    cases q
    exact ht σ H Q (p.now s (hr m F))⟩
theorem se_int {i : Int} {j : Nat} : SE ct X (.Constant (.int i) j pos) (fC (.int i)) := se_of pe_int (fun _ _ _ q => q) fun _ _ => rfl
theorem se_bl {i : Bool} {j : Nat} : SE ct X (.Constant (.bool i) j pos) (fC (.bl i)) := se_of pe_bl (fun _ _ _ q => q) fun _ _ => rfl
theorem se_non {j : Nat} : SE ct X (.Constant .none j pos) (fC .non) := se_of pe_non (fun _ _ _ q => q) fun _ _ => rfl
theorem se_str {i : Str} {j : Nat} : SE ct X (.Constant (.str i) j pos) (fC (.str i)) := se_of pe_str (fun _ _ _ q => q) fun _ _ => rfl
theorem se_glob {x : Str} {v : V} {u : Value} {d : D} (hg : Gl X x) (hm : X.mg x = some u) (r : RelV v u) (hr : ∀ m F, Rep X.K ct m F d v) (hd : (x == ("__debug__" : Str)) = false := by decide) : SE ct X (.Name x pos) (fC d) :=
  se_of (pe_glob hg hm r hd) (fun _ _ _ q => q) hr
def fBin (g : D → D → Sto → Option (D × Sto)) (fa fb : FE) : FE := fun env S => (fa env S).bind fun p => (fb env p.2).bind fun q => g p.1 q.1 q.2
theorem bind_some {α β : Type} {o : Option α} {k : α → Option β} {r : β} (h : o.bind k = some r) : ∃ x, o = some x ∧ k x = some r := by
  cases o with
  | none => cases h
  | some x => exact ⟨x, rfl, h⟩
theorem two {m : List Addr} {F H : Hp} {S S' : Sto} {env : DEnv} {d : D} {σ : St} {Q : VK} {g : D → D → Sto → Option (D × Sto)} {r : R2} {ta tb : TE}
    (ra : ∀ m F S σ H env d S' Q, Sim X.K ct m F S H → EnvR X.K ct m F env σ → fa env S = some (d, S') → PostE ct X.K m F H S' d Q → ta σ H Q)
    (rb : ∀ m F S σ H env d S' Q, Sim X.K ct m F S H → EnvR X.K ct m F env σ → fb env S = some (d, S') → PostE ct X.K m F H S' d Q → tb σ H Q)
    (o : OpD ct X.K r g) (s : Sim X.K ct m F S H) (en : EnvR X.K ct m F env σ) (h : fBin g fa fb env S = some (d, S')) (p : PostE ct X.K m F H S' d Q) : tOp r ta tb σ H Q := by
  obtain ⟨⟨x, S1⟩, h1, h⟩ := bind_some h
  obtain ⟨⟨y, S2⟩, h2, h⟩ := bind_some h
  refine ra m F S σ H env x S1 _ s en h1 fun m1 F1 v1 H1 x1 s1 r1 => ?_
  refine rb m1 F1 S1 σ H1 env y S2 _ s1 (en.mono x1) h2 fun m2 F2 v2 H2 x2 s2 r2 => ?_
  exact o m2 F2 S2 H2 v1 v2 x y d S' Q s2 (r1.mono x2) r2 h ((p.ext x1).ext x2)
theorem se_op {op : Operator} {r : R2} {g : D → D → Sto → Option (D × Sto)} (ho : OpR X (binaryOp op) r) (od : OpD ct X.K r g) (ha : SE ct X a fa) (hb : SE ct X b fb) : SE ct X (.BinOp a op b pos) (fBin g fa fb) := by
  obtain ⟨ta, pa, ra⟩ := ha
  obtain ⟨tb, pb, rb⟩ := hb
  exact ⟨_, pe_op ho pa pb, fun m F S σ H env d S' Q s en h p => two ra rb od s en h p⟩
theorem se_cmp {op : CmpOp} {r : R2} {g : D → D → Sto → Option (D × Sto)} (ho : OpR X (compareOp op) r) (od : OpD ct X.K r g) (ha : SE ct X a fa) (hb : SE ct X b fb) (hm : behindInMarks op b = false) : SE ct X (.Compare a [op] [b] pos) (fBin g fa fb) := by
  obtain ⟨ta, pa, ra⟩ := ha
  obtain ⟨tb, pb, rb⟩ := hb
  exact ⟨_, pe_cmpR ho pa pb hm, fun m F S σ H env d S' Q s en h p => two ra rb od s en h p⟩
theorem se_ix {r : R2} {g : D → D → Sto → Option (D × Sto)} (ho : IxR X r) (od : OpD ct X.K r g) (ha : SE ct X a fa) (hb : SE ct X b fb) (hs : PlainIx b) : SE ct X (.Subscript a b pos) (fBin g fa fb) := by
  obtain ⟨ta, pa, ra⟩ := ha
  obtain ⟨tb, pb, rb⟩ := hb
  exact ⟨_, pe_ix ho pa pb hs, fun m F S σ H env d S' Q s en h p => two ra rb od s en h p⟩
def fUn (g : D → Option D) (fa : FE) : FE := fun env S => (fa env S).bind fun p => (g p.1).map fun d => (d, p.2)
def gNeg : D → Option D
  | .int i => some (.int (-i))
  | _ => none
def fNil : FA := fun _ S => some ([], S)
def fCons (f : FE) (fs : FA) : FA := fun env S => (f env S).bind fun p => (fs env p.2).bind fun q => some (p.1 :: q.1, q.2)
theorem sa_nil : SA ct X [] fNil := ⟨_, pa_nil, fun m F S σ H env d S' Q s en h p => by
  cases h
  exact p m F [] H (Ext.refl _ _ _) s rfl⟩
theorem sa_cons (ha : SE ct X e f) (hr : SA ct X es fas) (hs : starEach (e :: es) X.env = (false, eval e X.env) :: starEach es X.env := by rfl) : SA ct X (e :: es) (fCons f fas) := by
  obtain ⟨ta, pa, ra⟩ := ha
  obtain ⟨tb, pb, rb⟩ := hr
  refine ⟨_, pa_cons pa pb hs, fun m F S σ H env d S' Q s en h p => ?_⟩
  obtain ⟨⟨x, S1⟩, h1, h⟩ := bind_some h
  obtain ⟨⟨ys, S2⟩, h2, h⟩ := bind_some h
  cases h
  refine ra m F S σ H env x S1 _ s en h1 fun m1 F1 v1 H1 x1 s1 r1 => ?_
  refine rb m1 F1 S1 σ H1 env ys S2 _ s1 (en.mono x1) h2 fun m2 F2 v2 H2 x2 s2 r2 => ?_
  exact p m2 F2 (v1 :: v2) H2 (x1.trans x2) s2 ⟨v1, v2, rfl, r1.mono x2, r2⟩
def fTup (fs : FA) : FE := fun env S => (fs env S).bind fun p => if p.1.length ≤ 1000 then some (.tup p.1, p.2) else none
def fLst (fs : FA) : FE := fun env S => (fs env S).bind fun p => if p.1.length ≤ 1000 then some (.lst p.1, p.2) else none
/-- a list that will be changed -/
def fLstM (fs : FA) : FE := fun env S => (fs env S).bind fun p => if p.1.length ≤ 1000 then some (.ref p.2.length, p.2 ++ [.lst p.1]) else none
theorem line_of {n : Nat} (h : n ≤ 1000) : n ≤ sizeLine := Nat.le_trans h (by decide)
theorem se_tup {k : Nat} (ha : SA ct X es fas) : SE ct X (.Tuple es k pos) (fTup fas) := by
  obtain ⟨ta, pa, ra⟩ := ha
  refine ⟨_, pe_tup pa, fun m F S σ H env d S' Q s en h p => ?_⟩
  obtain ⟨⟨xs, S1⟩, h1, h⟩ := bind_some h
  by_cases hl : xs.length ≤ 1000
  · rw [if_pos hl] at h
    cases h
    refine ra m F S σ H env xs S1 _ s en h1 fun m1 F1 vs H1 x1 s1 r1 => ⟨line_of (r1.length ▸ hl), fun q hq => ?_⟩
    obtain ⟨s2, x2⟩ := s1.frozen hq (.tup vs)
    exact p m1 _ (.ref q) _ (x1.trans x2) s2 ⟨q, vs, rfl, SqT.of upd_same, r1.mono x2⟩
  · rw [if_neg hl] at h
    cases h
theorem se_lst (ha : SA ct X es fas) : SE ct X (.List es pos) (fLst fas) := by
  obtain ⟨ta, pa, ra⟩ := ha
  refine ⟨_, pe_lst pa, fun m F S σ H env d S' Q s en h p => ?_⟩
  obtain ⟨⟨xs, S1⟩, h1, h⟩ := bind_some h
  by_cases hl : xs.length ≤ 1000
  · rw [if_pos hl] at h
    cases h
    refine ra m F S σ H env xs S1 _ s en h1 fun m1 F1 vs H1 x1 s1 r1 => ⟨line_of (r1.length ▸ hl), fun q hq => ?_⟩
    obtain ⟨s2, x2⟩ := s1.frozen hq (.lst vs)
    exact p m1 _ (.ref q) _ (x1.trans x2) s2 ⟨q, vs, rfl, upd_same, r1.mono x2⟩
  · rw [if_neg hl] at h
    cases h
theorem se_lstM (ha : SA ct X es fas) : SE ct X (.List es pos) (fLstM fas) := by
  obtain ⟨ta, pa, ra⟩ := ha
  refine ⟨_, pe_lst pa, fun m F S σ H env d S' Q s en h p => ?_⟩
  obtain ⟨⟨xs, S1⟩, h1, h⟩ := bind_some h
  by_cases hl : xs.length ≤ 1000
  · rw [if_pos hl] at h
    cases h
    refine ra m F S σ H env xs S1 _ s en h1 fun m1 F1 vs H1 x1 s1 r1 => ⟨line_of (r1.length ▸ hl), fun q hq => ?_⟩
    obtain ⟨s2, x2⟩ := s1.fresh hq (o := .lst vs) (c := .lst xs) ⟨vs, rfl, r1⟩
    exact p _ _ (.ref q) _ (x1.trans x2) s2 ⟨q, by rw [← s1.len]; simp, rfl⟩
  · rw [if_neg hl] at h
    cases h
def fCall (g : FD) (fas : FA) : FE := fun env S => (fas env S).bind fun p => g p.1 p.2
theorem se_callB {id : String} {x : Str} {p : Pos} {r : List V → Hp → VK → Prop} {g : FD} (hc : CallR X (.builtin id) r) (cd : CallD ct X.K r g) (hg : Gl X x) (hm : X.mg x = none) (hv : bootBuiltins x = some (.builtin id)) (ha : SA ct X (e :: es) fas)
    (hn : x ≠ "__name__" := by decide) (hdb : (x == ("__debug__" : Str)) = false := by decide) (he : starEach (e :: es) X.env = (false, eval e X.env) :: starEach es X.env := by rfl) (hpl : (backTo pos (starEach es X.env)).any (·.1) = false := by rfl) :
    SE ct X (.Call (.Name x p) (e :: es) [] pos) (fCall g fas) := by
  obtain ⟨ta, pa, ra⟩ := ha
  refine ⟨_, pe_callB hc hg hm hv pa hn hdb he hpl, fun m F S σ H env d S' Q s en h p => ?_⟩
  obtain ⟨⟨xs, S1⟩, h1, h⟩ := bind_some h
  exact ra m F S σ H env xs S1 _ s en h1 fun m1 F1 vs H1 x1 s1 r1 => cd m1 F1 S1 H1 vs xs d S' Q s1 r1 h (p.ext x1)
theorem se_callTy {T : String} {x : Str} {p : Pos} {r : List V → Hp → VK → Prop} {g : FD} (hc : CallR X (.type T) r) (cd : CallD ct X.K r g) (hg : Gl X x) (hm : X.mg x = none) (hv : bootBuiltins x = some (.type T)) (ha : SA ct X (e :: es) fas)
    (hn : x ≠ "__name__" := by decide) (hdb : (x == ("__debug__" : Str)) = false := by decide) (he : starEach (e :: es) X.env = (false, eval e X.env) :: starEach es X.env := by rfl) (hpl : (backTo pos (starEach es X.env)).any (·.1) = false := by rfl) :
    SE ct X (.Call (.Name x p) (e :: es) [] pos) (fCall g fas) := by
  obtain ⟨ta, pa, ra⟩ := ha
  refine ⟨_, pe_callTy hc hg hm hv pa hn hdb he hpl, fun m F S σ H env d S' Q s en h p => ?_⟩
  obtain ⟨⟨xs, S1⟩, h1, h⟩ := bind_some h
  exact ra m F S σ H env xs S1 _ s en h1 fun m1 F1 vs H1 x1 s1 r1 => cd m1 F1 S1 H1 vs xs d S' Q s1 r1 h (p.ext x1)
def fAnd (fa fb : FE) : FE := fun env S => (fa env S).bind fun p => match p.1 with
  | .bl true => fb env p.2
  | .bl false => some (.bl false, p.2)
  | _ => none
def fOr (fa fb : FE) : FE := fun env S => (fa env S).bind fun p => match p.1 with
  | .bl true => some (.bl true, p.2)
  | .bl false => fb env p.2
  | _ => none
def fNot (fa : FE) : FE := fun env S => (fa env S).bind fun p => match p.1 with
  | .bl b => some (.bl (!b), p.2)
  | _ => none
theorem se_one {op : BoolOp} (h : SE ct X a f) : SE ct X (.BoolOp op [a] pos) f := by
  obtain ⟨ta, pa, ra⟩ := h
  exact ⟨ta, pe_one pa, ra⟩
theorem se_and {rest : List Expr} (ha : SE ct X a fa) (hb : SE ct X (.BoolOp .And (b :: rest) pos) fb) : SE ct X (.BoolOp .And (a :: b :: rest) pos) (fAnd fa fb) := by
  obtain ⟨ta, pa, ra⟩ := ha
  obtain ⟨tb, pb, rb⟩ := hb
  refine ⟨_, pe_and pa pb, fun m F S σ H env d S' Q s en h p => ?_⟩
  obtain ⟨⟨x, S1⟩, h1, h⟩ := bind_some h
  refine ra m F S σ H env x S1 _ s en h1 fun m1 F1 v1 H1 x1 s1 r1 => ?_
  cases x with
  | bl k =>
    have r1 : v1 = .bl k := r1
    refine ⟨k, r1, ?_⟩
    cases k with
    | true => exact iteT (rb m1 F1 S1 σ H1 env d S' _ s1 (en.mono x1) h (p.ext x1))
    | false => cases h; exact iteF ((p.ext x1).now s1 rfl)
  | _ => cases h
theorem se_or {rest : List Expr} (ha : SE ct X a fa) (hb : SE ct X (.BoolOp .Or (b :: rest) pos) fb) : SE ct X (.BoolOp .Or (a :: b :: rest) pos) (fOr fa fb) := by
  obtain ⟨ta, pa, ra⟩ := ha
  obtain ⟨tb, pb, rb⟩ := hb
  refine ⟨_, pe_or pa pb, fun m F S σ H env d S' Q s en h p => ?_⟩
  obtain ⟨⟨x, S1⟩, h1, h⟩ := bind_some h
  refine ra m F S σ H env x S1 _ s en h1 fun m1 F1 v1 H1 x1 s1 r1 => ?_
  cases x with
  | bl k =>
    have r1 : v1 = .bl k := r1
    refine ⟨k, r1, ?_⟩
    cases k with
    | false => exact iteF (rb m1 F1 S1 σ H1 env d S' _ s1 (en.mono x1) h (p.ext x1))
    | true => cases h; exact iteT ((p.ext x1).now s1 rfl)
  | _ => cases h
theorem se_not (ha : SE ct X a fa) : SE ct X (.UnaryOp .Not a pos) (fNot fa) := by
  obtain ⟨ta, pa, ra⟩ := ha
  refine ⟨_, pe_not pa, fun m F S σ H env d S' Q s en h p => ?_⟩
  obtain ⟨⟨x, S1⟩, h1, h⟩ := bind_some h
  refine ra m F S σ H env x S1 _ s en h1 fun m1 F1 v1 H1 x1 s1 r1 => ?_
  cases x with
  | bl k =>
    have r1 : v1 = .bl k := r1
    cases h
    exact ⟨k, r1, (p.ext x1).now s1 rfl⟩
  | _ => cases h
def fTest (f : FE) : FT := fun env S => (f env S).bind fun p => match p.1 with
  | .bl b => some (b, p.2)
  | _ => none
def tAndD (ta tb : FT) : FT := fun env S => (ta env S).bind fun p => if p.1 = true then tb env p.2 else some (false, p.2)
def tOrD (ta tb : FT) : FT := fun env S => (ta env S).bind fun p => if p.1 = true then some (true, p.2) else tb env p.2
def tNotD (ta : FT) : FT := fun env S => (ta env S).bind fun p => some (!p.1, p.2)
def fIf (t : FT) (fa fb : FE) : FE := fun env S => (t env S).bind fun p => if p.1 = true then fa env p.2 else fb env p.2
variable {ga gb : FT}
theorem st_val (h : SE ct X e f) (he : ∀ whole, isTrue e X.env whole = (do let v ← whole; standAt e.pos; holding [v] (truthy v)) := by intro _; rfl) : ST ct X e (fTest f) := by
  obtain ⟨ta, pa, ra⟩ := h
  refine ⟨_, pt_val pa he, fun m F S σ H env d S' Q s en h p => ?_⟩
  obtain ⟨⟨x, S1⟩, h1, h⟩ := bind_some h
  refine ra m F S σ H env x S1 _ s en h1 fun m1 F1 v1 H1 x1 s1 r1 => ?_
  cases x with
  | bl k =>
    have r1 : v1 = .bl k := r1
    cases h
    exact ⟨_, r1, p m1 F1 H1 x1 s1⟩
  | _ => cases h
theorem st_cmp {op : CmpOp} {r : R2} {g : D → D → Sto → Option (D × Sto)} (ho : OpR X (compareOp op) r) (od : OpD ct X.K r g) (ha : SE ct X a fa) (hb : SE ct X b fb) (hm : behindInMarks op b = false) : ST ct X (.Compare a [op] [b] pos) (fTest (fBin g fa fb)) := by
  obtain ⟨ta, pa, ra⟩ := ha
  obtain ⟨tb, pb, rb⟩ := hb
  refine ⟨_, pt_cmpR ho pa pb hm, fun m F S σ H env d S' Q s en h p => ?_⟩
  obtain ⟨⟨x, S1⟩, h1, h⟩ := bind_some h
  refine two ra rb od s en h1 fun m1 F1 v1 H1 x1 s1 r1 => ?_
  cases x with
  | bl k =>
    have r1 : v1 = .bl k := r1
    cases h
    exact ⟨_, r1, p m1 F1 H1 x1 s1⟩
  | _ => cases h
theorem st_not (h : ST ct X a ga) : ST ct X (.UnaryOp .Not a pos) (tNotD ga) := by
  obtain ⟨ta, pa, ra⟩ := h
  refine ⟨_, pt_not pa, fun m F S σ H env d S' Q s en h p => ?_⟩
  obtain ⟨⟨x, S1⟩, h1, h⟩ := bind_some h
  cases h
  exact ra m F S σ H env x S1 _ s en h1 fun m1 F1 H1 x1 s1 => p m1 F1 H1 x1 s1
theorem SW.st (h : SW ct X e ga) : ST ct X e ga := by
  obtain ⟨t, p, r⟩ := h
  exact ⟨t, p.pt, r⟩
theorem sw_and1 (h : ST ct X a ga) : SW ct X (.BoolOp .And [a] pos) ga := by
  obtain ⟨t, p, r⟩ := h
  exact ⟨t, pw_and1 p, r⟩
theorem sw_or1 (h : ST ct X a ga) : SW ct X (.BoolOp .Or [a] pos) ga := by
  obtain ⟨t, p, r⟩ := h
  exact ⟨t, pw_or1 p, r⟩
theorem sw_and {rest : List Expr} (ha : ST ct X a ga) (hb : SW ct X (.BoolOp .And (b :: rest) pos) gb) : SW ct X (.BoolOp .And (a :: b :: rest) pos) (tAndD ga gb) := by
  obtain ⟨ta, pa, ra⟩ := ha
  obtain ⟨tb, pb, rb⟩ := hb
  refine ⟨_, pw_and pa pb, fun m F S σ H env d S' Q s en h p => ?_⟩
  obtain ⟨⟨x, S1⟩, h1, h⟩ := bind_some h
  refine ra m F S σ H env x S1 _ s en h1 fun m1 F1 H1 x1 s1 => ?_
  cases x with
  | true => exact iteT (rb m1 F1 S1 σ H1 env d S' _ s1 (en.mono x1) h (p.ext x1))
  | false => cases h; exact iteF (p m1 F1 H1 x1 s1)
theorem sw_or {rest : List Expr} (ha : ST ct X a ga) (hb : SW ct X (.BoolOp .Or (b :: rest) pos) gb) : SW ct X (.BoolOp .Or (a :: b :: rest) pos) (tOrD ga gb) := by
  obtain ⟨ta, pa, ra⟩ := ha
  obtain ⟨tb, pb, rb⟩ := hb
  refine ⟨_, pw_or pa pb, fun m F S σ H env d S' Q s en h p => ?_⟩
  obtain ⟨⟨x, S1⟩, h1, h⟩ := bind_some h
  refine ra m F S σ H env x S1 _ s en h1 fun m1 F1 H1 x1 s1 => ?_
  cases x with
  | false => exact iteF (rb m1 F1 S1 σ H1 env d S' _ s1 (en.mono x1) h (p.ext x1))
  | true => cases h; exact iteT (p m1 F1 H1 x1 s1)
theorem se_if (hc : ST ct X c ga) (ha : SE ct X a fa) (hb : SE ct X b fb) : SE ct X (.IfExp c a b pos) (fIf ga fa fb) := by
  obtain ⟨tc, pc, rc⟩ := hc
  obtain ⟨ta, pa, ra⟩ := ha
  obtain ⟨tb, pb, rb⟩ := hb
  refine ⟨_, pe_ifExp pc pa pb, fun m F S σ H env d S' Q s en h p => ?_⟩
  obtain ⟨⟨x, S1⟩, h1, h⟩ := bind_some h
  refine rc m F S σ H env x S1 _ s en h1 fun m1 F1 H1 x1 s1 => ?_
  cases x with
  | true => exact iteT (ra m1 F1 S1 σ H1 env d S' _ s1 (en.mono x1) h (p.ext x1))
  | false => exact iteF (rb m1 F1 S1 σ H1 env d S' _ s1 (en.mono x1) h (p.ext x1))
def fChain (g g' : D → D → Sto → Option (D × Sto)) (fa fb fc : FE) : FE := fun env S => (fa env S).bind fun p => (fb env p.2).bind fun q => (g p.1 q.1 q.2).bind fun z => match z.1 with
  | .bl true => (fc env z.2).bind fun w => g' q.1 w.1 w.2
  | .bl false => some (.bl false, z.2)
  | _ => none
theorem chain {m : List Addr} {F H : Hp} {S S' : Sto} {env : DEnv} {d : D} {σ : St} {Q : VK} {g g' : D → D → Sto → Option (D × Sto)} {r r' : R2} {ta tb tc : TE}
    (ra : ∀ m F S σ H env d S' Q, Sim X.K ct m F S H → EnvR X.K ct m F env σ → fa env S = some (d, S') → PostE ct X.K m F H S' d Q → ta σ H Q)
    (rb : ∀ m F S σ H env d S' Q, Sim X.K ct m F S H → EnvR X.K ct m F env σ → fb env S = some (d, S') → PostE ct X.K m F H S' d Q → tb σ H Q)
    (rc : ∀ m F S σ H env d S' Q, Sim X.K ct m F S H → EnvR X.K ct m F env σ → fc env S = some (d, S') → PostE ct X.K m F H S' d Q → tc σ H Q)
    (o : OpD ct X.K r g) (o' : OpD ct X.K r' g') (s : Sim X.K ct m F S H) (en : EnvR X.K ct m F env σ) (h : fChain g g' fa fb fc env S = some (d, S')) (p : PostE ct X.K m F H S' d Q) : tChain r r' ta tb tc σ H Q := by
  obtain ⟨⟨x, S1⟩, h1, h⟩ := bind_some h
  obtain ⟨⟨y, S2⟩, h2, h⟩ := bind_some h
  obtain ⟨⟨z, S3⟩, h3, h⟩ := bind_some h
  refine ra m F S σ H env x S1 _ s en h1 fun m1 F1 v1 H1 x1 s1 r1 => ?_
  refine rb m1 F1 S1 σ H1 env y S2 _ s1 (en.mono x1) h2 fun m2 F2 v2 H2 x2 s2 r2 => ?_
  refine o m2 F2 S2 H2 v1 v2 x y z S3 _ s2 (r1.mono x2) r2 h3 fun m3 F3 v3 H3 x3 s3 r3 => ?_
  cases z with
  | bl k =>
    have r3 : v3 = .bl k := r3
    refine ⟨k, r3, ?_⟩
    cases k with
    | true =>
      obtain ⟨⟨w, S4⟩, h4, h⟩ := bind_some h
      refine iteT (rc m3 F3 S3 σ H3 env w S4 _ s3 (((en.mono x1).mono x2).mono x3) h4 fun m4 F4 v4 H4 x4 s4 r4 => ?_)
      exact o' m4 F4 S4 H4 v2 v4 y w d S' Q s4 ((r2.mono x3).mono x4) r4 h ((((p.ext x1).ext x2).ext x3).ext x4)
    | false => cases h; exact iteF ((((p.ext x1).ext x2).ext x3).now s3 rfl)
  | _ => cases h
theorem se_chain {op op' : CmpOp} {r r' : R2} {g g' : D → D → Sto → Option (D × Sto)} (ho : OpR X (compareOp op) r) (od : OpD ct X.K r g) (ho' : OpR X (compareOp op') r') (od' : OpD ct X.K r' g') (ha : SE ct X a fa) (hb : SE ct X b fb) (hc : SE ct X c fc)
    (hm : lastMarks [op, op'] [b, c] = false := by with_unfolding_all rfl) : SE ct X (.Compare a [op, op'] [b, c] pos) (fChain g g' fa fb fc) := by
  obtain ⟨ta, pa, ra⟩ := ha
  obtain ⟨tb, pb, rb⟩ := hb
  obtain ⟨tc, pc, rc⟩ := hc
  exact ⟨_, pe_chain ho ho' pa pb pc hm, fun m F S σ H env d S' Q s en h p => chain ra rb rc od od' s en h p⟩
end
end DL
namespace DL
open PySem PySem.Spec PyProof.Rows L2
section
variable {ct : CT} {X : Cx} {a b c e : Expr} {es : List Expr} {fa fb fc f : FE} {fas : FA} {ga gb : FT} {pos : Pos} {st : Stmt} {rest : List Stmt} {f1 f2 : FS}
def sSkip : FS := fun env S => some (.nx env, S)
def sSeq (f1 f2 : FS) : FS := fun env S => (f1 env S).bind fun p => match p.1 with
  | .nx env' => f2 env' p.2
  | fl => some (fl, p.2)
theorem sss_nil : SSs ct X [] sSkip := ⟨_, pss_nil, fun m F S σ H env fl S' E s en h p => by
  cases h
  exact p m F σ H (Ext.refl _ _ _) s en⟩
theorem sss_cons (h1 : SS ct X st f1) (h2 : SSs ct X rest f2) : SSs ct X (st :: rest) (sSeq f1 f2) := by
  obtain ⟨ta, pa, ra⟩ := h1
  obtain ⟨tb, pb, rb⟩ := h2
  refine ⟨_, pss_cons pa pb, fun m F S σ H env fl S' E s en h p => ?_⟩
  obtain ⟨⟨x, S1⟩, h1, h⟩ := bind_some h
  refine ra m F S σ H env x S1 _ s en h1 ?_
  cases x with
  | nx env1 => exact fun m1 F1 σ1 H1 x1 s1 r1 => rb m1 F1 S1 σ1 H1 env1 fl S' E s1 r1 h (p.ext x1)
  | rt d => cases h; exact p
  | bk env1 => cases h; exact p
  | ct env1 => cases h; exact p
theorem sss_one (h1 : SS ct X st f1) : SSs ct X [st] f1 := by
  obtain ⟨ta, pa, ra⟩ := h1
  exact ⟨_, pss_one pa, ra⟩
def sBreak : FS := fun env S => some (.bk env, S)
def sCont : FS := fun env S => some (.ct env, S)
/-- what is never reached -/
def sNever : FS := fun _ _ => none
theorem ss_never : SS ct X st sNever := ⟨_, ps_never, fun m F S σ H env fl S' E s en h p => by cases h⟩
def sExpr (f : FE) : FS := fun env S => (f env S).bind fun p => some (.nx env, p.2)
def sRet (f : FE) : FS := fun env S => (f env S).bind fun p => some (.rt p.1, p.2)
def sIf (t : FT) (f1 f2 : FS) : FS := fun env S => (t env S).bind fun p => if p.1 = true then f1 env p.2 else f2 env p.2
theorem ss_expr (he : SE ct X e f) (hs : swapsWith e none pos.line X.env = pure false := by rfl) : SS ct X (.Expr e pos) (sExpr f) := by
  obtain ⟨ta, pa, ra⟩ := he
  refine ⟨_, ps_expr pa hs, fun m F S σ H env fl S' E s en h p => ?_⟩
  obtain ⟨⟨x, S1⟩, h1, h⟩ := bind_some h
  cases h
  exact ra m F S σ H env x S1 _ s en h1 fun m1 F1 v1 H1 x1 s1 r1 => p m1 F1 σ H1 x1 s1 (en.mono x1)
theorem ss_ret (he : SE ct X e f) : SS ct X (.Return (some e) pos) (sRet f) := by
  obtain ⟨ta, pa, ra⟩ := he
  refine ⟨_, ps_ret pa, fun m F S σ H env fl S' E s en h p => ?_⟩
  obtain ⟨⟨x, S1⟩, h1, h⟩ := bind_some h
  cases h
  exact ra m F S σ H env x S1 _ s en h1 fun m1 F1 v1 H1 x1 s1 r1 => p m1 F1 v1 H1 x1 s1 r1
theorem ss_if {as bs : List Stmt} (hc : ST ct X c ga) (ha : SSs ct X as f1) (hb : SSs ct X bs f2) : SS ct X (.If c as bs pos) (sIf ga f1 f2) := by
  obtain ⟨tc, pc, rc⟩ := hc
  obtain ⟨ta, pa, ra⟩ := ha
  obtain ⟨tb, pb, rb⟩ := hb
  refine ⟨_, ps_if pc pa pb, fun m F S σ H env fl S' E s en h p => ?_⟩
  obtain ⟨⟨x, S1⟩, h1, h⟩ := bind_some h
  refine rc m F S σ H env x S1 _ s en h1 fun m1 F1 H1 x1 s1 => ?_
  cases x with
  | true => exact iteT (ra m1 F1 S1 σ H1 env fl S' _ s1 (en.mono x1) h (p.ext x1))
  | false => exact iteF (rb m1 F1 S1 σ H1 env fl S' _ s1 (en.mono x1) h (p.ext x1))
abbrev FG := D → DEnv → Sto → Option (DEnv × Sto)
def SG (ct : CT) (X : Cx) (tg : Expr) (g : FG) : Prop := ∃ t, PG X tg t ∧ ∀ m F S σ H env d v env' S' Q, Sim X.K ct m F S H → EnvR X.K ct m F env σ → Rep X.K ct m F d v → g d env S = some (env', S') →
  (∀ m' F' σ' H', Ext m F H m' F' H' → Sim X.K ct m' F' S' H' → EnvR X.K ct m' F' env' σ' → Q σ' H') → t v σ H Q
abbrev FGs := List D → DEnv → Sto → Option (DEnv × Sto)
def SGs (ct : CT) (X : Cx) (tgs : List Expr) (g : FGs) : Prop := ∃ t, PGs X tgs t ∧ ∀ m F S σ H env ds vs env' S' Q, Sim X.K ct m F S H → EnvR X.K ct m F env σ → Reps X.K ct m F ds vs → g ds env S = some (env', S') →
  (∀ m' F' σ' H', Ext m F H m' F' H' → Sim X.K ct m' F' S' H' → EnvR X.K ct m' F' env' σ' → Q σ' H') → t vs σ H Q
def gN (i : Nat) : FG := fun d env S => some (env.set i (some d), S)
theorem sg_name {i : Nat} {x : Str} (hN : X.N.Nodup) (hi : X.N[i]? = some x) (hx : Loc X.env.scope x) (hf : X.fn x = true ∨ X.env.scope.names.lookup x = some .local := by first | exact .inl rfl | exact .inr rfl | assumption) : SG ct X (.Name x pos) (gN i) :=
  ⟨_, pg_name hN hi hx hf, fun m F S σ H env d v env' S' Q s en r h q => by
    cases h
    exact q m F _ H (Ext.refl _ _ _) s (en.set i r)⟩
def gNil : FGs := fun ds env S => match ds with
  | [] => some (env, S)
  | _ => none
def gCons (g : FG) (gs : FGs) : FGs := fun ds env S => match ds with
  | d :: r => (g d env S).bind fun p => gs r p.1 p.2
  | _ => none
theorem sgs_nil : SGs ct X [] gNil := ⟨_, pgs_nil, fun m F S σ H env ds vs env' S' Q s en r h q => by
  cases ds with
  | nil =>
    cases h
    exact ⟨r, q m F _ H (Ext.refl _ _ _) s en⟩
  | cons _ _ => cases h⟩
theorem sgs_cons {t : Expr} {ts : List Expr} {g : FG} {gs : FGs} (h1 : SG ct X t g) (h2 : SGs ct X ts gs) (hs : (assignEach (t :: ts) X.env).map (·.2) = assign t X.env :: (assignEach ts X.env).map (·.2) := by rfl) : SGs ct X (t :: ts) (gCons g gs) := by
  obtain ⟨ta, pa, ra⟩ := h1
  obtain ⟨tb, pb, rb⟩ := h2
  refine ⟨_, pgs_cons pa pb hs, fun m F S σ H env ds vs env' S' Q s en r h q => ?_⟩
  cases ds with
  | nil => cases h
  | cons d dr =>
    obtain ⟨⟨env1, S1⟩, h1, h⟩ := bind_some h
    obtain ⟨v, vr, e1, r1, r2⟩ := r
    refine ⟨v, vr, e1, ra m F S σ H env d v env1 S1 _ s en r1 h1 fun m1 F1 σ1 H1 x1 s1 en1 => ?_⟩
    exact rb m1 F1 S1 σ1 H1 env1 dr vr env' S' Q s1 en1 (r2.mono x1) h fun m2 F2 σ2 H2 x2 s2 en2 => q m2 F2 σ2 H2 (x1.trans x2) s2 en2
/-- (a, b, ..) = a tuple -/
def gTup (n : Nat) (gs : FGs) : FG := fun d env S => match d with
  | .tup ds => if ds.length = n then gs ds env S else none
  | _ => none
theorem sg_tup {ts : List Expr} {k n : Nat} {gs : FGs} (hc : X.calm = true) (h : SGs ct X ts gs) (hn : (assignEach ts X.env).length = n := by rfl) (hst : (assignEach ts X.env).findIdx? (·.1) = none := by rfl) : SG ct X (.Tuple ts k pos) (gTup n gs) := by
  obtain ⟨ta, pa, ra⟩ := h
  refine ⟨_, pg_tup hc pa hn hst, fun m F S σ H env d v env' S' Q s en r h q => ?_⟩
  cases d with
  | tup ds =>
    obtain ⟨a, vs, e1, e2, e3⟩ := r
    by_cases hl : ds.length = n
    · have h : (if ds.length = n then gs ds env S else none) = some (env', S') := h
      rw [if_pos hl] at h
      exact ⟨a, vs, e1, sqT_mono s.same e2, by rw [← e3.length]; exact hl, ra m F S σ H env ds vs env' S' Q s en e3 h q⟩
    · have h : (if ds.length = n then gs ds env S else none) = some (env', S') := h
      rw [if_neg hl] at h
      cases h
  | _ => cases h
/-- o[i] = .. by a rule -/
def SetD (ct : CT) (K : PySem.W.Frag) (t : TSet) (g : D → D → D → Sto → Option Sto) : Prop := ∀ m F S H o i v d1 d2 d3 S' Q, Sim K ct m F S H → Rep K ct m F d1 o → Rep K ct m F d2 i → Rep K ct m F d3 v → g d1 d2 d3 S = some S' →
  (∀ m' F' H', Ext m F H m' F' H' → Sim K ct m' F' S' H' → Q H') → t o i v H Q
def gSub (g : D → D → D → Sto → Option Sto) (fa fb : FE) : FG := fun d env S => (fa env S).bind fun p => (fb env p.2).bind fun q => (g p.1 q.1 d q.2).map fun S' => (env, S')
theorem sg_sub {t : TSet} {g : D → D → D → Sto → Option Sto} (ho : SE ct X a fa) (hi : SE ct X b fb) (hs : PSet X t) (sd : SetD ct X.K t g)
    (ha : ∀ v, assign (.Subscript a b pos) X.env v = (do
      let ov ← holding [v] (eval a X.env)
      let iv ← holding [v, ov] (eval b X.env)
      standAt pos
      holding [v, ov, iv] (setItem ov iv v)
      release [v, ov, iv] []) := by intro _; rfl) : SG ct X (.Subscript a b pos) (gSub g fa fb) := by
  obtain ⟨ta, pa, ra⟩ := ho
  obtain ⟨tb, pb, rb⟩ := hi
  refine ⟨_, pg_sub pa pb hs ha, fun m F S σ H env d v env' S' Q s en r h q => ?_⟩
  obtain ⟨⟨x, S1⟩, h1, h⟩ := bind_some h
  obtain ⟨⟨y, S2⟩, h2, h⟩ := bind_some h
  cases h3 : g x y d S2 with
  | none => simp only [h3] at h; cases h
  | some S3 =>
    simp only [h3] at h
    cases h
    refine ra m F S σ H env x S1 _ s en h1 fun m1 F1 v1 H1 x1 s1 r1 => ?_
    refine rb m1 F1 S1 σ H1 env y S2 _ s1 (en.mono x1) h2 fun m2 F2 v2 H2 x2 s2 r2 => ?_
    exact sd m2 F2 S2 H2 v1 v2 v x y d _ _ s2 (r1.mono x2) r2 ((r.mono x1).mono x2) h3 fun m3 F3 H3 x3 s3 => q m3 F3 σ H3 ((x1.trans x2).trans x3) s3 (((en.mono x1).mono x2).mono x3)
def sAsg (f : FE) (g : FG) : FS := fun env S => (f env S).bind fun p => (g p.1 env p.2).map fun q => (.nx q.1, q.2)
theorem ss_asg {tg : Expr} {g : FG} (he : SE ct X e f) (hg : SG ct X tg g) (hs : swapsWithSole [tg] e pos.line X.env = pure false := by rfl) (hw : swappedStores [tg] e X.env = pure none := by rfl)
    (h1 : (assignEach [tg] X.env).map (·.2) = [assign tg X.env] := by rfl) : SS ct X (.Assign [tg] e pos) (sAsg f g) := by
  obtain ⟨ta, pa, ra⟩ := he
  obtain ⟨tb, pb, rb⟩ := hg
  refine ⟨_, ps_asg pa pb hs hw h1, fun m F S σ H env fl S' E s en h p => ?_⟩
  obtain ⟨⟨x, S1⟩, h1, h⟩ := bind_some h
  cases h3 : g x env S1 with
  | none => simp only [h3] at h; cases h
  | some q3 =>
    obtain ⟨env3, S3⟩ := q3
    simp only [h3] at h
    cases h
    refine ra m F S σ H env x S1 _ s en h1 fun m1 F1 v1 H1 x1 s1 r1 => ?_
    exact rb m1 F1 S1 σ H1 env x v1 env3 _ _ s1 (en.mono x1) r1 h3 fun m2 F2 σ2 H2 x2 s2 en2 => p m2 F2 σ2 H2 (x1.trans x2) s2 en2
theorem ss_set {i : Nat} {x : Str} {pos' : Pos} (hN : X.N.Nodup) (hi : X.N[i]? = some x) (hx : Loc X.env.scope x) (he : SE ct X e f) (hs : swapsWith e (some (.Name x pos')) pos.line X.env = pure false := by rfl) (hf : X.fn x = true ∨ X.env.scope.names.lookup x = some .local := by first | exact .inl rfl | exact .inr rfl | assumption) :
    SS ct X (.Assign [.Name x pos'] e pos) (sAsg f (gN i)) := by
  obtain ⟨ta, pa, ra⟩ := he
  refine ⟨_, ps_set hN hi hx pa hs hf, fun m F S σ H env fl S' E s en h p => ?_⟩
  obtain ⟨⟨x, S1⟩, h1, h⟩ := bind_some h
  cases h
  exact ra m F S σ H env x S1 _ s en h1 fun m1 F1 v1 H1 x1 s1 r1 => p m1 F1 _ H1 x1 s1 ((en.mono x1).set i r1)
/-- a, b = x, y -/
def sPar (i j : Nat) (fas : FA) : FS := fun env S => (fas env S).bind fun p => match p.1 with
  | [v, w] => some (.nx ((env.set i (some v)).set j (some w)), p.2)
  | _ => none
theorem ss_par {i j : Nat} (hp : ∀ ta, PA X [a, b] ta → PS X st (tPar i j ta)) (ha : SA ct X [a, b] fas) : SS ct X st (sPar i j fas) := by
  obtain ⟨ta, pa, ra⟩ := ha
  refine ⟨_, hp ta pa, fun m F S σ H env fl S' E s en h p => ?_⟩
  obtain ⟨⟨xs, S1⟩, h1, h⟩ := bind_some h
  match xs, h with
  | [v, w], h =>
    cases h
    refine ra m F S σ H env _ S1 _ s en h1 fun m1 F1 vs H1 x1 s1 r1 => ?_
    obtain ⟨v1, r1', e1, q1, v2, r2', e2, q2, e3⟩ := r1
    have e3 : r2' = [] := e3
    subst e3 e2 e1
    exact ⟨v1, v2, rfl, p m1 F1 _ H1 x1 s1 (((en.mono x1).set i q1).set j q2)⟩
  | [], h => cases h
  | [_], h => cases h
  | _ :: _ :: _ :: _, h => cases h
structure Ext0 (m : List Addr) (F : Hp) (m' : List Addr) (F' : Hp) : Prop where
  pre : ∀ (i : Nat) (a : Addr), m[i]? = some a → m'[i]? = some a
  same : Same F F'
theorem Ext.e0 {m m' : List Addr} {F H F' H' : Hp} (x : Ext m F H m' F' H') : Ext0 m F m' F' := ⟨x.pre, x.same⟩
theorem Ext0.trans {m m1 m2 : List Addr} {F F1 F2 : Hp} (a : Ext0 m F m1 F1) (b : Ext0 m1 F1 m2 F2) : Ext0 m F m2 F2 := ⟨fun i x h => b.pre i x (a.pre i x h), a.same.trans b.same⟩
theorem Rep.mono0 {K : PySem.W.Frag} {ct : CT} {m m' : List Addr} {F F' : Hp} {d : D} {v : V} (h : Rep K ct m F d v) (x : Ext0 m F m' F') : Rep K ct m' F' d v := Rep.mono' x.pre x.same d v h
theorem Reps.mono0 {K : PySem.W.Frag} {ct : CT} {m m' : List Addr} {F F' : Hp} {d : List D} {v : List V} (h : Reps K ct m F d v) (x : Ext0 m F m' F') : Reps K ct m' F' d v := Reps.mono' x.pre x.same d v h
def ItOk (ct : CT) (K : PySem.W.Frag) (m0 : List Addr) (F0 : Hp) (items : List D) (J : It) : Prop := ∀ (i : Nat) (m : List Addr) (F : Hp) (S : Sto) (H : Hp), Ext0 m0 F0 m F → Sim K ct m F S H →
  (∀ d, items[i]? = some d → J.go i H ∧ ∀ x H', J.yld i H x H' → ∃ F', Ext m F H m F' H' ∧ Sim K ct m F' S H' ∧ Rep K ct m F' d x) ∧ (items.length = i → J.stop i H)
def SI (ct : CT) (X : Cx) (tg iter : Expr) (fi : FA) : Prop := ∃ wi, PI X tg iter wi ∧ ∀ m F S σ H env items S' R, Sim X.K ct m F S H → EnvR X.K ct m F env σ → fi env S = some (items, S') →
  (∀ m' F' J H', Ext m F H m' F' H' → Sim X.K ct m' F' S' H' → ItOk ct X.K m' F' items J → R J H') → wi σ H R
def forD (g : FG) (body : FS) : List D → FS
  | [], env, S => some (.nx env, S)
  | x :: xs, env, S => (g x env S).bind fun p => (body p.1 p.2).bind fun q => match q.1 with
    | .nx env' => forD g body xs env' q.2
    | .ct env' => forD g body xs env' q.2
    | .bk env' => some (.nx env', q.2)
    | .rt d => some (.rt d, q.2)
def sFor (fi : FA) (g : FG) (body : FS) : FS := fun env S => (fi env S).bind fun p => forD g body p.1 env p.2
theorem drop_cons {α : Type} : ∀ {l : List α} {i : Nat} {x : α} {r : List α}, l.drop i = x :: r → l[i]? = some x ∧ l.drop (i + 1) = r
  | [], i, x, r, h => by simp at h
  | y :: l, 0, x, r, h => by
    simp at h
    simp [h]
  | y :: l, i + 1, x, r, h => by
    have := drop_cons (l := l) (i := i) (by simpa using h)
    simpa using this
theorem ss_for {tg iter : Expr} {body : List Stmt} {fi : FA} {g : FG} {fb : FS} (hp : PassesOwn (model X.prog X.w) X.A X.env X.xe) (hc : X.calm = true) (hi : SI ct X tg iter fi) (hg : SG ct X tg g) (hb : SSs ct X body fb)
    (hs : ∀ x, foldedSetIterable iter X.env x = pure x := by intro _; rfl) : SS ct X (.For tg iter body [] pos) (sFor fi g fb) := by
  obtain ⟨wi, pi, ri⟩ := hi
  obtain ⟨tg', pg, rg⟩ := hg
  obtain ⟨tb, pb, rb⟩ := hb
  refine ⟨_, ps_for hp hc pi pg pb hs, fun m F S σ H env fl S' E s en h p => ?_⟩
  obtain ⟨⟨items, S1⟩, h1, h⟩ := bind_some h
  refine ri m F S σ H env items S1 _ s en h1 fun m1 F1 J H1 x1 s1 ok => ?_
  refine ⟨fun i k σ' H' => k = items.length - i ∧ i ≤ items.length ∧ ∃ m' F' env' S2, Ext m1 F1 H1 m' F' H' ∧ Sim X.K ct m' F' S2 H' ∧ EnvR X.K ct m' F' env' σ' ∧ forD g fb (items.drop i) env' S2 = some (fl, S'),
    ⟨_, rfl, Nat.zero_le _, m1, F1, env, S1, Ext.refl _ _ _, s1, en.mono x1, h⟩, ?_⟩
  rintro i k σ' H' ⟨rfl, hle, m', F', env', S2, x', s', en', hf⟩
  have okk := ok i m' F' S2 H' x'.e0 s'
  cases hd : items.drop i with
  | nil =>
    rw [hd] at hf
    cases hf
    have hl : items.length = i := by
      have := congrArg List.length hd
      simp at this
      omega
    exact .inl ⟨okk.2 hl, p m' F' σ' H' (x1.trans x') s' en'⟩
  | cons d r =>
    rw [hd] at hf
    obtain ⟨q1, q2⟩ := drop_cons hd
    have hlt : i < items.length := (List.getElem?_eq_some_iff.mp q1).1
    obtain ⟨⟨env1, S3⟩, h3, hf⟩ := bind_some hf
    obtain ⟨⟨fl4, S4⟩, h4, hf⟩ := bind_some hf
    obtain ⟨go, yl⟩ := okk.1 d q1
    refine .inr ⟨go, fun σ5 H5 => ∃ m5 F5 env5 S5, Ext m1 F1 H1 m5 F5 H5 ∧ Sim X.K ct m5 F5 S5 H5 ∧ EnvR X.K ct m5 F5 env5 σ5 ∧ forD g fb (items.drop (i + 1)) env5 S5 = some (fl, S'), fun σ5 H5 w => ⟨items.length - (i + 1), by omega, rfl, hlt, w⟩, fun x H5 y => ?_⟩
    obtain ⟨F5, x5, s5, r5⟩ := yl x H5 y
    refine rg m' F5 S2 σ' H5 env' d x env1 S3 _ s5 (en'.mono x5) r5 h3 fun m6 F6 σ6 H6 x6 s6 en6 => ?_
    refine rb m6 F6 S3 σ6 H6 env1 fl4 S4 _ s6 en6 h4 ?_
    have xx : Ext m1 F1 H1 m6 F6 H6 := (x'.trans x5).trans x6
    cases fl4 with
    | nx env7 => exact fun m7 F7 σ7 H7 x7 s7 en7 => ⟨m7, F7, env7, S4, xx.trans x7, s7, en7, by rw [q2]; exact hf⟩
    | ct env7 => exact fun m7 F7 σ7 H7 x7 s7 en7 => ⟨m7, F7, env7, S4, xx.trans x7, s7, en7, by rw [q2]; exact hf⟩
    | bk env7 => cases hf; exact fun m7 F7 σ7 H7 x7 s7 en7 => p m7 F7 σ7 H7 (x1.trans (xx.trans x7)) s7 en7
    | rt d7 => cases hf; exact fun m7 F7 v7 H7 x7 s7 r7 => p m7 F7 v7 H7 (x1.trans (xx.trans x7)) s7 r7
def runD (n : Nat) (g : FS) : FD := fun ds S => (g (ds.map some ++ List.replicate (n - ds.length) none) S).bind fun p => match p.1 with
  | .rt d => some (d, p.2)
  | .nx _ => some (.non, p.2)
  | _ => none
def spD (K : PySem.W.Frag) (ct : CT) (n : Nat) (g : FD) : Sp := fun vs H Q _ => vs.length = n ∧ ∃ m F S ds d S', Sim K ct m F S H ∧ Reps K ct m F ds vs ∧ g ds S = some (d, S') ∧ PostE ct K m F H S' d Q
end
section
variable {P : Program} {w : World} {K : PySem.W.Frag} {mg : Str → Option Value} {base : Heap} {ct : CT}
theorem def_ok {x qual : Str} {st : Stmt} {f : Addr} {fd : FuncData} {N ps : List Str} {k : Nat} {g : FS} (F : Fun K x qual st f fd) (S : FnScope N ps (defScope st))
    (hbody : ∀ (cdv : Value) (A : Around) (outer : List Env) (s : Shared) (H : Hp) (E : XK), RoomG k (A.deeper (envOfC qual (defScope st) s.heap.objs.size f cdv)) →
      SSs ct (cxOf CX0 P w K mg base N qual (defScope st) f cdv A outer s H E).nox (defBody st) g) : FnG P w K mg base (k + 1) f fd ps (spD K ct ps.length (runD N.length g)) := by
  refine funG F S (fun vs H Q E h => h.1) (fun cdv A outer s H vs Q E hr h => ?_)
  obtain ⟨hl, m, F', S0, ds, d, S', sim, reps, hg, post⟩ := h
  obtain ⟨t, pt, rt⟩ := hbody cdv A outer s H E hr
  refine ⟨t, pt, ?_⟩
  obtain ⟨⟨fl, S1⟩, h1, h2⟩ := bind_some hg
  refine rt m F' S0 _ H _ fl S1 _ sim ?_ h1 ?_
  · have hl2 := reps.length
    refine ⟨by simp [L2.start, hl2], fun i e he => ?_⟩
    by_cases hi : i < ds.length
    · rw [List.getElem?_append_left (by simpa using hi)] at he
      simp at he
      obtain ⟨v, q1, q2⟩ := reps.get (i := i) (d := e) (by simpa using he)
      refine ⟨v, ?_, q2⟩
      unfold L2.start
      rw [List.getElem?_append_left (by simpa [← hl2] using hi)]
      simp [q1]
    · rw [List.getElem?_append_right (by simpa using hi)] at he
      have := List.mem_of_getElem? he
      simp at this
  · cases fl with
    | rt d1 => cases h2; exact fun m' F1 v H' x1 s1 r1 => post m' F1 v H' x1 s1 r1
    | nx env1 => cases h2; exact fun m' F1 σ1 H' x1 s1 r1 => post m' F1 .non H' x1 s1 rfl
    | bk env1 => cases h2
    | ct env1 => cases h2
end
section
variable {ct : CT} {X : Cx} {e : Expr} {es : List Expr} {fas : FA} {x : Str} {p pos : Pos}
theorem se_call {k n : Nat} {f : Addr} {fd : FuncData} {ps : List Str} {g : FD} (F : FnG X.prog X.w X.K X.mg X.base k f fd ps (spD X.K ct n g)) (hr : RoomG k X.A) (hg : Gl X x) (hm : X.mg x = some (.ref f)) (hk : PySem.W.keepIn X.K (.ref f) = true) (hb : Binds X.K fd ps [])
    (ha : SA ct X (e :: es) fas) (hn : ∀ env S ds S', fas env S = some (ds, S') → ds.length = n) (hdb : (x == ("__debug__" : Str)) = false := by decide) (he : starEach (e :: es) X.env = (false, eval e X.env) :: starEach es X.env := by rfl) (hpl : (backTo pos (starEach es X.env)).any (·.1) = false := by rfl) :
    SE ct X (.Call (.Name x p) (e :: es) [] pos) (fCall g fas) := by
  obtain ⟨ta, pa, ra⟩ := ha
  refine ⟨_, pe_callG (E := fun _ _ _ => False) F hr hg hm hk hb .nil pa hdb he hpl, fun m F S σ H env d S' Q s en h p => ?_⟩
  obtain ⟨⟨xs, S1⟩, h1, h⟩ := bind_some h
  refine ra m F S σ H env xs S1 _ s en h1 fun m1 F1 vs H1 x1 s1 r1 => ?_
  rw [List.append_nil]
  exact ⟨by rw [← r1.length]; exact hn _ _ _ _ h1, m1, F1, S1, xs, d, S', s1, r1, h, p.ext x1⟩
theorem fNil_len {env : DEnv} {S S' : Sto} {ds : List D} (h : fNil env S = some (ds, S')) : ds.length = 0 := by cases h; rfl
theorem fCons_len {f : FE} {fs : FA} {n : Nat} (hn : ∀ env S ds S', fs env S = some (ds, S') → ds.length = n) : ∀ env S ds S', fCons f fs env S = some (ds, S') → ds.length = n + 1 := fun env S ds S' h => by
  obtain ⟨⟨x, S1⟩, h1, h⟩ := bind_some h
  obtain ⟨⟨y, S2⟩, h2, h⟩ := bind_some h
  cases h
  simp [hn _ _ _ _ h2]
end
end DL
namespace DL
open PySem PySem.Spec PyProof.Rows L2
theorem line_eq : sizeLine = 16777216 := sizeLine_eq
section
variable {ct : CT} {K : PySem.W.Frag}
/-- an operator of two ints -/
def gI (C : Int → Int → Bool) (k : Int → Int → D) : D → D → Sto → Option (D × Sto)
  | .int i, .int j, S => if C i j = true then some (k i j, S) else none
  | _, _, _ => none
theorem od_I {C : Int → Int → Bool} {C' : Int → Int → Prop} {k : Int → Int → D} {g : Int → Int → V} (hC : ∀ i j, C i j = true → C' i j) (hk : ∀ m F i j, Rep K ct m F (k i j) (g i j)) : OpD ct K (rI C' g) (gI C k) := by
  intro m F S H x y dx dy d S' Q s rx ry h p
  unfold gI at h
  split at h
  · rename_i i j
    split at h
    · rename_i hc
      cases h
      have rx : x = .int i := rx
      have ry : y = .int j := ry
      exact ⟨i, j, rx, ry, hC _ _ hc, p.now s (hk m F i j)⟩
    · cases h
  · cases h
def gI0 (k : Int → Int → D) : D → D → Sto → Option (D × Sto)
  | .int i, .int j, S => some (k i j, S)
  | _, _, _ => none
theorem od_I0 {k : Int → Int → D} {g : Int → Int → V} (hk : ∀ m F i j, Rep K ct m F (k i j) (g i j)) : OpD ct K (rI0 g) (gI0 k) := by
  intro m F S H x y dx dy d S' Q s rx ry h p
  unfold gI0 at h
  split at h
  · rename_i i j
    cases h
    have rx : x = .int i := rx
    have ry : y = .int j := ry
    exact ⟨i, j, rx, ry, p.now s (hk m F i j)⟩
  · cases h
abbrev gSubI := gI0 fun i j => .int (i - j)
theorem od_sub : OpD ct K (rI0 fun i j => .int (i - j)) gSubI := od_I0 fun _ _ _ _ => rfl
def smallI (i : Int) : Bool := decide (i.natAbs.log2 < 400000)
abbrev gMul := gI (fun i j => smallI i && smallI j) fun i j => .int (i * j)
theorem od_mul : OpD ct K (rI CMulW fun i j => .int (i * j)) gMul := od_I (fun i j h => by
  simp only [smallI, Bool.and_eq_true, decide_eq_true_eq] at h
  show i.natAbs.log2 + j.natAbs.log2 < 1000000
  omega) fun _ _ _ _ => rfl
abbrev gFdiv := gI (fun _ j => decide (0 < j) && decide (j.natAbs.log2 < 9000)) fun i j => .int (i / j)
theorem od_fdiv : OpD ct K (rI CDivW fun i j => .int (i / j)) gFdiv := od_I (fun i j h => by
  simp only [Bool.and_eq_true, decide_eq_true_eq] at h
  exact h) fun _ _ _ _ => rfl
abbrev gMod := gI (fun _ j => decide (0 < j)) fun i j => .int (i % j)
theorem od_mod : OpD ct K (rI (fun _ j => 0 < j) fun i j => .int (i % j)) gMod := od_I (fun i j h => of_decide_eq_true h) fun _ _ _ _ => rfl
abbrev gPow := gI (fun i j => decide (0 ≤ j) && decide (j ≤ 1000000) && decide (i.natAbs < 18446744073709551616)) fun i j => .int (i ^ j.toNat)
theorem od_pow : OpD ct K (rI CPow fun i j => .int (i ^ j.toNat)) gPow := od_I (fun i j h => by
  simp only [Bool.and_eq_true, decide_eq_true_eq] at h
  exact ⟨h.1.1, h.1.2, h.2⟩) fun _ _ _ _ => rfl
abbrev gLt := gI0 fun i j => .bl (decide (i < j))
abbrev gGt := gI0 fun i j => .bl (decide (j < i))
abbrev gGe := gI0 fun i j => .bl (decide (j ≤ i))
theorem od_gt : OpD ct K (rI0 fun i j => .bl (decide (j < i))) gGt := od_I0 fun _ _ _ _ => rfl
theorem od_ge : OpD ct K (rI0 fun i j => .bl (decide (j ≤ i))) gGe := od_I0 fun _ _ _ _ => rfl
def gAdd : D → D → Sto → Option (D × Sto)
  | .int i, .int j, S => some (.int (i + j), S)
  | .str x, .str y, S => if x.length + y.length ≤ 16777216 then some (.str (x ++ y), S) else none
  | .lst a, .lst b, S => if a.length + b.length ≤ 16777216 then some (.lst (a ++ b), S) else none
  | _, _, _ => none
def rAddAll : R2 := fun x y H Q => rI0 (fun i j => .int (i + j)) x y H Q ∨ ((∃ i j, x = .str i ∧ y = .str j ∧ i.length + j.length ≤ sizeLine ∧ Q (.str (i ++ j)) H) ∨ rCat x y H Q)
theorem op_addAll {X : Cx} : OpR X (binaryOp .Add) rAddAll := op_add.or (op_add_str.or op_cat)
mutual
def toP : D → Option PyData
  | .non => some .none
  | .bl b => some (.bool b)
  | .int i => some (.int i)
  | .str x => some (.str x)
  | .tup ds => (toPs ds).map .tuple
  | .lst ds => (toPs ds).map .list
  | .scr ns => some (.list (ns.map .int))
  | _ => none
def toPs : List D → Option (List PyData)
  | [] => some []
  | d :: ds => (toP d).bind fun p => (toPs ds).map fun ps => p :: ps
end
theorem map_some {α β : Type} {o : Option α} {k : α → β} {r : β} (h : o.map k = some r) : ∃ x, o = some x ∧ k x = r := by
  cases o with
  | none => cases h
  | some x => exact ⟨x, rfl, Option.some.inj h⟩
theorem DpAll_ints {H : Hp} (ns : List Int) : DpAll K H (ns.map V.int) (ns.map PyData.int) := by
  induction ns with
  | nil => exact .nil
  | cons n ns ih => exact .cons (.int n) ih
mutual
theorem Rep.dp {m : List Addr} {F H : Hp} (e : Same F H) : ∀ (d : D) (v : V) (p : PyData), Rep K ct m F d v → toP d = some p → Dp K H v p
  | .non, _, _, h, q => by
    have h : _ = _ := h
    subst h
    cases q
    exact .non
  | .bl b, _, _, h, q => by
    have h : _ = _ := h
    subst h
    cases q
    exact .bl b
  | .int b, _, _, h, q => by
    have h : _ = _ := h
    subst h
    cases q
    exact .int b
  | .str b, _, _, h, q => by
    have h : _ = _ := h
    subst h
    cases q
    exact .str b
  | .tup ds, _, _, h, q => by
    obtain ⟨a, vs, e1, e2, e3⟩ := h
    subst e1
    obtain ⟨ps, q1, q2⟩ := map_some (show (toPs ds).map PyData.tuple = _ from q)
    subst q2
    exact .tup (sqT_mono e e2) (Reps.dp e ds vs ps e3 q1)
  | .lst ds, _, _, h, q => by
    obtain ⟨a, vs, e1, e2, e3⟩ := h
    subst e1
    obtain ⟨ps, q1, q2⟩ := map_some (show (toPs ds).map PyData.list = _ from q)
    subst q2
    exact .lst (SqL.of (e _ _ e2)) (Reps.dp e ds vs ps e3 q1)
  | .scr ns, _, _, h, q => by
    obtain ⟨a, e1, e2⟩ := h
    subst e1
    cases q
    exact .lst (e.seq e2) (DpAll_ints ns)
  | .dct _ _, _, _, _, q => by cases q
  | .ref _, _, _, _, q => by cases q
  | .obj _ _ _, _, _, _, q => by cases q
  | .exc _ _ _, _, _, _, q => by cases q
  | .typ _, _, _, _, q => by cases q
theorem Reps.dp {m : List Addr} {F H : Hp} (e : Same F H) : ∀ (ds : List D) (vs : List V) (ps : List PyData), Reps K ct m F ds vs → toPs ds = some ps → DpAll K H vs ps
  | [], _, _, h, q => by
    have h : _ = _ := h
    subst h
    cases q
    exact .nil
  | d :: ds, _, _, h, q => by
    obtain ⟨v, r, e1, e2, e3⟩ := h
    subst e1
    obtain ⟨p, q1, q⟩ := bind_some (show (toP d).bind _ = _ from q)
    obtain ⟨ps, q2, q3⟩ := map_some q
    subst q3
    exact .cons (Rep.dp e d v p e2 q1) (Reps.dp e ds r ps e3 q2)
end
def eqDeep (neg : Bool) (dx dy : D) : Option D := (toP dx).bind fun p => (toP dy).bind fun q => if SeqAt.shaped p = true ∧ SeqAt.shaped q = true then some (.bl (if neg then !PyData.eqv p q else PyData.eqv p q)) else none
def gEq : D → D → Sto → Option (D × Sto)
  | .int i, .int j, S => some (.bl (decide (i = j)), S)
  | .str i, .str j, S => some (.bl (decide (i = j)), S)
  | .bl i, .bl j, S => some (.bl (decide (i = j)), S)
  | dx, dy, S => (eqDeep false dx dy).map fun d => (d, S)
def gNe : D → D → Sto → Option (D × Sto)
  | .int i, .int j, S => some (.bl (!decide (i = j)), S)
  | .str i, .str j, S => some (.bl (!decide (i = j)), S)
  | .bl i, .bl j, S => some (.bl (!decide (i = j)), S)
  | dx, dy, S => (eqDeep true dx dy).map fun d => (d, S)
def rEqAll (K : PySem.W.Frag) : R2 := fun x y H Q => rEq x y H Q ∨ rEqD K x y H Q
def rNeAll (K : PySem.W.Frag) : R2 := fun x y H Q => rNe x y H Q ∨ rNeD K x y H Q
theorem op_eqAll {X : Cx} {k : Nat} (hr : RoomG k X.A) : OpR X (compareOp .Eq) (rEqAll X.K) := op_eq.or (op_eqD hr.units)
theorem op_neAll {X : Cx} {k : Nat} (hr : RoomG k X.A) : OpR X (compareOp .NotEq) (rNeAll X.K) := op_ne.or (op_neD hr.units)
theorem dec_eq {α : Type} [DecidableEq α] {f : α → V} (hf : ∀ a b, f a = f b → a = b) (i j : α) : decide (f i = f j) = decide (i = j) := by
  by_cases h : i = j
  · subst h; simp
  · rw [decide_eq_false h, decide_eq_false fun q => h (hf _ _ q)]
theorem od_eq : OpD ct K (rEqAll K) gEq := by
  intro m F S H x y dx dy d S' Q s rx ry h p
  unfold gEq at h
  split at h
  · rename_i i j
    cases h
    have rx : x = .int i := rx
    have ry : y = .int j := ry
    subst rx ry
    exact .inl ⟨rfl, by rw [dec_eq (fun _ _ q => V.int.inj q)]; exact p.now s rfl⟩
  · rename_i i j
    cases h
    have rx : x = .str i := rx
    have ry : y = .str j := ry
    subst rx ry
    exact .inl ⟨rfl, by rw [dec_eq (fun _ _ q => V.str.inj q)]; exact p.now s rfl⟩
  · rename_i i j
    cases h
    have rx : x = .bl i := rx
    have ry : y = .bl j := ry
    subst rx ry
    exact .inl ⟨rfl, by rw [dec_eq (fun _ _ q => V.bl.inj q)]; exact p.now s rfl⟩
  · obtain ⟨z, h1, h2⟩ := map_some h
    cases h2
    obtain ⟨u, g1, h⟩ := bind_some h1
    obtain ⟨w, g2, h⟩ := bind_some h
    split at h
    · rename_i hs
      cases h
      exact .inr ⟨u, w, Rep.dp s.same dx x u rx g1, Rep.dp s.same dy y w ry g2, hs.1, hs.2, p.now s rfl⟩
    · cases h
theorem od_ne : OpD ct K (rNeAll K) gNe := by
  intro m F S H x y dx dy d S' Q s rx ry h p
  unfold gNe at h
  split at h
  · rename_i i j
    cases h
    have rx : x = .int i := rx
    have ry : y = .int j := ry
    subst rx ry
    exact .inl ⟨rfl, by rw [dec_eq (fun _ _ q => V.int.inj q)]; exact p.now s rfl⟩
  · rename_i i j
    cases h
    have rx : x = .str i := rx
    have ry : y = .str j := ry
    subst rx ry
    exact .inl ⟨rfl, by rw [dec_eq (fun _ _ q => V.str.inj q)]; exact p.now s rfl⟩
  · rename_i i j
    cases h
    have rx : x = .bl i := rx
    have ry : y = .bl j := ry
    subst rx ry
    exact .inl ⟨rfl, by rw [dec_eq (fun _ _ q => V.bl.inj q)]; exact p.now s rfl⟩
  · obtain ⟨z, h1, h2⟩ := map_some h
    cases h2
    obtain ⟨u, g1, h⟩ := bind_some h1
    obtain ⟨w, g2, h⟩ := bind_some h
    split at h
    · rename_i hs
      cases h
      exact .inr ⟨u, w, Rep.dp s.same dx x u rx g1, Rep.dp s.same dy y w ry g2, hs.1, hs.2, p.now s rfl⟩
    · cases h
def isNonD : D → Bool
  | .non => true
  | _ => false
theorem Rep.isNon {m : List Addr} {F : Hp} {d : D} {v : V} (r : Rep K ct m F d v) : decide (v = .non) = isNonD d := by
  cases d with
  | non => have r : v = .non := r; subst r; rfl
  | bl b => have r : v = _ := r; subst r; rfl
  | int b => have r : v = _ := r; subst r; rfl
  | str b => have r : v = _ := r; subst r; rfl
  | tup ds => obtain ⟨a, vs, e1, _⟩ := r; subst e1; rfl
  | lst ds => obtain ⟨a, vs, e1, _⟩ := r; subst e1; rfl
  | dct ks ds => obtain ⟨a, vs, e1, _⟩ := r; subst e1; rfl
  | scr ds => obtain ⟨a, e1, _⟩ := r; subst e1; rfl
  | ref i => obtain ⟨a, _, e1⟩ := r; subst e1; rfl
  | obj c fs ds => obtain ⟨a, C, dx, vs, e1, _⟩ := r; subst e1; rfl
  | exc c fs ds => obtain ⟨a, C, dx, vs, e1, _⟩ := r; subst e1; rfl
  | typ c => obtain ⟨C, _, e1⟩ := r; subst e1; rfl
def gIsN : D → D → Sto → Option (D × Sto)
  | x, .non, S => some (.bl (isNonD x), S)
  | _, _, _ => none
def gNotN : D → D → Sto → Option (D × Sto)
  | x, .non, S => some (.bl (!isNonD x), S)
  | _, _, _ => none
theorem od_isN : OpD ct K (fun x y H Q => y = .non ∧ Q (.bl (decide (x = .non))) H) gIsN := by
  intro m F S H x y dx dy d S' Q s rx ry h p
  unfold gIsN at h
  split at h
  · cases h
    exact ⟨ry, by rw [rx.isNon]; exact p.now s rfl⟩
  · cases h
theorem od_notN : OpD ct K (fun x y H Q => y = .non ∧ Q (.bl (!decide (x = .non))) H) gNotN := by
  intro m F S H x y dx dy d S' Q s rx ry h p
  unfold gNotN at h
  split at h
  · cases h
    exact ⟨ry, by rw [rx.isNon]; exact p.now s rfl⟩
  · cases h
def flatD : D → Bool
  | .non => true
  | .bl _ => true
  | .int _ => true
  | .str _ => true
  | _ => false
def eqF : D → D → Bool
  | .non, .non => true
  | .bl a, .bl b => a == b
  | .bl a, .int b => (if a then 1 else 0) == b
  | .int a, .bl b => a == (if b then 1 else 0)
  | .int a, .int b => a == b
  | .str a, .str b => a == b
  | _, _ => false
def vOf : D → V
  | .bl b => .bl b
  | .int b => .int b
  | .str b => .str b
  | _ => .non
theorem Rep.flat {m : List Addr} {F : Hp} {d : D} {v : V} (r : Rep K ct m F d v) (h : flatD d = true) : v = vOf d ∧ flatV v = true := by
  cases d with
  | non => have r : v = _ := r; subst r; exact ⟨rfl, rfl⟩
  | bl b => have r : v = _ := r; subst r; exact ⟨rfl, rfl⟩
  | int b => have r : v = _ := r; subst r; exact ⟨rfl, rfl⟩
  | str b => have r : v = _ := r; subst r; exact ⟨rfl, rfl⟩
  | _ => cases h
theorem eqV_eqF {a b : D} (ha : flatD a = true) (hb : flatD b = true) : eqV (vOf a) (vOf b) = eqF a b := by
  cases a <;> cases ha <;> cases b <;> cases hb <;> rfl
theorem Reps.flat {m : List Addr} {F : Hp} : ∀ {ds : List D} {vs : List V}, Reps K ct m F ds vs → ds.all flatD = true → vs = ds.map vOf ∧ vs.all flatV = true
  | [], _, r, _ => by have r : _ = _ := r; subst r; exact ⟨rfl, rfl⟩
  | d :: ds, _, r, h => by
    obtain ⟨v, vr, e1, e2, e3⟩ := r
    subst e1
    simp only [List.all_cons, Bool.and_eq_true] at h
    obtain ⟨q1, q2⟩ := e2.flat h.1
    obtain ⟨q3, q4⟩ := Reps.flat e3 h.2
    exact ⟨by rw [q1, q3]; rfl, by simp only [List.all_cons, q2, q4]; rfl⟩
theorem inV_eq {x : D} (hx : flatD x = true) : ∀ ds : List D, ds.all flatD = true → inV (vOf x) (ds.map vOf) = ds.any fun z => eqF z x
  | [], _ => rfl
  | d :: ds, h => by
    simp only [List.all_cons, Bool.and_eq_true] at h
    have ih := inV_eq hx ds h.2
    unfold inV at ih ⊢
    simp only [List.map_cons, List.any_cons, ih, eqV_eqF h.1 hx]
def inSeq (neg : Bool) (x : D) (ds : List D) (S : Sto) : Option (D × Sto) := if flatD x = true ∧ ds.all flatD = true then some (.bl (if neg then !ds.any (fun z => eqF z x) else ds.any fun z => eqF z x), S) else none
def gInB (neg : Bool) : D → D → Sto → Option (D × Sto)
  | x, .tup ds, S => inSeq neg x ds S
  | x, .lst ds, S => inSeq neg x ds S
  | .str x, .str y, S => some (.bl (if neg then !(!(Builtin.Str.occurrences y x 0 y.length 1).isEmpty) else !(Builtin.Str.occurrences y x 0 y.length 1).isEmpty), S)
  | _, _, _ => none
abbrev gIn := gInB false
abbrev gNotIn := gInB true
def rInAll (K : PySem.W.Frag) : R2 := fun x y H Q => rIn K false x y H Q ∨ ∃ i j, x = .str i ∧ y = .str j ∧ Q (.bl (!(Builtin.Str.occurrences j i 0 j.length 1).isEmpty)) H
def rNotInAll (K : PySem.W.Frag) : R2 := fun x y H Q => rIn K true x y H Q ∨ ∃ i j, x = .str i ∧ y = .str j ∧ Q (.bl (!(!(Builtin.Str.occurrences j i 0 j.length 1).isEmpty))) H
theorem op_inAll {X : Cx} : OpR X (compareOp .In) (rInAll X.K) := op_in_seq.or op_in_str
theorem op_notInAll {X : Cx} : OpR X (compareOp .NotIn) (rNotInAll X.K) := op_notIn_seq.or op_notIn_str
theorem in_seq {neg : Bool} {m : List Addr} {F H : Hp} {S S' : Sto} {x y : V} {dx d : D} {ds : List D} {Q : VK} {a : Addr} {vs : List V} (s : Sim K ct m F S H) (rx : Rep K ct m F dx x) (e1 : y = .ref a) (e2 : SqL K H a vs ∨ SqT K H a vs) (e3 : Reps K ct m F ds vs)
    (h : inSeq neg dx ds S = some (d, S')) (p : PostE ct K m F H S' d Q) : rIn K neg x y H Q := by
  unfold inSeq at h
  split at h
  · rename_i hf
    cases h
    obtain ⟨q1, q2⟩ := rx.flat hf.1
    obtain ⟨q3, q4⟩ := e3.flat hf.2
    refine ⟨a, vs, e1, e2, q2, q4, ?_⟩
    rw [q1, q3, inV_eq hf.1 _ hf.2]
    exact p.now s rfl
  · cases h
theorem od_in : OpD ct K (rInAll K) gIn := by
  intro m F S H x y dx dy d S' Q s rx ry h p
  unfold gIn gInB at h
  split at h
  · obtain ⟨a, vs, e1, e2, e3⟩ := ry
    exact .inl (in_seq s rx e1 (.inr (sqT_mono s.same e2)) e3 h p)
  · obtain ⟨a, vs, e1, e2, e3⟩ := ry
    exact .inl (in_seq s rx e1 (.inl (SqL.of (s.same _ _ e2))) e3 h p)
  · cases h
    exact .inr ⟨_, _, rx, ry, p.now s rfl⟩
  · cases h
theorem od_notIn : OpD ct K (rNotInAll K) gNotIn := by
  intro m F S H x y dx dy d S' Q s rx ry h p
  unfold gNotIn gInB at h
  split at h
  · obtain ⟨a, vs, e1, e2, e3⟩ := ry
    exact .inl (in_seq s rx e1 (.inr (sqT_mono s.same e2)) e3 h p)
  · obtain ⟨a, vs, e1, e2, e3⟩ := ry
    exact .inl (in_seq s rx e1 (.inl (SqL.of (s.same _ _ e2))) e3 h p)
  · cases h
    exact .inr ⟨_, _, rx, ry, p.now s rfl⟩
  · cases h
def gIx : D → D → Sto → Option (D × Sto)
  | .tup ds, .int i, S => (atI ds i).map fun d => (d, S)
  | .lst ds, .int i, S => (atI ds i).map fun d => (d, S)
  | .scr ns, .int i, S => (atI ns i).map fun n => (.int n, S)
  | .str z, .int i, S => if z.length ≤ 16777216 then (atI z.cps.toList i).map fun c => (.str ⟨#[c]⟩, S) else none
  | .ref k, .int i, S => match S[k]? with
    | some (.lst ds) => (atI ds i).map fun d => (d, S)
    | _ => none
  | _, _, _ => none
theorem Reps.atI {m : List Addr} {F : Hp} {ds : List D} {vs : List V} {i : Int} {d : D} (r : Reps K ct m F ds vs) (h : atI ds i = some d) : ∃ v, L2.atI vs i = some v ∧ Rep K ct m F d v := by
  unfold L2.atI at h ⊢
  obtain ⟨j, h1, h2⟩ := bind_some h
  obtain ⟨v, q1, q2⟩ := r.get h2
  exact ⟨v, by rw [← r.length, h1]; exact q1, q2⟩
theorem atI_map {α β : Type} {f : α → β} {xs : List α} {i : Int} {x : α} (h : L2.atI xs i = some x) : L2.atI (xs.map f) i = some (f x) := by
  unfold L2.atI at h ⊢
  obtain ⟨j, h1, h2⟩ := bind_some h
  rw [List.length_map, h1]
  simp [h2]
theorem od_ix : OpD ct K (rIx K) gIx := by
  intro m F S H x y dx dy d S' Q s rx ry h p
  unfold gIx at h
  split at h
  · obtain ⟨a, vs, e1, e2, e3⟩ := rx
    obtain ⟨z, h1, h2⟩ := map_some h
    cases h2
    obtain ⟨v, q1, q2⟩ := e3.atI h1
    exact .inr (.inl ⟨a, vs, _, v, e1, ry, sqT_mono s.same e2, q1, p.now s q2⟩)
  · obtain ⟨a, vs, e1, e2, e3⟩ := rx
    obtain ⟨z, h1, h2⟩ := map_some h
    cases h2
    obtain ⟨v, q1, q2⟩ := e3.atI h1
    exact .inl ⟨a, vs, _, v, e1, ry, SqL.of (s.same _ _ e2), q1, p.now s q2⟩
  · obtain ⟨a, e1, e2⟩ := rx
    obtain ⟨z, h1, h2⟩ := map_some h
    cases h2
    exact .inl ⟨a, _, _, .int z, e1, ry, s.same.seq e2, atI_map h1, p.now s rfl⟩
  · split at h
    · rename_i hl
      obtain ⟨z, h1, h2⟩ := map_some h
      cases h2
      exact .inr (.inr ⟨_, _, z, rx, ry, by rw [line_eq]; exact hl, h1, p.now s rfl⟩)
    · cases h
  · split at h
    · rename_i ds hk
      obtain ⟨a, e1, e2⟩ := rx
      obtain ⟨z, h1, h2⟩ := map_some h
      cases h2
      obtain ⟨vs, q1, q2⟩ := s.cell _ a _ e1 hk
      obtain ⟨v, q3, q4⟩ := q2.atI h1
      exact .inl ⟨a, vs, _, v, e2, ry, SqL.of q1, q3, p.now s q4⟩
    · cases h
  · cases h
end
end DL
namespace DL
open PySem PySem.Spec PyProof.Rows L2
section
variable {ct : CT} {K : PySem.W.Frag}
def cAbs : FD
  | [.int i], S => some (.int (if i < 0 then -i else i), S)
  | _, _ => none
theorem reps1 {m : List Addr} {F : Hp} {d : D} {xs : List V} (r : Reps K ct m F [d] xs) : ∃ v, xs = [v] ∧ Rep K ct m F d v := by
  obtain ⟨v, r', e1, e2, e3⟩ := r
  have e3 : r' = [] := e3
  subst e3
  exact ⟨v, e1, e2⟩
theorem reps2 {m : List Addr} {F : Hp} {d e : D} {xs : List V} (r : Reps K ct m F [d, e] xs) : ∃ v u, xs = [v, u] ∧ Rep K ct m F d v ∧ Rep K ct m F e u := by
  obtain ⟨v, r', e1, e2, e3⟩ := r
  obtain ⟨u, e4, e5⟩ := reps1 e3
  subst e4
  exact ⟨v, u, e1, e2, e5⟩
theorem cd_abs : CallD ct K (fun xs H Q => ∃ i, xs = [.int i] ∧ Q (.int (if i < 0 then -i else i)) H) cAbs := by
  intro m F S H xs ds d S' Q s r h p
  unfold cAbs at h
  split at h
  · cases h
    obtain ⟨v, e1, e2⟩ := reps1 r
    have e2 : v = _ := e2
    subst e2
    exact ⟨_, e1, p.now s rfl⟩
  · cases h
def cMax2 : FD
  | [.int i, .int j], S => some (.int (if j > i then j else i), S)
  | _, _ => none
def cMin2 : FD
  | [.int i, .int j], S => some (.int (if j < i then j else i), S)
  | _, _ => none
theorem cd_max2 : CallD ct K (fun xs H Q => ∃ i j, xs = [.int i, .int j] ∧ Q (.int (if j > i then j else i)) H) cMax2 := by
  intro m F S H xs ds d S' Q s r h p
  unfold cMax2 at h
  split at h
  · cases h
    obtain ⟨v, u, e1, e2, e3⟩ := reps2 r
    have e2 : v = _ := e2
    have e3 : u = _ := e3
    subst e2 e3
    exact ⟨_, _, e1, p.now s rfl⟩
  · cases h
theorem cd_min2 : CallD ct K (fun xs H Q => ∃ i j, xs = [.int i, .int j] ∧ Q (.int (if j < i then j else i)) H) cMin2 := by
  intro m F S H xs ds d S' Q s r h p
  unfold cMin2 at h
  split at h
  · cases h
    obtain ⟨v, u, e1, e2, e3⟩ := reps2 r
    have e2 : v = _ := e2
    have e3 : u = _ := e3
    subst e2 e3
    exact ⟨_, _, e1, p.now s rfl⟩
  · cases h
/-- int(n), int(flag), int(text) -/
def cInt : FD
  | [.int i], S => some (.int i, S)
  | [.bl b], S => some (.int (if b then 1 else 0), S)
  | [.str x], S => if x.length ≤ 640 then (PySem.intText? x).map fun n => (.int n, S) else none
  | _, _ => none
def rInt : List V → Hp → VK → Prop := fun xs H Q => ((∃ i, xs = [.int i] ∧ Q (.int i) H) ∨ ∃ k, xs = [.bl k] ∧ Q (.int (if k then 1 else 0)) H) ∨ ∃ a n, xs = [.str a] ∧ PySem.intText? a = some n ∧ a.length ≤ 640 ∧ Q (.int n) H
theorem call_intAll {X : Cx} : CallR X (.type "int") rInt := call_int1.or call_int_str
theorem cd_int : CallD ct K rInt cInt := by
  intro m F S H xs ds d S' Q s r h p
  unfold cInt at h
  split at h
  · cases h
    obtain ⟨v, e1, e2⟩ := reps1 r
    have e2 : v = _ := e2
    subst e2
    exact .inl (.inl ⟨_, e1, p.now s rfl⟩)
  · cases h
    obtain ⟨v, e1, e2⟩ := reps1 r
    have e2 : v = _ := e2
    subst e2
    exact .inl (.inr ⟨_, e1, p.now s rfl⟩)
  · split at h
    · rename_i hl
      obtain ⟨n, h1, h2⟩ := map_some h
      cases h2
      obtain ⟨v, e1, e2⟩ := reps1 r
      have e2 : v = _ := e2
      subst e2
      exact .inr ⟨_, n, e1, h1, hl, p.now s rfl⟩
    · cases h
  · cases h
def cLen : FD
  | [.str x], S => if x.length ≤ 16777216 then some (.int x.length, S) else none
  | [.tup ds], S => some (.int ds.length, S)
  | [.lst ds], S => some (.int ds.length, S)
  | [.scr ns], S => some (.int ns.length, S)
  | [.ref k], S => match S[k]? with
    | some (.lst ds) => some (.int ds.length, S)
    | _ => none
  | _, _ => none
def rLenAll (K : PySem.W.Frag) : List V → Hp → VK → Prop := fun xs H Q => (∃ p ys, xs = [.ref p] ∧ (SqL K H p ys ∨ SqT K H p ys) ∧ Q (.int ys.length) H) ∨ ∃ z, xs = [.str z] ∧ z.length ≤ sizeLine ∧ Q (.int z.length) H
theorem call_lenAll {X : Cx} : CallR X (.builtin "len") (rLenAll X.K) := call_len_seq.or call_len_str
theorem cd_len : CallD ct K (rLenAll K) cLen := by
  intro m F S H xs ds d S' Q s r h p
  unfold cLen at h
  split at h
  · split at h
    · rename_i hl
      cases h
      obtain ⟨v, e1, e2⟩ := reps1 r
      have e2 : v = _ := e2
      subst e2
      exact .inr ⟨_, e1, by rw [line_eq]; exact hl, p.now s rfl⟩
    · cases h
  · cases h
    obtain ⟨v, e1, a, vs, e2, e3, e4⟩ := reps1 r
    subst e2
    exact .inl ⟨a, vs, e1, .inr (sqT_mono s.same e3), by rw [← e4.length]; exact p.now s rfl⟩
  · cases h
    obtain ⟨v, e1, a, vs, e2, e3, e4⟩ := reps1 r
    subst e2
    exact .inl ⟨a, vs, e1, .inl (SqL.of (s.same _ _ e3)), by rw [← e4.length]; exact p.now s rfl⟩
  · cases h
    obtain ⟨v, e1, a, e2, e3⟩ := reps1 r
    subst e2
    exact .inl ⟨a, _, e1, .inl (s.same.seq e3), by rw [List.length_map]; exact p.now s rfl⟩
  · split at h
    · rename_i es hk
      cases h
      obtain ⟨v, e1, a, e2, e3⟩ := reps1 r
      subst e3
      obtain ⟨vs, q1, q2⟩ := s.cell _ a _ e2 hk
      exact .inl ⟨a, vs, e1, .inl (SqL.of q1), by rw [← q2.length]; exact p.now s rfl⟩
    · cases h
  · cases h
/-- any, all of a list of bools -/
def asBools : List D → Option (List Bool)
  | [] => some []
  | .bl b :: ds => (asBools ds).map fun bs => b :: bs
  | _ => none
theorem Reps.bools {m : List Addr} {F : Hp} : ∀ {ds : List D} {vs : List V} {bs : List Bool}, Reps K ct m F ds vs → asBools ds = some bs → vs = bs.map V.bl
  | [], _, _, r, h => by
    have r : _ = _ := r
    subst r
    cases h
    rfl
  | .bl b :: ds, _, _, r, h => by
    obtain ⟨v, vr, e1, e2, e3⟩ := r
    obtain ⟨cs, h1, h2⟩ := map_some (show (asBools ds).map _ = _ from h)
    have e2 : v = _ := e2
    subst e1 h2 e2
    rw [Reps.bools e3 h1]
    rfl
  | .non :: ds, _, _, r, h => by cases h
  | .int _ :: ds, _, _, r, h => by cases h
  | .str _ :: ds, _, _, r, h => by cases h
  | .tup _ :: ds, _, _, r, h => by cases h
  | .lst _ :: ds, _, _, r, h => by cases h
  | .dct _ _ :: ds, _, _, r, h => by cases h
  | .scr _ :: ds, _, _, r, h => by cases h
  | .ref _ :: ds, _, _, r, h => by cases h
  | .obj _ _ _ :: ds, _, _, r, h => by cases h
  | .exc _ _ _ :: ds, _, _, r, h => by cases h
  | .typ _ :: ds, _, _, r, h => by cases h
def cAll : FD
  | [.lst ds], S => (asBools ds).map fun bs => (.bl (bs.all id), S)
  | _, _ => none
theorem cd_all : CallD ct K (rAll K) cAll := by
  intro m F S H xs ds d S' Q s r h p
  unfold cAll at h
  split at h
  · obtain ⟨bs, h1, h2⟩ := map_some h
    cases h2
    obtain ⟨v, e1, a, vs, e2, e3, e4⟩ := reps1 r
    subst e2
    have e5 := e4.bools h1
    subst e5
    exact ⟨a, bs, e1, SqL.of (s.same _ _ e3), p.now s rfl⟩
  · cases h
/-- ints of a list -/
def asInts : List D → Option (List Int)
  | [] => some []
  | .int b :: ds => (asInts ds).map fun bs => b :: bs
  | _ => none
theorem Reps.asInts {m : List Addr} {F : Hp} : ∀ {ds : List D} {vs : List V} {bs : List Int}, Reps K ct m F ds vs → asInts ds = some bs → vs = bs.map V.int
  | [], _, _, r, h => by
    have r : _ = _ := r
    subst r
    cases h
    rfl
  | .int b :: ds, _, _, r, h => by
    obtain ⟨v, vr, e1, e2, e3⟩ := r
    obtain ⟨cs, h1, h2⟩ := map_some (show (DL.asInts ds).map _ = _ from h)
    have e2 : v = _ := e2
    subst e1 h2 e2
    rw [Reps.asInts e3 h1]
    rfl
  | .non :: ds, _, _, r, h => by cases h
  | .bl _ :: ds, _, _, r, h => by cases h
  | .str _ :: ds, _, _, r, h => by cases h
  | .tup _ :: ds, _, _, r, h => by cases h
  | .lst _ :: ds, _, _, r, h => by cases h
  | .dct _ _ :: ds, _, _, r, h => by cases h
  | .scr _ :: ds, _, _, r, h => by cases h
  | .ref _ :: ds, _, _, r, h => by cases h
  | .obj _ _ _ :: ds, _, _, r, h => by cases h
  | .exc _ _ _ :: ds, _, _, r, h => by cases h
  | .typ _ :: ds, _, _, r, h => by cases h
/-- list(xs), list(t) -/
def cList : FD
  | [.lst ds], S => some (.lst ds, S)
  | [.tup ds], S => some (.lst ds, S)
  | _, _ => none
/-- tuple(xs) -/
def cTuple : FD
  | [.lst ds], S => some (.tup ds, S)
  | [.tup ds], S => some (.tup ds, S)
  | _, _ => none
end
section
variable {ct : CT} {X : Cx} {e : Expr} {f : FE}
def isiT : String → D → Option Bool
  | "int", .int _ => some true
  | "int", .bl _ => some true
  | "int", .non => some false
  | "int", .str _ => some false
  | "int", .tup _ => some false
  | "int", .lst _ => some false
  | "int", .dct _ _ => some false
  | "bool", .bl _ => some true
  | "bool", .int _ => some false
  | "bool", .non => some false
  | "bool", .str _ => some false
  | "bool", .tup _ => some false
  | "bool", .lst _ => some false
  | "bool", .dct _ _ => some false
  | "str", .str _ => some true
  | "str", .int _ => some false
  | "str", .bl _ => some false
  | "str", .non => some false
  | "str", .tup _ => some false
  | "str", .lst _ => some false
  | "str", .dct _ _ => some false
  | "tuple", .tup _ => some true
  | "tuple", .int _ => some false
  | "tuple", .bl _ => some false
  | "tuple", .non => some false
  | "tuple", .str _ => some false
  | "tuple", .lst _ => some false
  | "tuple", .dct _ _ => some false
  | _, _ => none
def tyN : D → String
  | .non => "NoneType"
  | .bl _ => "bool"
  | .int _ => "int"
  | .str _ => "str"
  | .tup _ => "tuple"
  | .lst _ => "list"
  | .dct _ _ => "dict"
  | _ => ""
theorem tyX_of {K : PySem.W.Frag} {m : List Addr} {F H : Hp} (e : Same F H) {d : D} {v : V} (r : Rep K ct m F d v) (h : tyN d ≠ "") : TyX K H v (.type (tyN d)) := by
  cases d with
  | non => have r : v = _ := r; subst r; exact .base .non
  | bl b => have r : v = _ := r; subst r; exact .base (.bl b)
  | int b => have r : v = _ := r; subst r; exact .base (.int b)
  | str b => have r : v = _ := r; subst r; exact .base (.str b)
  | tup ds =>
    obtain ⟨a, vs, e1, e2, _⟩ := r
    subst e1
    rcases sqT_mono e e2 with (q | ⟨o, q⟩) | ⟨o, its, n, q1, q2, _⟩
    · exact .base (.tup q)
    · exact .fTuple q
    · exact .kTuple q1 q2
  | lst ds =>
    obtain ⟨a, vs, e1, e2, _⟩ := r
    subst e1
    exact .base (.lst (e _ _ e2))
  | dct ks ds =>
    obtain ⟨a, vs, e1, e2, _⟩ := r
    subst e1
    exact .base (.dK (e _ _ e2))
  | scr _ => exact absurd rfl h
  | ref _ => exact absurd rfl h
  | obj _ _ _ => exact absurd rfl h
  | exc _ _ _ => exact absurd rfl h
  | typ _ => exact absurd rfl h
theorem isiT_kit {T : String} {d : D} {b : Bool} (h : isiT T d = some b) : kitB (tyN d) T = some b ∧ tyN d ≠ "" := by
  unfold isiT at h
  split at h <;> first
    | (cases h; refine ⟨?_, ?_⟩ <;> (dsimp only [tyN]; decide +kernel))
    | cases h
def fIsi (T : String) (f : FE) : FE := fun env S => (f env S).bind fun p => (isiT T p.1).map fun b => (.bl b, p.2)
theorem se_isi {T : String} {x : Str} {p q pos : Pos} (hg : Gl X "isinstance") (hm : X.mg "isinstance" = none) (he : SE ct X e f) (hg2 : Gl X x) (hm2 : X.mg x = none) (hv2 : bootBuiltins x = some (.type T)) (hn2 : x ≠ "__name__" := by decide) (hd2 : (x == ("__debug__" : Str)) = false := by decide)
    (hs : starEach [e, .Name x q] X.env = (false, eval e X.env) :: starEach [.Name x q] X.env := by rfl) (hs2 : starEach [.Name x q] X.env = (false, eval (.Name x q) X.env) :: starEach [] X.env := by rfl)
    (hpl : (backTo pos (starEach [.Name x q] X.env)).any (·.1) = false := by rfl) : SE ct X (.Call (.Name "isinstance" p) [e, .Name x q] [] pos) (fIsi T f) := by
  obtain ⟨ta, pa, ra⟩ := he
  refine ⟨_, pe_callB call_isi hg hm (by decide +kernel) (pa_cons pa (pa_cons (pe_bltn (v := .ty T) hg2 hm2 hv2 rfl hn2 hd2) pa_nil hs2) hs) (by decide) (by decide) hs hpl, fun m F S σ H env d S' Q s en h p => ?_⟩
  obtain ⟨⟨z, S1⟩, h1, h⟩ := bind_some h
  obtain ⟨b, h2, h3⟩ := map_some h
  cases h3
  refine ra m F S σ H env z S1 _ s en h1 fun m1 F1 v1 H1 x1 s1 r1 => ?_
  obtain ⟨k1, k2⟩ := isiT_kit h2
  exact ⟨v1, .ty T, .type (tyN z), .type T, b, rfl, .ty T, tyX_of s1.same r1 k2, kit_ty k1, (p.ext x1).now s1 rfl⟩
end
section
variable {ct : CT} {X : Cx} {a b c e : Expr} {es : List Expr} {fa fb fc f : FE}
abbrev FO := DEnv → Sto → Option (Option Int × Sto)
def SO (ct : CT) (X : Cx) (e : Option Expr) (f : FO) : Prop := ∃ t, PO X e t ∧ ∀ m F S σ H env o S' Q, Sim X.K ct m F S H → EnvR X.K ct m F env σ → f env S = some (o, S') → (∀ m' F' H', Ext m F H m' F' H' → Sim X.K ct m' F' S' H' → Q o H') → t σ H Q
def oNone : FO := fun _ S => some (none, S)
def oSome (f : FE) : FO := fun env S => (f env S).bind fun p => match p.1 with
  | .int i => some (some i, p.2)
  | _ => none
theorem so_none : SO ct X none oNone := ⟨_, po_none, fun m F S σ H env o S' Q s en h q => by
  cases h
  exact q m F H (Ext.refl _ _ _) s⟩
theorem so_some (h : SE ct X e f) : SO ct X (some e) (oSome f) := by
  obtain ⟨ta, pa, ra⟩ := h
  refine ⟨_, po_some pa, fun m F S σ H env o S' Q s en h q => ?_⟩
  obtain ⟨⟨z, S1⟩, h1, h⟩ := bind_some h
  refine ra m F S σ H env z S1 _ s en h1 fun m1 F1 v1 H1 x1 s1 r1 => ?_
  cases z with
  | int i => cases h; exact ⟨i, r1, q m1 F1 H1 x1 s1⟩
  | _ => cases h
def cutD {α : Type} (xs : List α) (lo hi : Option Int) : List α := (xs.drop (HT.sIx xs.length 0 lo)).take (HT.sIx xs.length xs.length hi - HT.sIx xs.length 0 lo)
def gSl : D → Option Int → Option Int → Sto → Option (D × Sto)
  | .lst ds, lo, hi, S => some (.lst (cutD ds lo hi), S)
  | .scr ns, lo, hi, S => some (.lst ((cutD ns lo hi).map .int), S)
  | .tup ds, lo, hi, S => if HT.sIx ds.length 0 lo = 0 ∧ HT.sIx ds.length ds.length hi = ds.length then none else some (.tup (cutD ds lo hi), S)
  | .str z, lo, hi, S => if z.length ≤ 16777216 then some (.str (cutS z lo hi), S) else none
  | _, _, _, _ => none
def fSl (fa : FE) (lo hi : FO) : FE := fun env S => (fa env S).bind fun p => (lo env p.2).bind fun q => (hi env q.2).bind fun r => gSl p.1 q.1 r.1 r.2
theorem cutD_reps {K : PySem.W.Frag} {m : List Addr} {F : Hp} {ds : List D} {vs : List V} (r : Reps K ct m F ds vs) (lo hi : Option Int) : Reps K ct m F (cutD ds lo hi) (cutV vs lo hi) := by
  unfold cutD cutV
  rw [← r.length]
  exact (r.drop _).take _
end
section
variable {ct : CT} {X : Cx} {tg a b c e : Expr} {es : List Expr} {fa fb fc f : FE} {fas : FA}
/-- a list -/
def iLst (f : FE) : FA := fun env S => (f env S).bind fun p => match p.1 with
  | .lst ds => some (ds, p.2)
  | _ => none
theorem si_list (h : SE ct X e f) : SI ct X tg e (iLst f) := by
  obtain ⟨ta, pa, ra⟩ := h
  refine ⟨_, pi_list pa, fun m F S σ H env items S' R s en h p => ?_⟩
  obtain ⟨⟨z, S1⟩, h1, h⟩ := bind_some h
  refine ra m F S σ H env z S1 _ s en h1 fun m1 F1 v1 H1 x1 s1 r1 => ?_
  cases z with
  | lst ds =>
    cases h
    obtain ⟨q, vs, e1, e2, e3⟩ := r1
    refine ⟨q, e1, ⟨vs, SqL.of (s1.same _ _ e2)⟩, p m1 F1 _ H1 x1 s1 fun i m2 F2 S2 H2 x2 s2 => ?_⟩
    have hq : SqL X.K H2 q vs := SqL.of (s2.same _ _ (x2.same _ _ e2))
    refine ⟨fun d hd => ?_, fun hl => ⟨vs, hq, by rw [← e3.length]; omega⟩⟩
    obtain ⟨v, g1, g2⟩ := e3.get hd
    refine ⟨⟨vs, v, hq, g1⟩, fun x H' y => ?_⟩
    obtain ⟨y1, y2⟩ := y
    subst y1
    have := y2 vs hq
    rw [g1] at this
    cases this
    exact ⟨F2, Ext.refl _ _ _, s2, g2.mono0 x2⟩
  | _ => cases h
/-- a tuple -/
def iTup (f : FE) : FA := fun env S => (f env S).bind fun p => match p.1 with
  | .tup ds => some (ds, p.2)
  | _ => none
theorem si_tup (h : SE ct X e f) : SI ct X tg e (iTup f) := by
  obtain ⟨ta, pa, ra⟩ := h
  refine ⟨_, pi_tup pa, fun m F S σ H env items S' R s en h p => ?_⟩
  obtain ⟨⟨z, S1⟩, h1, h⟩ := bind_some h
  refine ra m F S σ H env z S1 _ s en h1 fun m1 F1 v1 H1 x1 s1 r1 => ?_
  cases z with
  | tup ds =>
    cases h
    obtain ⟨q, vs, e1, e2, e3⟩ := r1
    refine ⟨q, e1, ⟨vs, sqT_mono s1.same e2⟩, p m1 F1 _ H1 x1 s1 fun i m2 F2 S2 H2 x2 s2 => ?_⟩
    have hq : SqT X.K H2 q vs := sqT_mono s2.same (sqT_mono x2.same e2)
    refine ⟨fun d hd => ?_, fun hl => ⟨vs, hq, by rw [← e3.length]; omega⟩⟩
    obtain ⟨v, g1, g2⟩ := e3.get hd
    refine ⟨⟨vs, v, hq, g1⟩, fun x H' y => ?_⟩
    obtain ⟨y1, y2⟩ := y
    subst y1
    have := y2 vs hq
    rw [g1] at this
    cases this
    exact ⟨F2, Ext.refl _ _ _, s2, g2.mono0 x2⟩
  | _ => cases h
/-- range(n), range(a, b) -/
def rangeD (lo hi : Int) : List D := (List.range (hi - lo).toNat).map fun (k : Nat) => D.int (lo + k)
def okR (i : Int) : Bool := decide (-4611686018427387904 ≤ i) && decide (i < 4611686018427387904)
def iRange1 (fas : FA) : FA := fun env S => (fas env S).bind fun p => match p.1 with
  | [.int j] => if okR j = true then some (rangeD 0 j, p.2) else none
  | _ => none
def iRange2 (fas : FA) : FA := fun env S => (fas env S).bind fun p => match p.1 with
  | [.int i, .int j] => if okR i = true ∧ okR j = true then some (rangeD i j, p.2) else none
  | _ => none
theorem itr_ok {K : PySem.W.Frag} {m0 : List Addr} {F0 : Hp} (lo hi : Int) {n : Nat} (hn : n = (hi - lo).toNat) : ItOk ct K m0 F0 (rangeD lo hi) (Itr lo n) := by
  subst hn
  intro i m F S H x s
  have hl : (rangeD lo hi).length = (hi - lo).toNat := by simp [rangeD]
  refine ⟨fun d hd => ?_, fun h => ?_⟩
  · have hi : i < (rangeD lo hi).length := (List.getElem?_eq_some_iff.mp hd).1
    rw [hl] at hi
    refine ⟨hi, fun v H' y => ?_⟩
    obtain ⟨y1, y2⟩ := y
    subst y1 y2
    refine ⟨F, Ext.refl _ _ _, s, ?_⟩
    have e : d = .int (lo + i) := by
      unfold rangeD at hd
      rw [List.getElem?_map, List.getElem?_range hi] at hd
      cases hd
      rfl
    subst e
    rfl
  · rw [hl] at h
    show _ ≤ i
    omega
theorem okR_ok {i : Int} (h : okR i = true) : -(2 ^ 62) ≤ i ∧ i < 2 ^ 62 := by
  simp only [okR, Bool.and_eq_true, decide_eq_true_eq] at h
  exact h
theorem si_range1 {p pos : Pos} (hg : Gl X "range") (hm : X.mg "range" = none) (h : SA ct X [a] fas) (hs : starEach [a] X.env = [(false, eval a X.env)] := by rfl) : SI ct X tg (.Call (.Name "range" p) [a] [] pos) (iRange1 fas) := by
  obtain ⟨ta, pa, ra⟩ := h
  refine ⟨_, pi_range1 hg hm pa hs, fun m F S σ H env items S' R s en h p => ?_⟩
  obtain ⟨⟨zs, S1⟩, h1, h⟩ := bind_some h
  refine ra m F S σ H env zs S1 _ s en h1 fun m1 F1 vs H1 x1 s1 r1 => ?_
  split at h
  · rename_i j hz
    have hz : zs = _ := hz
    subst hz
    split at h
    · rename_i hj
      cases h
      obtain ⟨v, e1, e2⟩ := reps1 r1
      have e2 : v = _ := e2
      subst e2
      exact ⟨j, e1, (okR_ok hj).1, (okR_ok hj).2, p m1 F1 _ H1 x1 s1 (itr_ok 0 j (by simp))⟩
    · cases h
  · cases h
theorem si_range2 {p pos : Pos} (hg : Gl X "range") (hm : X.mg "range" = none) (h : SA ct X [a, b] fas) (hs : starEach [a, b] X.env = [(false, eval a X.env), (false, eval b X.env)] := by rfl) (hs2 : starEach [b] X.env = [(false, eval b X.env)] := by rfl) : SI ct X tg (.Call (.Name "range" p) [a, b] [] pos) (iRange2 fas) := by
  obtain ⟨ta, pa, ra⟩ := h
  refine ⟨_, pi_range2 hg hm pa hs hs2, fun m F S σ H env items S' R s en h p => ?_⟩
  obtain ⟨⟨zs, S1⟩, h1, h⟩ := bind_some h
  refine ra m F S σ H env zs S1 _ s en h1 fun m1 F1 vs H1 x1 s1 r1 => ?_
  split at h
  · rename_i i j hz
    have hz : zs = _ := hz
    subst hz
    split at h
    · rename_i hj
      cases h
      obtain ⟨v, u, e1, e2, e3⟩ := reps2 r1
      have e2 : v = _ := e2
      have e3 : u = _ := e3
      subst e2 e3
      exact ⟨i, j, e1, ⟨(okR_ok hj.1).1, (okR_ok hj.1).2, (okR_ok hj.2).1, (okR_ok hj.2).2⟩, p m1 F1 _ H1 x1 s1 (itr_ok i j rfl)⟩
    · cases h
  · cases h
end
end DL
namespace DL
open PySem PySem.Spec PyProof.Rows L2
def tE (ct : CT) (K : PySem.W.Frag) (f : FE) : TE := fun σ H Q => ∃ m F S env d S', Sim K ct m F S H ∧ EnvR K ct m F env σ ∧ f env S = some (d, S') ∧ PostE ct K m F H S' d Q
def tT (ct : CT) (K : PySem.W.Frag) (f : FT) : TT := fun σ H Q => ∃ m F S env b S', Sim K ct m F S H ∧ EnvR K ct m F env σ ∧ f env S = some (b, S') ∧ PostT ct K m F H S' b Q
theorem SE.pe {ct : CT} {X : Cx} {e : Expr} {f : FE} (h : SE ct X e f) : PE X e (tE ct X.K f) := by
  obtain ⟨t, p, r⟩ := h
  exact ⟨fun pins s σ H Q I ⟨m, F, S, env, d, S', s1, en, h1, p1⟩ => p.run pins s σ H Q I (r m F S σ H env d S' Q s1 en h1 p1)⟩
def STs (ct : CT) (X : Cx) (ifs : List Expr) (f : FT) : Prop := ∃ t, PTs X ifs t ∧ ∀ m F S σ H env b S' Q, Sim X.K ct m F S H → EnvR X.K ct m F env σ → f env S = some (b, S') → PostT ct X.K m F H S' b Q → t σ H Q
theorem STs.pt {ct : CT} {X : Cx} {es : List Expr} {f : FT} (h : STs ct X es f) : PTs X es (tT ct X.K f) := by
  obtain ⟨t, p, r⟩ := h
  exact ⟨fun pins s σ H Q I ⟨m, F, S, env, d, S', s1, en, h1, p1⟩ => p.run pins s σ H Q I (r m F S σ H env d S' Q s1 en h1 p1)⟩
def tYesD : FT := fun _ S => some (true, S)
theorem sts_nil {ct : CT} {X : Cx} : STs ct X [] tYesD := ⟨_, pts_nil, fun m F S σ H env b S' Q s en h p => by
  cases h
  exact p m F H (Ext.refl _ _ _) s⟩
theorem sts_one {ct : CT} {X : Cx} {e : Expr} {f : FT} (h : ST ct X e f) : STs ct X [e] f := by
  obtain ⟨t, p, r⟩ := h
  exact ⟨t, pts_one p, r⟩
def SGw (ct : CT) (X : Cx) (vs : List Nat) (tg : Expr) (g : FG) : Prop := ∃ t, PG X tg t ∧ ∀ m F S σ H env d v env' S' Q, Sim X.K ct m F S H → EnvR X.K ct m F env σ → Rep X.K ct m F d v → g d env S = some (env', S') →
  (∀ m' F' σ' H', Ext m F H m' F' H' → Sim X.K ct m' F' S' H' → EnvR X.K ct m' F' env' σ' → wipe σ' vs = wipe σ vs → Q σ' H') → t v σ H Q
def SGws (ct : CT) (X : Cx) (vs : List Nat) (tgs : List Expr) (g : FGs) : Prop := ∃ t, PGs X tgs t ∧ ∀ m F S σ H env ds us env' S' Q, Sim X.K ct m F S H → EnvR X.K ct m F env σ → Reps X.K ct m F ds us → g ds env S = some (env', S') →
  (∀ m' F' σ' H', Ext m F H m' F' H' → Sim X.K ct m' F' S' H' → EnvR X.K ct m' F' env' σ' → wipe σ' vs = wipe σ vs → Q σ' H') → t us σ H Q
def tGw (ct : CT) (K : PySem.W.Frag) (vs : List Nat) (g : FG) : TG := fun v σ H Q => ∃ m F S env d env' S', Sim K ct m F S H ∧ EnvR K ct m F env σ ∧ Rep K ct m F d v ∧ g d env S = some (env', S') ∧
  (∀ m' F' σ' H', Ext m F H m' F' H' → Sim K ct m' F' S' H' → EnvR K ct m' F' env' σ' → wipe σ' vs = wipe σ vs → Q σ' H')
theorem SGw.pg {ct : CT} {X : Cx} {vs : List Nat} {tg : Expr} {g : FG} (h : SGw ct X vs tg g) : PG X tg (tGw ct X.K vs g) := by
  obtain ⟨t, p, r⟩ := h
  exact ⟨fun pins s σ H v u Q I rv ⟨m, F, S, env, d, env', S', s1, en, rp, h1, p1⟩ => p.run pins s σ H v u Q I rv (r m F S σ H env d v env' S' Q s1 en rp h1 p1)⟩
theorem set_comm' {α : Type} (l : List α) {i j : Nat} (h : i ≠ j) (a b : α) : (l.set i a).set j b = (l.set j b).set i a := List.set_comm a b h
theorem wipe_out_set {σ : L2.St} {i : Nat} {x : Option V} : ∀ {vs : List Nat}, i ∉ vs → wipe (σ.set i x) vs = (wipe σ vs).set i x
  | [], _ => rfl
  | v :: vs, h => by
    have h1 : i ≠ v := fun e => h (by simp [e])
    have h2 : i ∉ vs := fun e => h (by simp [e])
    unfold wipe
    rw [wipe_out_set h2, set_comm' _ h1]
theorem wipe_set {σ : L2.St} {i : Nat} {x : Option V} : ∀ {vs : List Nat}, i ∈ vs → wipe (σ.set i x) vs = wipe σ vs
  | [], h => by cases h
  | v :: vs, h => by
    unfold wipe
    by_cases hi : i ∈ vs
    · rw [wipe_set hi]
    · have e : i = v := by simpa [hi] using h
      subst e
      rw [wipe_out_set hi, List.set_set]
theorem wipe_idem_sub {σ : L2.St} {us : List Nat} : ∀ {vs : List Nat}, (∀ v ∈ vs, v ∈ us) → wipe (wipe σ vs) us = wipe σ us
  | [], _ => rfl
  | v :: vs, h => by
    show wipe ((wipe σ vs).set v none) us = wipe σ us
    rw [wipe_set (h v (by simp)), wipe_idem_sub fun w hw => h w (by simp [hw])]
theorem wipe_idem {σ : L2.St} {vs : List Nat} : wipe (wipe σ vs) vs = wipe σ vs := wipe_idem_sub fun _ h => h
def wipeD (env : DEnv) : List Nat → DEnv
  | [] => env
  | v :: vs => (wipeD env vs).set v none
theorem EnvR.unset {K : PySem.W.Frag} {ct : CT} {m : List Addr} {F : Hp} {env : DEnv} {σ : L2.St} (h : EnvR K ct m F env σ) (i : Nat) : EnvR K ct m F (env.set i none) (σ.set i none) := by
  refine ⟨by simp [h.1], fun j e hj => ?_⟩
  by_cases e1 : i = j
  · subst e1
    have hl : i < env.length := by
      have := (List.getElem?_eq_some_iff.mp hj).1
      simpa using this
    rw [List.getElem?_set_self hl] at hj
    cases hj
  · rw [List.getElem?_set_ne e1] at hj
    rw [List.getElem?_set_ne e1]
    exact h.2 j e hj
theorem EnvR.wipe {K : PySem.W.Frag} {ct : CT} {m : List Addr} {F : Hp} {env : DEnv} {σ : L2.St} (h : EnvR K ct m F env σ) : ∀ vs : List Nat, EnvR K ct m F (wipeD env vs) (L2.wipe σ vs)
  | [] => h
  | v :: vs => (EnvR.wipe h vs).unset v
section
variable {ct : CT} {X : Cx} {pos : Pos}
theorem sgw_name {vs : List Nat} {i : Nat} {x : Str} (hN : X.N.Nodup) (hi : X.N[i]? = some x) (hx : Loc X.env.scope x) (hv : i ∈ vs) (hf : X.fn x = true ∨ X.env.scope.names.lookup x = some .local := by first | exact .inl rfl | exact .inr rfl | assumption) : SGw ct X vs (.Name x pos) (gN i) :=
  ⟨_, pg_name hN hi hx hf, fun m F S σ H env d v env' S' Q s en r h q => by
    cases h
    exact q m F _ H (Ext.refl _ _ _) s (en.set i r) (wipe_set hv)⟩
theorem sgws_nil {vs : List Nat} : SGws ct X vs [] gNil := ⟨_, pgs_nil, fun m F S σ H env ds us env' S' Q s en r h q => by
  cases ds with
  | nil =>
    cases h
    exact ⟨r, q m F _ H (Ext.refl _ _ _) s en rfl⟩
  | cons _ _ => cases h⟩
theorem sgws_cons {vs : List Nat} {t : Expr} {ts : List Expr} {g : FG} {gs : FGs} (h1 : SGw ct X vs t g) (h2 : SGws ct X vs ts gs) (hs : (assignEach (t :: ts) X.env).map (·.2) = assign t X.env :: (assignEach ts X.env).map (·.2) := by rfl) : SGws ct X vs (t :: ts) (gCons g gs) := by
  obtain ⟨ta, pa, ra⟩ := h1
  obtain ⟨tb, pb, rb⟩ := h2
  refine ⟨_, pgs_cons pa pb hs, fun m F S σ H env ds us env' S' Q s en r h q => ?_⟩
  cases ds with
  | nil => cases h
  | cons d dr =>
    obtain ⟨⟨env1, S1⟩, h1, h⟩ := bind_some h
    obtain ⟨v, vr, e1, r1, r2⟩ := r
    refine ⟨v, vr, e1, ra m F S σ H env d v env1 S1 _ s en r1 h1 fun m1 F1 σ1 H1 x1 s1 en1 w1 => ?_⟩
    exact rb m1 F1 S1 σ1 H1 env1 dr vr env' S' Q s1 en1 (r2.mono x1) h fun m2 F2 σ2 H2 x2 s2 en2 w2 => q m2 F2 σ2 H2 (x1.trans x2) s2 en2 (w2.trans w1)
theorem sgw_tup {vs : List Nat} {ts : List Expr} {k n : Nat} {gs : FGs} (hc : X.calm = true) (h : SGws ct X vs ts gs) (hn : (assignEach ts X.env).length = n := by rfl) (hst : (assignEach ts X.env).findIdx? (·.1) = none := by rfl) : SGw ct X vs (.Tuple ts k pos) (gTup n gs) := by
  obtain ⟨ta, pa, ra⟩ := h
  refine ⟨_, pg_tup hc pa hn hst, fun m F S σ H env d v env' S' Q s en r h q => ?_⟩
  cases d with
  | tup ds =>
    obtain ⟨a, us, e1, e2, e3⟩ := r
    by_cases hl : ds.length = n
    · have h : (if ds.length = n then gs ds env S else none) = some (env', S') := h
      rw [if_pos hl] at h
      exact ⟨a, us, e1, sqT_mono s.same e2, by rw [← e3.length]; exact hl, ra m F S σ H env ds us env' S' Q s en e3 h q⟩
    · have h : (if ds.length = n then gs ds env S else none) = some (env', S') := h
      rw [if_neg hl] at h
      cases h
  | _ => cases h
end
section
variable {K : PySem.W.Frag} {ct : CT} {m m' m0 : List Addr} {F F' H H' F0 H0 : Hp} {S : Sto} {L : Addr} {o u : HO}
theorem Ext.hid (x : Ext m F H m' F' H') (h : H L = some o) (n : L ∉ m) (f : F L = none) : H' L = some o ∧ L ∉ m' ∧ F' L = none := by
  refine ⟨x.keep _ _ h n, fun hm => ?_, ?_⟩
  · rcases x.new _ hm with q | q
    · exact n q
    · rw [h] at q; cases q
  · cases e : F' L with
    | none => rfl
    | some z =>
      rcases x.fnew _ _ e with q | q
      · rw [f] at q; cases q
      · rw [h] at q; cases q
theorem Sim.hidden (s : Sim K ct m F S H) (n : L ∉ m) (f : F L = none) (o : HO) : Sim K ct m F S (upd H L o) := by
  refine ⟨fun b z h => ?_, s.len, s.nd, s.off, fun i a c h1 h2 => ?_, s.tab⟩
  · have nb : b ≠ L := fun e => by rw [e, f] at h; cases h
    rw [upd_ne nb]; exact s.same _ _ h
  · have hm : a ∈ m := List.mem_iff_getElem?.mpr ⟨i, h1⟩
    have na : a ≠ L := fun e => n (e ▸ hm)
    rw [upd_ne na]; exact s.cell i a c h1 h2
theorem Ext.put (x : Ext m0 F0 H0 m F H) (h : H0 L = none) (o : HO) : Ext m0 F0 H0 m F (upd H L o) := by
  refine ⟨x.pre, x.same, fun b z q n => ?_, x.new, x.fnew, fun b z q => ?_⟩
  · rw [upd_ne (ne_of_none q h)]; exact x.keep b z q n
  · rw [upd_ne (ne_of_none q h)]; exact x.grow b z q
theorem CellR.mono' {o : Option HO} {c : Cell} (h : CellR K ct m F o c) (hp : ∀ (i : Nat) (a : Addr), m[i]? = some a → m'[i]? = some a) (e : Same F F') : CellR K ct m' F' o c := by
  cases c with
  | lst ds => obtain ⟨vs, e1, e2⟩ := h; exact ⟨vs, e1, Reps.mono' hp e _ _ e2⟩
  | dct kvs => obtain ⟨vs, e1, e2⟩ := h; exact ⟨vs, e1, Paired.mapP e2 fun p q z => ⟨z.1, Rep.mono' hp e _ _ z.2⟩⟩
  | ins c fs ds => obtain ⟨C, dx, vs, e1, e4, e3, e2⟩ := h; exact ⟨C, dx, vs, e1, e4, e3, Reps.mono' hp e _ _ e2⟩
  | tab q => obtain ⟨ps, e1, e2, e3⟩ := h; exact ⟨ps, e1, e2, fun pos cv hc => let ⟨c, z1, z2⟩ := e3 pos cv hc; ⟨c, z1, e _ _ z2⟩⟩
  | nd kvs => obtain ⟨w, b, xs, e1, e2⟩ := h; exact ⟨w, b, xs, e1, Paired.mapP e2 fun p q ⟨z1, ⟨z2, z3, z4⟩, v, z5, z6⟩ => ⟨z1, ⟨z2, z3, DN.VKey.mono e _ _ z4⟩, v, z5, Rep.mono' hp e _ _ z6⟩⟩
  | nt kvs => obtain ⟨w, b, xs, e1, hc, e2⟩ := h; exact ⟨w, b, xs, e1, hc, Paired.mapP e2 fun p q ⟨z1, ⟨z3, z4⟩, v, z5, z6⟩ => ⟨z1, ⟨z3, DN.VKeyT.mono e _ _ z4⟩, v, z5, Rep.mono' hp e _ _ z6⟩⟩
theorem same_upd (f : F L = none) (o : HO) : Same F (upd F L o) := fun b z q => by
  have nb : b ≠ L := fun e => by rw [e, f] at q; cases q
  rw [upd_ne nb]; exact q
theorem Sim.freeze (s : Sim K ct m F S H) (n : L ∉ m) (f : F L = none) (h : H L = some o) : Sim K ct m (upd F L o) S H := by
  refine ⟨fun b z q => ?_, s.len, s.nd, fun a ha => ?_, fun i a c h1 h2 => (s.cell i a c h1 h2).mono' (fun _ _ q => q) (same_upd f o), s.tab⟩
  · by_cases hb : b = L
    · rw [hb, upd_same] at q; rw [hb, h]; exact q
    · rw [upd_ne hb] at q; exact s.same _ _ q
  · have na : a ≠ L := fun e => n (e ▸ ha)
    rw [upd_ne na]; exact s.off a ha
theorem Ext.freeze (x : Ext m0 F0 H0 m F H) (h : H0 L = none) (f : F L = none) (o : HO) : Ext m0 F0 H0 m (upd F L o) H := by
  refine ⟨x.pre, x.same.trans (same_upd f o), x.keep, x.new, fun b z q => ?_, x.grow⟩
  by_cases hb : b = L
  · rw [hb]; exact .inr h
  · rw [upd_ne hb] at q; exact x.fnew b z q
end
def lcD (g : FG) (t : FT) (f : FE) (env : DEnv) : List D → Sto → Option (List D × Sto)
  | [], S => some ([], S)
  | x :: xs, S => (g x env S).bind fun p => (t p.1 p.2).bind fun b => if b.1 = true then (f p.1 b.2).bind fun y => (lcD g t f env xs y.2).bind fun r => some (y.1 :: r.1, r.2) else lcD g t f env xs b.2
def fLc (fi : FA) (g : FG) (t : FT) (f : FE) (vs : List Nat) : FE := fun env S => (fi env S).bind fun p => if p.1.length ≤ 1000000 then (lcD g t f (wipeD env vs) p.1 p.2).bind fun r => some (.lst r.1, r.2) else none
section
variable {ct : CT} {X : Cx}
theorem lc_run {fi : FA} {g : FG} {gt : FT} {fe : FE} {wi : TI} {own : List Nat} {m : List Addr} {F H : Hp} {S S' : Sto} {σ : L2.St} {env : DEnv} {d : D} {Q : VK}
    (ri : ∀ m F S σ H env items S' R, Sim X.K ct m F S H → EnvR X.K ct m F env σ → fi env S = some (items, S') → (∀ m' F' J H', Ext m F H m' F' H' → Sim X.K ct m' F' S' H' → ItOk ct X.K m' F' items J → R J H') → wi σ H R)
    (s : Sim X.K ct m F S H) (en : EnvR X.K ct m F env σ) (h : fLc fi g gt fe own env S = some (d, S')) (p : PostE ct X.K m F H S' d Q) :
    tLc wi (tGw ct X.K own g) (tT ct X.K gt) (tE ct X.K fe) own σ H Q := by
  obtain ⟨⟨items, S1⟩, h1, h⟩ := bind_some h
  split at h
  case isFalse => cases h
  rename_i hlen
  have hlen : items.length ≤ 1000000 := hlen
  obtain ⟨⟨out, S9⟩, h2, h⟩ := bind_some h
  cases h
  refine ri m F S σ H env items S1 _ s en h1 fun m1 F1 J H1 x1 s1 ok => fun L hL => ?_
  have nL1 : L ∉ m1 := fun hm => by
    obtain ⟨o, q⟩ := s1.there hm
    rw [hL] at q; cases q
  have fL1 : F1 L = none := by
    cases e : F1 L with
    | none => rfl
    | some o => rw [s1.same _ _ e] at hL; cases hL
  refine ⟨fun i k H' => k = items.length - i ∧ i ≤ items.length ∧ ∃ m' F' S2 accV accD rest, Ext m1 F1 H1 m' F' H' ∧ Sim X.K ct m' F' S2 H' ∧ H' L = some (.lst accV) ∧ L ∉ m' ∧ F' L = none ∧ Reps X.K ct m' F' accD accV ∧ accD.length ≤ i ∧
      lcD g gt fe (wipeD env own) (items.drop i) S2 = some (rest, S9) ∧ out = accD ++ rest,
    ⟨_, rfl, Nat.zero_le _, m1, F1, S1, [], [], out, (Ext.refl _ _ _).put hL _, s1.hidden nL1 fL1 _, upd_same, nL1, fL1, rfl, Nat.le_refl _, h2, rfl⟩, ?_⟩
  rintro i k H' ⟨rfl, hle, m', F', S2, accV, accD, rest, x', s', hH, nL, fL, rp, hal, hlc, eo⟩
  have en' : EnvR X.K ct m' F' (wipeD env own) (wipe σ own) := ((en.mono x1).mono x').wipe own
  have okk : (∀ d, items[i]? = some d → J.go i H' ∧ ∀ x H1, J.yld i H' x H1 → ∃ F1, Ext m' F' H' m' F1 H1 ∧ Sim X.K ct m' F1 S2 H1 ∧ Rep X.K ct m' F1 d x) ∧ (items.length = i → J.stop i H') := ok i m' F' S2 H' x'.e0 s'
  cases hd : items.drop i with
  | nil =>
    rw [hd] at hlc
    cases hlc
    have hl : items.length = i := by
      have := congrArg List.length hd
      simp at this
      omega
    refine .inl ⟨okk.2 hl, p m' (upd F' L (.lst accV)) (.ref L) H' (x1.trans (x'.freeze hL fL _)) (s'.freeze nL fL hH) ⟨L, accV, rfl, upd_same, ?_⟩⟩
    rw [eo, List.append_nil]
    exact Reps.mono' (fun _ _ q => q) (same_upd fL _) _ _ rp
  | cons a r =>
    rw [hd] at hlc
    obtain ⟨q1, q2⟩ := drop_cons hd
    have hlt : i < items.length := (List.getElem?_eq_some_iff.mp q1).1
    obtain ⟨go, yl⟩ := okk.1 a q1
    obtain ⟨⟨env1, S3⟩, h3, hlc⟩ := bind_some hlc
    obtain ⟨⟨b4, S4⟩, h4, hlc⟩ := bind_some hlc
    refine .inr ⟨go, fun H5 => ∃ m5 F5 S5 accV accD rest, Ext m1 F1 H1 m5 F5 H5 ∧ Sim X.K ct m5 F5 S5 H5 ∧ H5 L = some (.lst accV) ∧ L ∉ m5 ∧ F5 L = none ∧ Reps X.K ct m5 F5 accD accV ∧ accD.length ≤ i + 1 ∧
      lcD g gt fe (wipeD env own) (items.drop (i + 1)) S5 = some (rest, S9) ∧ out = accD ++ rest, fun H5 w => ⟨items.length - (i + 1), by omega, rfl, hlt, w⟩, fun x H5 y => ?_⟩
    obtain ⟨F5, x5, s5, r5⟩ := yl x H5 y
    obtain ⟨hH5, nL5, fL5⟩ := x5.hid hH nL fL
    refine ⟨m', F5, S2, wipeD env own, a, env1, S3, s5, en'.mono x5, r5, h3, fun m6 F6 σ6 H6 x6 s6 en6 w6 => ⟨by rw [w6]; exact wipe_idem, ?_⟩⟩
    obtain ⟨hH6, nL6, fL6⟩ := x6.hid hH5 nL5 fL5
    refine ⟨m6, F6, S3, env1, b4, S4, s6, en6, h4, fun m7 F7 H7 x7 s7 => ?_⟩
    obtain ⟨hH7, nL7, fL7⟩ := x7.hid hH6 nL6 fL6
    have xx : Ext m1 F1 H1 m7 F7 H7 := ((x'.trans x5).trans x6).trans x7
    have rp7 : Reps X.K ct m7 F7 accD accV := ((rp.mono x5).mono x6).mono x7
    cases b4 with
    | false =>
      refine iteF ⟨m7, F7, S4, accV, accD, rest, xx, s7, hH7, nL7, fL7, rp7, by omega, ?_, eo⟩
      rw [q2]
      exact hlc
    | true =>
      obtain ⟨⟨y8, S8⟩, h8, hlc⟩ := bind_some (show (fe env1 S4).bind _ = _ from hlc)
      obtain ⟨⟨r9, S10⟩, h9, hlc⟩ := bind_some hlc
      cases hlc
      refine iteT ⟨m7, F7, S4, env1, y8, S8, s7, en6.mono x7, h8, fun m8 F8 v8 H8 x8 s8 r8 => ?_⟩
      obtain ⟨hH8, nL8, fL8⟩ := x8.hid hH7 nL7 fL7
      refine ⟨accV, hH8, ?_, m8, F8, S8, accV ++ [v8], accD ++ [y8], r9, (xx.trans x8).put hL _, s8.hidden nL8 fL8 _, upd_same, nL8, fL8, (rp7.mono x8).snoc r8, by simp; omega, ?_, by rw [eo, List.append_assoc]; rfl⟩
      · rw [← rp.length, line_eq]
        omega
      · rw [q2]
        exact h9
theorem se_lc {elt tg iter : Expr} {ifs : List Expr} {scope : Scope} {own : List (Str × Nat)} {pos : Pos} {fi : FA} {g : FG} {gt : FT} {fe : FE} (hc : X.calm = true) (hN : X.N.Nodup) (hi : SI ct X tg iter fi) (ok : BlkOk X.N X.env.scope scope own)
    (hg : ∀ (s : Shared) (H : Hp) (C : Addr) (cl : List (Str × Addr)) (fp : List Addr), SGw ct (X.blk s H scope (compEnvC scope cl C X.env) fp) (own.map (·.2)) tg g) (ht : ∀ (s : Shared) (H : Hp) (C : Addr) (cl : List (Str × Addr)) (fp : List Addr), STs ct (X.blk s H scope (compEnvC scope cl C X.env) fp) ifs gt)
    (he : ∀ (s : Shared) (H : Hp) (C : Addr) (cl : List (Str × Addr)) (fp : List Addr), SE ct (X.blk s H scope (compEnvC scope cl C X.env) fp) elt fe) (hs : ∀ x, foldedSetIterable iter X.env x = pure x := by intro _; rfl) :
    SE ct X (.ListComp elt [⟨tg, iter, ifs, 0⟩] scope pos) (fLc fi g gt fe (own.map (·.2))) := by
  obtain ⟨wi, pi, ri⟩ := hi
  exact ⟨_, pe_lc (g := tGw ct X.K (own.map (·.2)) g) (tt := tT ct X.K gt) (te := tE ct X.K fe) hc hN pi ok (fun s H C cl fp => (hg s H C cl fp).pg) (fun s H C cl fp => (ht s H C cl fp).pt) (fun s H C cl fp => (he s H C cl fp).pe) hs, fun m F S σ H env d S' Q s en h p => lc_run ri s en h p⟩
theorem ss_setLc {i : Nat} {y : Str} {py : Pos} {elt tg iter : Expr} {ifs : List Expr} {scope : Scope} {own : List (Str × Nat)} {pos spos : Pos} {fi : FA} {g : FG} {gt : FT} {fe : FE} (hc : X.calm = true) (hN : X.N.Nodup) (hy : X.N[i]? = some y) (hyl : X.env.scope.names.lookup y = some .local)
    (hsw : swapsWith (.ListComp elt [⟨tg, iter, ifs, 0⟩] scope pos) (some (.Name y py)) spos.line X.env = pure true) (hi : SI ct X tg iter fi) (ok : BlkOk X.N X.env.scope scope own)
    (hg : ∀ (s : Shared) (H : Hp) (C : Addr) (cl : List (Str × Addr)) (fp : List Addr), SGw ct (X.blk s H scope (compEnvC scope cl C X.env) fp) (own.map (·.2)) tg g) (ht : ∀ (s : Shared) (H : Hp) (C : Addr) (cl : List (Str × Addr)) (fp : List Addr), STs ct (X.blk s H scope (compEnvC scope cl C X.env) fp) ifs gt)
    (he : ∀ (s : Shared) (H : Hp) (C : Addr) (cl : List (Str × Addr)) (fp : List Addr), SE ct (X.blk s H scope (compEnvC scope cl C X.env) fp) elt fe) (hs : ∀ x, foldedSetIterable iter X.env x = pure x := by intro _; rfl) :
    SS ct X (.Assign [.Name y py] (.ListComp elt [⟨tg, iter, ifs, 0⟩] scope pos) spos) (sAsg (fLc fi g gt fe (own.map (·.2))) (gN i)) := by
  obtain ⟨wi, pi, ri⟩ := hi
  refine ⟨_, ps_setLc (g := tGw ct X.K (own.map (·.2)) g) (tt := tT ct X.K gt) (te := tE ct X.K fe) hc hN hy hyl hsw pi ok (fun s H C cl fp => (hg s H C cl fp).pg) (fun s H C cl fp => (ht s H C cl fp).pt) (fun s H C cl fp => (he s H C cl fp).pe) hs, fun m F S σ H env fl S' E s en h p => ?_⟩
  obtain ⟨⟨x, S1⟩, h1, h⟩ := bind_some h
  cases h
  exact lc_run ri s en h1 fun m1 F1 v1 H1 x1 s1 r1 => p m1 F1 _ H1 x1 s1 ((en.mono x1).set i r1)
end
end DL
namespace DL
open PySem PySem.Spec PyProof.Rows L2
def valA {α : Type} (kvs : List (Key × α)) (k : Key) : Option α := (kvs.find? fun kv => decide (kv.1 = k)).map (·.2)
def putA {α : Type} (kvs : List (Key × α)) (k : Key) (v : α) : List (Key × α) :=
  if (kvs.any fun kv => decide (kv.1 = k)) = true then kvs.map fun kv => if kv.1 = k then (kv.1, v) else kv else kvs ++ [(k, v)]
def toKey : D → Option Key
  | .int i => some (.inl i)
  | .str x => some (.inr x)
  | _ => none
section
variable {ct : CT} {K : PySem.W.Frag} {m : List Addr} {F : Hp}
abbrev PR (K : PySem.W.Frag) (ct : CT) (m : List Addr) (F : Hp) : List (Key × D) → List (Key × V) → Prop := Paired fun (p : Key × D) (q : Key × V) => p.1 = q.1 ∧ Rep K ct m F p.2 q.2
theorem Rep.key {d : D} {v : V} {k : Key} (r : Rep K ct m F d v) (h : toKey d = some k) : v = kV k := by
  cases d with
  | int i => cases h; exact r
  | str x => cases h; exact r
  | _ => cases h
theorem PR.any {kvs : List (Key × D)} {us : List (Key × V)} (r : PR K ct m F kvs us) (k : Key) : (kvs.any fun kv => decide (kv.1 = k)) = us.any fun kv => decide (kv.1 = k) := by
  induction r with
  | nil => rfl
  | cons h _ ih => simp only [List.any_cons, ih, h.1]
theorem PR.val {kvs : List (Key × D)} {us : List (Key × V)} (r : PR K ct m F kvs us) (k : Key) : (∀ d, valA kvs k = some d → ∃ v, valV us k = some v ∧ Rep K ct m F d v) ∧ (valA kvs k = none → valV us k = none) := by
  induction r with
  | nil => exact ⟨fun d h => (by cases h), fun _ => rfl⟩
  | @cons p q l1 l2 h t ih =>
    by_cases e : p.1 = k
    · have e' : q.1 = k := h.1 ▸ e
      refine ⟨fun d hd => ⟨q.2, valV_pos e', ?_⟩, fun hd => ?_⟩
      · simp [valA, List.find?_cons, e] at hd
        subst hd
        exact h.2
      · simp [valA, List.find?_cons, e] at hd
    · have e' : ¬ q.1 = k := h.1 ▸ e
      have e2 : valA (p :: l1) k = valA l1 k := by simp [valA, List.find?_cons, e]
      rw [e2, valV_neg e']
      exact ih
theorem PR.repl {kvs : List (Key × D)} {us : List (Key × V)} (r : PR K ct m F kvs us) (k : Key) {d : D} {v : V} (rv : Rep K ct m F d v) : PR K ct m F (kvs.map fun kv => if kv.1 = k then (kv.1, d) else kv) (us.map fun kv => if kv.1 = k then (kv.1, v) else kv) := by
  induction r with
  | nil => exact .nil
  | @cons p q l1 l2 h t ih =>
    refine .cons ?_ ih
    by_cases e : p.1 = k
    · have e' : q.1 = k := h.1 ▸ e
      dsimp only
      rw [if_pos e, if_pos e']
      exact ⟨h.1, rv⟩
    · have e' : ¬ q.1 = k := h.1 ▸ e
      dsimp only
      rw [if_neg e, if_neg e']
      exact h
theorem PR.put {kvs : List (Key × D)} {us : List (Key × V)} (r : PR K ct m F kvs us) (k : Key) {d : D} {v : V} (rv : Rep K ct m F d v) : PR K ct m F (putA kvs k d) (putK us k v) := by
  unfold putA putK
  rw [PR.any r k]
  split
  · exact PR.repl r k rv
  · exact Paired.snoc r ⟨rfl, rv⟩
theorem PR.length {kvs : List (Key × D)} {us : List (Key × V)} (r : PR K ct m F kvs us) : kvs.length = us.length := Paired.length r
end
section
variable {ct : CT} {X : Cx} {a b c e o : Expr} {es : List Expr} {fa fb fc f : FE} {fas : FA}
/-- o[k] = v: a list's or a dict's cell -/
def gSetA : D → D → D → Sto → Option Sto
  | .ref k, i, v, S => match S[k]? with
    | some (.lst ds) => match i with
      | .int i => (ixN ds.length i).map fun j => S.set k (.lst (ds.set j v))
      | _ => none
    | some (.dct kvs) => if kvs.length ≤ 1000000 then (toKey i).map fun x => S.set k (.dct (putA kvs x v)) else none
    | _ => none
  | _, _, _, _ => none
def rSetA : TSet := fun o i v H Q => rSetL o i v H Q ∨ ∃ a H', o = .ref a ∧ DPut H a i v H' ∧ Q H'
theorem set_all {k : Nat} (hr : RoomG k X.A) : PSet X rSetA := by
  intro pins s σ H o i v ov iv u Q I r1 r2 r3 h
  rcases h with h | ⟨a, H', rfl, h, q⟩
  · exact set_list pins s σ H o i v ov iv u Q I r1 r2 r3 h
  · cases (show ov = Value.ref a from r1)
    exact d_setItem (hu_of hr.room) I h r2 r3 fun s' I' => ⟨H', I', q⟩
theorem sd_all {K : PySem.W.Frag} : SetD ct K rSetA gSetA := by
  intro m F S H o i v d1 d2 d3 S' Q s r1 r2 r3 h q
  cases d1 with
  | ref k =>
    obtain ⟨a, e1, e2⟩ := r1
    obtain ⟨c, hc, cr⟩ := s.at e1
    cases c with
    | lst ds =>
      cases d2 with
      | int j0 =>
        have h : (ixN ds.length j0).map (fun j => S.set k (.lst (ds.set j d3))) = some S' := by simpa only [gSetA, hc] using h
        obtain ⟨j, h1, h2⟩ := map_some h
        subst h2
        obtain ⟨vs, q1, q2⟩ := cr
        obtain ⟨s2, x2⟩ := s.change e1 (o := .lst (vs.set j v)) (c := .lst (ds.set j d3)) ⟨_, rfl, q2.set j r3⟩
        exact .inl ⟨a, vs, _, j, e2, r2, q1, by rw [← q2.length]; exact h1, q _ _ _ x2 s2⟩
      | _ => simp [gSetA, hc] at h
    | dct kvs =>
      have h : (if kvs.length ≤ 1000000 then (toKey d2).map (fun x => S.set k (.dct (putA kvs x d3))) else none) = some S' := by
        simpa only [gSetA, hc] using h
      split at h
      · rename_i hl
        obtain ⟨x, h1, h2⟩ := map_some h
        subst h2
        obtain ⟨us, q1, q2⟩ := cr
        have ek := r2.key h1
        subst ek
        obtain ⟨s2, x2⟩ := s.change e1 (o := .dK (putK us x v)) (c := .dct (putA kvs x d3)) ⟨_, rfl, PR.put q2 x r3⟩
        exact .inr ⟨a, _, e2, DPut.k q1 (by rw [← PR.length q2, line_eq]; omega), q _ _ _ x2 s2⟩
      · cases h
    | ins _ _ _ => simp [gSetA, hc] at h
    | tab _ =>
      simp [gSetA, hc] at h
    | nd _ => simp [gSetA, hc] at h
    | nt _ => simp [gSetA, hc] at h
  | _ => cases h
/-- {'a': e, ..}: written text keys -/
def SDs (ct : CT) (X : Cx) (pos : Pos) (keys : List (Option Expr)) (values : List Expr) (ks : List Str) (f : FA) : Prop := ∃ trs, PPs X pos keys values trs ∧ ∀ m F S σ H env ds S' Q, Sim X.K ct m F S H → EnvR X.K ct m F env σ → f env S = some (ds, S') →
  (∀ m' F' vs H', Ext m F H m' F' H' → Sim X.K ct m' F' S' H' → Reps X.K ct m' F' ds vs → ds.length = ks.length → Q ((ks.map V.str).zip vs) H') → tPairs trs σ H Q
theorem sds_nil {pos : Pos} : SDs ct X pos [] [] [] fNil := ⟨_, pps_nil, fun m F S σ H env ds S' Q s en h p => by
  cases h
  exact p m F [] H (Ext.refl _ _ _) s rfl rfl⟩
theorem sds_cons {pos kp : Pos} {k : Str} {j : Nat} {keys : List (Option Expr)} {values : List Expr} {ks : List Str} (he : SE ct X e f) (hr : SDs ct X pos keys values ks fas) : SDs ct X pos (some (.Constant (.str k) j kp) :: keys) (e :: values) (k :: ks) (fCons f fas) := by
  obtain ⟨ta, pa, ra⟩ := he
  obtain ⟨tb, pb, rb⟩ := hr
  refine ⟨_, pps_cons pe_str pa pb, fun m F S σ H env d S' Q s en h p => ?_⟩
  obtain ⟨⟨x, S1⟩, h1, h⟩ := bind_some h
  obtain ⟨⟨ys, S2⟩, h2, h⟩ := bind_some h
  cases h
  refine ra m F S σ H env x S1 _ s en h1 fun m1 F1 v1 H1 x1 s1 r1 => ?_
  refine rb m1 F1 S1 σ H1 env ys S2 _ s1 (en.mono x1) h2 fun m2 F2 v2 H2 x2 s2 r2 hl => ?_
  exact p m2 F2 (v1 :: v2) H2 (x1.trans x2) s2 ⟨v1, v2, rfl, r1.mono x2, r2⟩ (by simp [hl])
def fDisp (ks : List Str) (fas : FA) : FE := fun env S => (fas env S).bind fun p => if ks.length ≤ 15 ∧ ks.Nodup then some (.ref p.2.length, p.2 ++ [.dct ((ks.map Sum.inr).zip p.1)]) else none
theorem merge_nodup : ∀ (more kvs : List (Key × V)), (more.map (·.1)).Nodup → (∀ k ∈ more.map (·.1), valV kvs k = none) → mergeK kvs more = kvs ++ more
  | [], kvs, _, _ => by simp [mergeK]
  | p :: more, kvs, h, hn => by
    have e : putK kvs p.1 p.2 = kvs ++ [p] := putK_new p.2 (hn p.1 (by simp))
    show mergeK (putK kvs p.1 p.2) more = _
    rw [e, merge_nodup more (kvs ++ [p]) (List.nodup_cons.mp h).2, List.append_assoc]
    · rfl
    · intro k hk
      have h1 : k ≠ p.1 := fun q => by
        subst q
        exact (List.nodup_cons.mp h).1 hk
      rw [valV_snoc p.1 k p.2 kvs (hn p.1 (by simp)), if_neg h1]
      exact hn k (by simp [List.mem_map] at hk ⊢; exact .inr hk)
theorem zip_PR {K : PySem.W.Frag} {m : List Addr} {F : Hp} : ∀ {ks : List Key} {ds : List D} {vs : List V}, Reps K ct m F ds vs → PR K ct m F (ks.zip ds) (ks.zip vs)
  | [], _, _, _ => .nil
  | k :: ks, [], _, r => by
    have r : _ = _ := r
    subst r
    exact .nil
  | k :: ks, d :: ds, _, r => by
    obtain ⟨v, vr, e1, e2, e3⟩ := r
    subst e1
    exact .cons ⟨rfl, e2⟩ (zip_PR e3)
theorem zip_kV : ∀ (ks : List Str) (vs : List V), (ks.map V.str).zip vs = (((ks.map Sum.inr : List Key)).zip vs).map fun kv => (kV kv.1, kv.2)
  | [], _ => rfl
  | _ :: _, [] => rfl
  | k :: ks, v :: vs => by
    simp only [List.map_cons, List.zip_cons_cons, zip_kV ks vs]
    rfl
theorem nodup_inr : ∀ {ks : List Str}, ks.Nodup → (ks.map Sum.inr : List Key).Nodup
  | [], _ => by simp
  | k :: ks, h => by
    simp only [List.map_cons, List.nodup_cons]
    refine ⟨fun q => ?_, nodup_inr (List.nodup_cons.mp h).2⟩
    obtain ⟨z, z1, z2⟩ := List.mem_map.mp q
    cases z2
    exact (List.nodup_cons.mp h).1 z1
theorem se_disp {pos : Pos} {keys : List (Option Expr)} {values : List Expr} {ks : List Str} (h : SDs ct X pos keys values ks fas) (hall : keys.all (·.isSome) = true) (hl : keys.length = values.length) (h0 : keys ≠ []) (h16 : keys.length ≤ 15 := by decide) : SE ct X (.Dict keys values pos) (fDisp ks fas) := by
  obtain ⟨trs, pp, rp⟩ := h
  refine ⟨_, pe_disp pp hall hl h0 h16, fun m F S σ H env d S' Q s en h p => ?_⟩
  obtain ⟨⟨xs, S1⟩, h1, h⟩ := bind_some h
  split at h
  case isFalse => cases h
  rename_i hk
  cases h
  intro q hq
  have nq : q ∉ m := fun hm => by
    obtain ⟨o, z⟩ := s.there hm
    rw [hq] at z; cases z
  have fq : F q = none := by
    cases z : F q with
    | none => rfl
    | some o => rw [s.same _ _ z] at hq; cases hq
  refine rp m F S σ (upd H q (.dK [])) env xs S1 _ (s.hidden nq fq _) en h1 fun m1 F1 vs H1 x1 s1 r1 hlen => ?_
  obtain ⟨hH, nq1, fq1⟩ := x1.hid upd_same nq fq
  have x0 : Ext m F H m1 F1 H1 := ((Ext.refl m F H).put hq (.dK [])).trans x1
  refine ⟨hH, (ks.map Sum.inr).zip vs, ?_, by simp [← r1.length, hlen, hk.1], ?_⟩
  · exact zip_kV ks vs
  · have hn : (((ks.map Sum.inr : List Key).zip vs).map (·.1)).Nodup := by
      rw [List.map_fst_zip (by simp [← r1.length, hlen])]
      exact nodup_inr hk.2
    rw [merge_nodup _ [] hn (fun _ _ => rfl), List.nil_append]
    have sq : Sim X.K ct m1 F1 S1 H1 := s1
    have s2 : Sim X.K ct (m1 ++ [q]) F1 (S1 ++ [.dct ((ks.map Sum.inr).zip xs)]) (upd H1 q (.dK ((ks.map Sum.inr).zip vs))) := by
      refine ⟨fun b z h => ?_, by simp [s1.len], ?_, fun a h => ?_, fun i a c h1 h2 => ?_, fun i a c y h1 h2 h3 => ?_⟩
      · have nb : b ≠ q := fun e => by rw [e, fq1] at h; cases h
        rw [upd_ne nb]; exact s1.same _ _ h
      · rw [List.nodup_append]
        exact ⟨s1.nd, by simp, fun a ha b hb e => nq1 (by rw [List.mem_singleton.mp hb] at e; exact e ▸ ha)⟩
      · rcases List.mem_append.mp h with z | z
        · exact s1.off a z
        · rw [List.mem_singleton.mp z]; exact fq1
      · have pre : ∀ (i : Nat) (a : Addr), m1[i]? = some a → (m1 ++ [q])[i]? = some a := fun i a h => by
          rw [List.getElem?_append_left (List.getElem?_eq_some_iff.mp h).1]; exact h
        by_cases hi : i < m1.length
        · rw [List.getElem?_append_left hi] at h1
          rw [List.getElem?_append_left (s1.len ▸ hi)] at h2
          have hm : a ∈ m1 := List.mem_iff_getElem?.mpr ⟨i, h1⟩
          have na : a ≠ q := fun e => nq1 (e ▸ hm)
          rw [upd_ne na]
          exact (s1.cell i a c h1 h2).mono' pre (Same.refl _)
        · rw [List.getElem?_append_right (by omega)] at h1
          rw [List.getElem?_append_right (by have := s1.len; omega)] at h2
          have e0 : i - m1.length = 0 := by
            have := (List.getElem?_eq_some_iff.mp h1).1
            simp at this; omega
          rw [e0] at h1
          rw [← s1.len, e0] at h2
          simp at h1 h2
          subst h1 h2
          rw [upd_same]
          exact ⟨_, rfl, zip_PR (Reps.mono' pre (Same.refl _) _ _ r1)⟩
      · by_cases hi : i < m1.length
        · rw [List.getElem?_append_left hi] at h1
          rw [List.getElem?_append_left (s1.len ▸ hi)] at h2
          exact s1.tab i a c y h1 h2 h3
        · rw [List.getElem?_append_right (by have := s1.len; omega)] at h2
          have := List.mem_of_getElem? h2
          rw [List.mem_singleton.mp this] at h3
          cases h3
    refine p (m1 ++ [q]) F1 (.ref q) _ ⟨fun i a h => ?_, x0.same, fun b z h n => ?_, fun a h => ?_, x0.fnew, fun b z h => ?_⟩ s2 ⟨q, by rw [← s1.len]; simp, rfl⟩
    · have := x0.pre i a h
      rw [List.getElem?_append_left (List.getElem?_eq_some_iff.mp this).1]; exact this
    · rw [upd_ne (ne_of_none h hq)]; exact x0.keep b z h n
    · rcases List.mem_append.mp h with z | z
      · exact x0.new a z
      · rw [List.mem_singleton.mp z]; exact .inr hq
    · rw [upd_ne (ne_of_none h hq)]; exact x0.grow b z h
end
end DL
namespace DL
open PySem PySem.Spec PyProof.Rows L2
section
variable {ct : CT} {X : Cx} {a b c e o k x : Expr} {es : List Expr} {fa fb fc f fd fk fx : FE} {fas : FA}
def kvsOf (d : D) (S : Sto) : Option (List (Key × D)) := match d with
  | .ref i => match S[i]? with
    | some (.dct kvs) => some kvs
    | _ => none
  | .dct ks ds => some (ks.zip ds)
  | _ => none
theorem kvs_at {K : PySem.W.Frag} {m : List Addr} {F H : Hp} {S : Sto} {d : D} {v : V} {kvs : List (Key × D)} (s : Sim K ct m F S H) (r : Rep K ct m F d v) (h : kvsOf d S = some kvs) : ∃ a us, v = .ref a ∧ H a = some (.dK us) ∧ PR K ct m F kvs us := by
  cases d with
  | ref i =>
    obtain ⟨a, e1, e2⟩ := r
    obtain ⟨c, hc, cr⟩ := s.at e1
    cases c with
    | dct kvs' =>
      simp only [kvsOf, hc] at h
      cases h
      obtain ⟨us, q1, q2⟩ := cr
      exact ⟨a, us, e2, q1, q2⟩
    | lst _ => simp [kvsOf, hc] at h
    | ins _ _ _ => simp [kvsOf, hc] at h
    | tab _ => simp [kvsOf, hc] at h
    | nd _ => simp [kvsOf, hc] at h
    | nt _ => simp [kvsOf, hc] at h
  | dct ks ds =>
    cases h
    obtain ⟨a, vs, e1, e2, e3, e4⟩ := r
    exact ⟨a, _, e1, s.same _ _ e2, zip_PR e4⟩
  | _ => cases h
structure KD (K : PySem.W.Frag) (w : World) (a : Addr) (tab : List (Str × Int)) : Prop where
  es : ∃ es n, KDict K w a es n
  val : ∀ z, ∃ r, PySem.W.nsIn K a z = some r ∧ RelO ((tab.lookup z).map V.int) r
def fKIn (neg : Bool) (tab : List (Str × Int)) (f : FE) : FE := fun env S => (f env S).bind fun p => match p.1 with
  | .str z => some (.bl (if neg then !(tab.lookup z).isSome else (tab.lookup z).isSome), p.2)
  | _ => none
variable {g : Addr} {tab : List (Str × Int)} {n : Str}
theorem relO_isSome {o : Option V} {u : Option Value} (r : RelO o u) : u.isSome = o.isSome := by
  cases o <;> cases u <;> first | rfl | exact r.elim
theorem st_kin {p pos : Pos} (d : KD X.K X.w g tab) (hg : Gl X n) (hm : X.mg n = some (.ref g)) (he : SE ct X e f) (hd : (n == ("__debug__" : Str)) = false := by decide) : ST ct X (.Compare e [.In] [.Name n p] pos) (fTest (fKIn false tab f)) := by
  obtain ⟨ta, pa, ra⟩ := he
  obtain ⟨es, k, kd⟩ := d.es
  refine ⟨_, pt_cmpR (op_in_kd kd) pa (pe_glob (v := .ref g) hg hm rfl hd) rfl, fun m F S σ H env d' S' Q s en h p => ?_⟩
  obtain ⟨⟨x, S2⟩, h2, h⟩ := bind_some h
  obtain ⟨⟨z, S1⟩, h1, h2⟩ := bind_some h2
  refine ra m F S σ H env z S1 _ s en h1 fun m1 F1 v1 H1 x1 s1 r1 => ?_
  cases z with
  | str z =>
    cases h2
    cases h
    obtain ⟨r, q1, q2⟩ := d.val z
    refine ⟨z, r, r1, rfl, q1, _, rfl, ?_⟩
    rw [relO_isSome q2, Option.isSome_map]
    exact p m1 F1 H1 x1 s1
  | _ => cases h2
theorem st_knotin {p pos : Pos} (d : KD X.K X.w g tab) (hg : Gl X n) (hm : X.mg n = some (.ref g)) (he : SE ct X e f) (hd : (n == ("__debug__" : Str)) = false := by decide) : ST ct X (.Compare e [.NotIn] [.Name n p] pos) (fTest (fKIn true tab f)) := by
  obtain ⟨ta, pa, ra⟩ := he
  obtain ⟨es, k, kd⟩ := d.es
  refine ⟨_, pt_cmpR (op_notIn_kd kd) pa (pe_glob (v := .ref g) hg hm rfl hd) rfl, fun m F S σ H env d' S' Q s en h p => ?_⟩
  obtain ⟨⟨x, S2⟩, h2, h⟩ := bind_some h
  obtain ⟨⟨z, S1⟩, h1, h2⟩ := bind_some h2
  refine ra m F S σ H env z S1 _ s en h1 fun m1 F1 v1 H1 x1 s1 r1 => ?_
  cases z with
  | str z =>
    cases h2
    cases h
    obtain ⟨r, q1, q2⟩ := d.val z
    refine ⟨z, r, r1, rfl, q1, _, rfl, ?_⟩
    rw [relO_isSome q2, Option.isSome_map]
    exact p m1 F1 H1 x1 s1
  | _ => cases h2
def fKIx (tab : List (Str × Int)) (f : FE) : FE := fun env S => (f env S).bind fun p => match p.1 with
  | .str z => (tab.lookup z).map fun i => (.int i, p.2)
  | _ => none
theorem se_kix {p pos : Pos} (d : KD X.K X.w g tab) (hg : Gl X n) (hm : X.mg n = some (.ref g)) (he : SE ct X e f) (hs : PlainIx e) (hd : (n == ("__debug__" : Str)) = false := by decide) : SE ct X (.Subscript (.Name n p) e pos) (fKIx tab f) := by
  obtain ⟨ta, pa, ra⟩ := he
  obtain ⟨es, k, kd⟩ := d.es
  refine ⟨_, pe_ix ix_kdict (pe_glob (v := .ref g) hg hm rfl hd) pa hs, fun m F S σ H env d' S' Q s en h p => ?_⟩
  obtain ⟨⟨z, S1⟩, h1, h⟩ := bind_some h
  refine ra m F S σ H env z S1 _ s en h1 fun m1 F1 v1 H1 x1 s1 r1 => ?_
  cases z with
  | str z =>
    obtain ⟨i, h2, h3⟩ := map_some (show (tab.lookup z).map _ = _ from h)
    cases h3
    obtain ⟨r, q1, q2⟩ := d.val z
    rw [h2] at q2
    obtain ⟨u, q3, q4⟩ := RelO.some_of q2
    subst q3
    exact ⟨g, z, .int i, rfl, r1, ⟨es, k, u, kd.at_, kd.lit, q1, q4⟩, (p.ext x1).now s1 rfl⟩
  | _ => cases h
def fAppend (fo fe : FE) : FE := fun env S => (fo env S).bind fun p => match p.1 with
  | .ref k => match p.2[k]? with
    | some (.lst _) => (fe env p.2).bind fun q => match q.2[k]? with
      | some (.lst ds) => if ds.length ≤ 1000000 then some (.non, q.2.set k (.lst (ds ++ [q.1]))) else none
      | _ => none
    | _ => none
  | _ => none
theorem se_append {apos cpos : Pos} {fo fe : FE} (ho : SE ct X o fo) (he : SE ct X e fe) (hbase : attributeBase o "append" X.env (eval o X.env) = eval o X.env := by rfl)
    (hfew : ((backTo cpos (starEach [e] X.env)).all (fun x => !x.1) && (backToKw cpos (keywordEach [] X.env)).all (fun x => x.1.isSome)
      && decide (([e] : List Expr).length + ([] : List Keyword).length + (if ([] : List Keyword).isEmpty then 0 else 1) < 30)) = true := by rfl)
    (hline : (apos.endLine == cpos.line) = true := by rfl) (hs : starEach [e] X.env = (false, eval e X.env) :: starEach [] X.env := by rfl) (hplain : (backTo cpos (starEach [] X.env)).any (·.1) = false := by rfl) :
    SE ct X (.Call (.Attribute o "append" apos) [e] [] cpos) (fAppend fo fe) := by
  obtain ⟨ta, pa, ra⟩ := ho
  obtain ⟨tb, pb, rb⟩ := he
  refine ⟨_, pe_bm PySem.F.plainAttrs_list PySem.F.slot_list_append PySem.F.type_list_append mt_append pa (pa_cons pb pa_nil hs) hbase hfew hline hs hplain, fun m F S σ H env d S' Q s en h p => ?_⟩
  obtain ⟨⟨z, S1⟩, h1, h⟩ := bind_some h
  refine ra m F S σ H env z S1 _ s en h1 fun m1 F1 v1 H1 x1 s1 r1 => ?_
  cases z with
  | ref k =>
    obtain ⟨a, e1, e2⟩ := id r1
    obtain ⟨c1, hc1, cr1⟩ := s1.at e1
    subst e2
    cases c1 with
    | lst ds1 =>
      obtain ⟨vs1, g1, g2⟩ := cr1
      have h : (fe env S1).bind (fun q => match q.2[k]? with
        | some (.lst ds) => if ds.length ≤ 1000000 then some (D.non, q.2.set k (.lst (ds ++ [q.1]))) else none
        | _ => none) = some (d, S') := by simpa only [hc1] using h
      obtain ⟨⟨w, S2⟩, h2, h⟩ := bind_some h
      refine ⟨.inl ⟨rfl, _, SqL.of g1⟩, rb m1 F1 S1 σ H1 env w S2 _ s1 (en.mono x1) h2 fun m2 F2 v2 H2 x2 s2 r2 => ?_⟩
      have e3 := x2.pre _ _ e1
      obtain ⟨c2, hc2, cr2⟩ := s2.at e3
      cases c2 with
      | lst ds2 =>
        have h : (if ds2.length ≤ 1000000 then some (D.non, S2.set k (.lst (ds2 ++ [w]))) else none) = some (d, S') := by simpa only [hc2] using h
        split at h
        · rename_i hl
          cases h
          obtain ⟨vs2, g3, g4⟩ := cr2
          obtain ⟨s3, x3⟩ := s2.change e3 (o := .lst (vs2 ++ [v2])) (c := .lst (ds2 ++ [w])) ⟨_, rfl, g4.snoc r2⟩
          exact ⟨a, vs2, v2, rfl, rfl, g3, by rw [← g4.length, line_eq]; omega, p _ _ .non _ ((x1.trans x2).trans x3) s3 rfl⟩
        · cases h
      | dct _ => simp [hc2] at h
      | ins _ _ _ => simp [hc2] at h
      | tab _ => simp [hc2] at h
      | nd _ => simp [hc2] at h
      | nt _ => simp [hc2] at h
    | dct _ => simp [hc1] at h
    | ins _ _ _ => simp [hc1] at h
    | tab _ => simp [hc1] at h
    | nd _ => simp [hc1] at h
    | nt _ => simp [hc1] at h
  | _ => cases h
end
mutual
def noRef : D → Bool
  | .ref _ => false
  | .tup ds => noRefs ds
  | .lst ds => noRefs ds
  | .dct _ ds => noRefs ds
  | .obj _ _ ds => noRefs ds
  | .exc _ _ ds => noRefs ds
  | _ => true
def noRefs : List D → Bool
  | [] => true
  | d :: ds => noRef d && noRefs ds
end
section
variable {K : PySem.W.Frag} {ct : CT}
mutual
theorem Rep.noref {m m' : List Addr} {F : Hp} : ∀ (d : D) (v : V), noRef d = true → Rep K ct m F d v → Rep K ct m' F d v
  | .non, _, _, h => h
  | .bl _, _, _, h => h
  | .int _, _, _, h => h
  | .str _, _, _, h => h
  | .scr _, _, _, h => h
  | .tup ds, _, n, h => by
    obtain ⟨a, vs, e1, e2, e3⟩ := h
    exact ⟨a, vs, e1, e2, Reps.noref ds vs n e3⟩
  | .lst ds, _, n, h => by
    obtain ⟨a, vs, e1, e2, e3⟩ := h
    exact ⟨a, vs, e1, e2, Reps.noref ds vs n e3⟩
  | .dct ks ds, _, n, h => by
    obtain ⟨a, vs, e1, e2, e4, e3⟩ := h
    exact ⟨a, vs, e1, e2, e4, Reps.noref ds vs n e3⟩
  | .ref i, _, n, h => by cases n
  | .obj c fs ds, _, n, h => by
    obtain ⟨a, C, dx, vs, e1, e2, e4, e5, e3⟩ := h
    exact ⟨a, C, dx, vs, e1, e2, e4, e5, Reps.noref ds vs n e3⟩
  | .exc c fs ds, _, n, h => by
    obtain ⟨a, C, dx, vs, e1, e2, e4, e6, e5, e3⟩ := h
    exact ⟨a, C, dx, vs, e1, e2, e4, e6, e5, Reps.noref ds vs n e3⟩
  | .typ c, _, n, h => h
theorem Reps.noref {m m' : List Addr} {F : Hp} : ∀ (ds : List D) (vs : List V), noRefs ds = true → Reps K ct m F ds vs → Reps K ct m' F ds vs
  | [], _, _, h => h
  | d :: ds, _, n, h => by
    obtain ⟨v, r, e1, e2, e3⟩ := h
    have n : (noRef d && noRefs ds) = true := n
    simp only [Bool.and_eq_true] at n
    exact ⟨v, r, e1, Rep.noref d v n.1 e2, Reps.noref ds r n.2 e3⟩
end
mutual
theorem Rep.back {m m' : List Addr} {F F' : Hp} (hp : ∀ (i : Nat) (a : Addr), m[i]? = some a → m'[i]? = some a) : ∀ (d : D) (v0 v : V), Rep K ct m F d v0 → Rep K ct m' F' d v → Rep K ct m F' d v
  | .non, _, _, _, h => h
  | .bl _, _, _, _, h => h
  | .int _, _, _, _, h => h
  | .str _, _, _, _, h => h
  | .scr _, _, _, _, h => h
  | .tup ds, _, _, h0, h => by
    obtain ⟨a, vs, e1, e2, e3⟩ := h
    obtain ⟨_, vs0, _, _, e0⟩ := h0
    exact ⟨a, vs, e1, e2, Reps.back hp ds vs0 vs e0 e3⟩
  | .lst ds, _, _, h0, h => by
    obtain ⟨a, vs, e1, e2, e3⟩ := h
    obtain ⟨_, vs0, _, _, e0⟩ := h0
    exact ⟨a, vs, e1, e2, Reps.back hp ds vs0 vs e0 e3⟩
  | .dct ks ds, _, _, h0, h => by
    obtain ⟨a, vs, e1, e2, e4, e3⟩ := h
    obtain ⟨_, vs0, _, _, _, e0⟩ := h0
    exact ⟨a, vs, e1, e2, e4, Reps.back hp ds vs0 vs e0 e3⟩
  | .ref i, _, _, h0, h => by
    obtain ⟨a0, q1, q2⟩ := h0
    obtain ⟨a, q3, q4⟩ := h
    rw [hp i a0 q1] at q3
    cases q3
    exact ⟨a0, q1, q4⟩
  | .obj c fs ds, _, _, h0, h => by
    obtain ⟨a, C, dx, vs, e1, e2, e4, e5, e3⟩ := h
    obtain ⟨_, _, _, vs0, _, _, _, _, e0⟩ := h0
    exact ⟨a, C, dx, vs, e1, e2, e4, e5, Reps.back hp ds vs0 vs e0 e3⟩
  | .exc c fs ds, _, _, h0, h => by
    obtain ⟨a, C, dx, vs, e1, e2, e4, e6, e5, e3⟩ := h
    obtain ⟨_, _, _, vs0, _, _, _, _, _, e0⟩ := h0
    exact ⟨a, C, dx, vs, e1, e2, e4, e6, e5, Reps.back hp ds vs0 vs e0 e3⟩
  | .typ c, _, _, h0, h => h
theorem Reps.back {m m' : List Addr} {F F' : Hp} (hp : ∀ (i : Nat) (a : Addr), m[i]? = some a → m'[i]? = some a) : ∀ (ds : List D) (vs0 vs : List V), Reps K ct m F ds vs0 → Reps K ct m' F' ds vs → Reps K ct m F' ds vs
  | [], _, _, _, h => h
  | d :: ds, _, _, h0, h => by
    obtain ⟨v, r, e1, e2, e3⟩ := h
    obtain ⟨v0, r0, _, g2, g3⟩ := h0
    exact ⟨v, r, e1, Rep.back hp d v0 v g2 e2, Reps.back hp ds r0 r g3 e3⟩
end
def cellFree : Cell → Bool
  | .lst ds => noRefs ds
  | .dct kvs => kvs.all fun kv => noRef kv.2
  | .ins _ _ ds => noRefs ds
  | .tab _ => true
  | .nd kvs => kvs.all fun kv => noRef kv.2
  | .nt kvs => kvs.all fun kv => noRef kv.2
theorem CellR.noref {m m' : List Addr} {F : Hp} {o : Option HO} {c : Cell} (n : cellFree c = true) (h : CellR K ct m F o c) : CellR K ct m' F o c := by
  cases c with
  | lst ds => obtain ⟨vs, e1, e2⟩ := h; exact ⟨vs, e1, Reps.noref _ _ n e2⟩
  | dct kvs =>
    obtain ⟨us, e1, e2⟩ := h
    refine ⟨us, e1, ?_⟩
    replace n : (kvs.all fun kv => noRef kv.2) = true := n
    clear e1
    induction e2 with
    | nil => exact .nil
    | cons hh _ ih =>
      simp only [List.all_cons, Bool.and_eq_true] at n
      exact .cons ⟨hh.1, Rep.noref _ _ n.1 hh.2⟩ (ih n.2)
  | ins c fs ds => obtain ⟨C, dx, vs, e1, e4, e3, e2⟩ := h; exact ⟨C, dx, vs, e1, e4, e3, Reps.noref _ _ n e2⟩
  | tab q => exact h
  | nd kvs =>
    obtain ⟨w, b, xs, e1, e2⟩ := h
    refine ⟨w, b, xs, e1, ?_⟩
    replace n : (kvs.all fun kv => noRef kv.2) = true := n
    clear e1
    induction e2 with
    | nil => exact .nil
    | cons hh _ ih =>
      simp only [List.all_cons, Bool.and_eq_true] at n
      obtain ⟨z1, z2, v, z5, z6⟩ := hh
      exact .cons ⟨z1, z2, v, z5, Rep.noref _ _ n.1 z6⟩ (ih n.2)
  | nt kvs =>
    obtain ⟨w, b, xs, e1, hc, e2⟩ := h
    refine ⟨w, b, xs, e1, hc, ?_⟩
    replace n : (kvs.all fun kv => noRef kv.2) = true := n
    clear e1
    induction e2 with
    | nil => exact .nil
    | cons hh _ ih =>
      simp only [List.all_cons, Bool.and_eq_true] at n
      obtain ⟨z1, z2, v, z5, z6⟩ := hh
      exact .cons ⟨z1, z2, v, z5, Rep.noref _ _ n.1 z6⟩ (ih n.2)
theorem CellR.back {m m' : List Addr} {F F' : Hp} (hp : ∀ (i : Nat) (a : Addr), m[i]? = some a → m'[i]? = some a) {o o0 : Option HO} {c : Cell} (h0 : CellR K ct m F o0 c) (h : CellR K ct m' F' o c) : CellR K ct m F' o c := by
  cases c with
  | lst ds =>
    obtain ⟨vs, e1, e2⟩ := h
    obtain ⟨vs0, _, e0⟩ := h0
    exact ⟨vs, e1, Reps.back hp _ _ _ e0 e2⟩
  | dct kvs =>
    obtain ⟨us, e1, e2⟩ := h
    obtain ⟨us0, z0, e0⟩ := h0
    refine ⟨us, e1, ?_⟩
    clear e1 z0
    induction e2 generalizing us0 with
    | nil => exact .nil
    | cons hh _ ih =>
      cases e0 with
      | cons g0 g1 => exact .cons ⟨hh.1, Rep.back hp _ _ _ g0.2 hh.2⟩ (ih _ g1)
  | ins c fs ds =>
    obtain ⟨C, dx, vs, e1, e4, e3, e2⟩ := h
    obtain ⟨_, _, vs0, _, _, _, e0⟩ := h0
    exact ⟨C, dx, vs, e1, e4, e3, Reps.back hp _ _ _ e0 e2⟩
  | tab q => exact h
  | nd kvs =>
    obtain ⟨w, b, xs, e1, e2⟩ := h
    obtain ⟨w0, b0, xs0, z0, e0⟩ := h0
    refine ⟨w, b, xs, e1, ?_⟩
    clear e1 z0
    induction e2 generalizing xs0 with
    | nil => exact .nil
    | cons hh _ ih =>
      cases e0 with
      | cons g0 g1 =>
        obtain ⟨z1, z2, v, z5, z6⟩ := hh
        obtain ⟨_, _, v0, _, z60⟩ := g0
        exact .cons ⟨z1, z2, v, z5, Rep.back hp _ _ _ z60 z6⟩ (ih _ g1)
  | nt kvs =>
    obtain ⟨w, b, xs, e1, hc, e2⟩ := h
    obtain ⟨w0, b0, xs0, z0, _, e0⟩ := h0
    refine ⟨w, b, xs, e1, hc, ?_⟩
    clear e1 z0
    induction e2 generalizing xs0 with
    | nil => exact .nil
    | cons hh _ ih =>
      cases e0 with
      | cons g0 g1 =>
        obtain ⟨z1, z2, v, z5, z6⟩ := hh
        obtain ⟨_, _, v0, _, z60⟩ := g0
        exact .cons ⟨z1, z2, v, z5, Rep.back hp _ _ _ z60 z6⟩ (ih _ g1)
/-- the cells of S, as they stand now: unchanged, or without references -/
def Old (S S1 : Sto) : Prop := S1.length = S.length ∧ ∀ (i : Nat) (c : Cell), S1[i]? = some c → S[i]? = some c ∨ cellFree c = true
theorem Old.refl (S : Sto) : Old S S := ⟨rfl, fun _ _ h => .inl h⟩
theorem drop_sim {m m' : List Addr} {F F' H H' : Hp} {S S1 more : Sto} (ho : Old S S1) (s : Sim K ct m F S H) (x : Ext m F H m' F' H') (s' : Sim K ct m' F' (S1 ++ more) H') :
    Sim K ct (m'.take S1.length) F' S1 H' ∧ Ext m F H (m'.take S1.length) F' H' := by
  have hl := s'.len
  rw [List.length_append] at hl
  have sub : ∀ a ∈ m'.take S1.length, a ∈ m' := fun a h => List.mem_of_mem_take h
  have hml : m.length = S1.length := by rw [s.len, ho.1]
  have pre : ∀ (i : Nat) (a : Addr), m[i]? = some a → (m'.take S1.length)[i]? = some a := fun i a h => by
    have hi : i < m.length := (List.getElem?_eq_some_iff.mp h).1
    rw [List.getElem?_take_of_lt (by omega)]
    exact x.pre i a h
  have eqm : m = m'.take S1.length := by
    apply List.ext_getElem?
    intro i
    by_cases hi : i < m.length
    · have h1 : m[i]? = some m[i] := List.getElem?_eq_getElem hi
      rw [h1, pre i _ h1]
    · rw [List.getElem?_eq_none (by omega), List.getElem?_eq_none (by rw [List.length_take]; omega)]
  refine ⟨⟨s'.same, by rw [List.length_take]; omega, s'.nd.sublist (List.take_sublist _ _), fun a h => s'.off a (sub a h), fun i a c h1 h2 => ?_, fun i a c q h1 h2 h3 => ?_⟩, ⟨pre, x.same, x.keep, fun a h => x.new a (sub a h), x.fnew, x.grow⟩⟩
  · have hi : i < S1.length := (List.getElem?_eq_some_iff.mp h2).1
    have h1' : m'[i]? = some a := by rw [List.getElem?_take_of_lt hi] at h1; exact h1
    have cr := s'.cell i a c h1' (by rw [List.getElem?_append_left hi]; exact h2)
    rcases ho.2 i c h2 with q | q
    · rw [← eqm]
      rw [← eqm] at h1
      exact CellR.back x.pre (s.cell i a c h1 q) cr
    · exact cr.noref q
  · have hi : i < S1.length := (List.getElem?_eq_some_iff.mp h2).1
    exact s'.tab i a c q (by rw [List.getElem?_take_of_lt hi] at h1; exact h1) (by rw [List.getElem?_append_left hi]; exact h2) h3
end
end DL
namespace DL
open PySem PySem.Spec PyProof.Rows L2
section
variable {ct : CT} {X : Cx} {a b e : Expr} {es : List Expr} {fa fb f : FE} {fas : FA}
def fListR1 (fa : FE) : FE := fun env S => (fa env S).bind fun p => match p.1 with
  | .int n => if okR n = true ∧ n ≤ 16777216 then some (.lst (rangeD 0 n), p.2) else none
  | _ => none
theorem range_reps {K : PySem.W.Frag} {m : List Addr} {F : Hp} (a b : Int) : Reps K ct m F (rangeD a b) (rgV a b) := by
  unfold rangeD rgV
  induction List.range (b - a).toNat with
  | nil => exact rfl
  | cons n ns ih => exact ⟨_, _, rfl, rfl, ih⟩
end
def KG (w : World) (K : PySem.W.Frag) (mg : Str → Option Value) (n : Str) (tab : List (Str × Int)) : Prop := ∃ g, mg n = some (.ref g) ∧ KD K w g tab
def CG (mg : Str → Option Value) (n : Str) (v : V) : Prop := ∃ u, mg n = some u ∧ RelV v u
section
variable {ct : CT} {X : Cx} {e k x : Expr} {f fk fx : FE} {tab : List (Str × Int)} {n : Str}
theorem se_globC {v : V} {d : D} {pos : Pos} (hg : Gl X n) (c : CG X.mg n v) (hr : ∀ m F, Rep X.K ct m F d v) (hd : (n == ("__debug__" : Str)) = false := by decide) : SE ct X (.Name n pos) (fC d) := by
  obtain ⟨u, h1, h2⟩ := c
  exact se_glob hg h1 h2 hr hd
theorem st_kinG {p pos : Pos} (d : KG X.w X.K X.mg n tab) (hg : Gl X n) (he : SE ct X e f) (hd : (n == ("__debug__" : Str)) = false := by decide) : ST ct X (.Compare e [.In] [.Name n p] pos) (fTest (fKIn false tab f)) := by
  obtain ⟨g, h1, h2⟩ := d
  exact st_kin h2 hg h1 he hd
theorem st_knotinG {p pos : Pos} (d : KG X.w X.K X.mg n tab) (hg : Gl X n) (he : SE ct X e f) (hd : (n == ("__debug__" : Str)) = false := by decide) : ST ct X (.Compare e [.NotIn] [.Name n p] pos) (fTest (fKIn true tab f)) := by
  obtain ⟨g, h1, h2⟩ := d
  exact st_knotin h2 hg h1 he hd
theorem se_kixG {p pos : Pos} (d : KG X.w X.K X.mg n tab) (hg : Gl X n) (he : SE ct X e f) (hs : PlainIx e) (hd : (n == ("__debug__" : Str)) = false := by decide) : SE ct X (.Subscript (.Name n p) e pos) (fKIx tab f) := by
  obtain ⟨g, h1, h2⟩ := d
  exact se_kix h2 hg h1 he hs hd
end
/-- the values of a call by name, in the parameters' order -/
def kwG (idx : List Nat) {α : Type} (vs zs : List α) : List α := vs ++ idx.filterMap fun i => zs[i]?
abbrev KWB := List (List Str × List Nat)
def KwOk (K : PySem.W.Frag) (fd : FuncData) (ps : List Str) (n : Nat) (kwb : KWB) : Prop := ∀ b ∈ kwb, KBn K fd ps n b.1 (kwG b.2) (kwG b.2)
def Callee (P : Program) (w : World) (K : PySem.W.Frag) (mg : Str → Option Value) (base : Heap) (ct : CT) (k : Nat) (x : Str) (n : Nat) (g : FD) (kwb : KWB := []) : Prop :=
  ∃ (f : Addr) (fd : FuncData) (ps : List Str), mg x = some (.ref f) ∧ PySem.W.keepIn K (.ref f) = true ∧ (Binds K fd ps [] ∧ KwOk K fd ps 0 kwb) ∧ FnG P w K mg base k f fd ps (spD K ct n g)
def DefAt (K : PySem.W.Frag) (mg : Str → Option Value) (x : Str) (st : Stmt) (ps : List Str) (kwb : KWB := []) : Prop := ∃ (f : Addr) (fd : FuncData), Fun K x x st f fd ∧ mg x = some (.ref f) ∧ Binds K fd ps [] ∧ KwOk K fd ps 0 kwb
section
variable {P : Program} {w : World} {K : PySem.W.Frag} {mg : Str → Option Value} {base : Heap} {ct : CT}
theorem Callee.mono {j k n : Nat} {x : Str} {g : FD} {kwb : KWB} (c : Callee P w K mg base ct j x n g kwb) (h : j ≤ k) : Callee P w K mg base ct k x n g kwb := by
  obtain ⟨f, fd, ps, h1, h2, h3, h4⟩ := c
  exact ⟨f, fd, ps, h1, h2, h3, h4.mono h⟩
theorem callee_of {x : Str} {st : Stmt} {N ps : List Str} {k : Nat} {g : FS} {kwb : KWB} (d : DefAt K mg x st ps kwb) (S : FnScope N ps (defScope st))
    (hbody : ∀ (f : Addr) (cdv : Value) (A : Around) (outer : List Env) (s : Shared) (H : Hp) (E : XK), RoomG k (A.deeper (envOfC x (defScope st) s.heap.objs.size f cdv)) →
      SSs ct (cxOf CX0 P w K mg base N x (defScope st) f cdv A outer s H E).nox (defBody st) g) : Callee P w K mg base ct (k + 1) x ps.length (runD N.length g) kwb := by
  obtain ⟨f, fd, F, h1, h3⟩ := d
  exact ⟨f, fd, ps, h1, F.kp, h3, def_ok F S (hbody f)⟩
end
section
variable {ct : CT} {X : Cx} {e : Expr} {es : List Expr} {fas : FA} {x : Str} {p pos : Pos}
theorem se_fn {k n : Nat} {g : FD} {kwb : KWB} (C : Callee X.prog X.w X.K X.mg X.base ct k x n g kwb) (hr : RoomG k X.A) (hg : Gl X x) (ha : SA ct X (e :: es) fas) (hn : ∀ env S ds S', fas env S = some (ds, S') → ds.length = n) (hdb : (x == ("__debug__" : Str)) = false := by decide)
    (he : starEach (e :: es) X.env = (false, eval e X.env) :: starEach es X.env := by rfl) (hpl : (backTo pos (starEach es X.env)).any (·.1) = false := by rfl) : SE ct X (.Call (.Name x p) (e :: es) [] pos) (fCall g fas) := by
  obtain ⟨f, fd, ps, h1, h2, h3, h4⟩ := C
  exact se_call h4 hr hg h1 h2 h3.1 ha hn hdb he hpl
end
end DL
namespace DL
open PySem PySem.Spec PyProof.Rows L2
theorem TabOk.lit {P : Params} : ∀ {tab : List (Str × Int)} {l : List DictEntry}, TabOk P tab l → PySem.W.KeysLit P l
  | [], [], _ => trivial
  | p :: tab, e :: l, h => ⟨let ⟨t, _, h1, h2, _⟩ := h.1; ⟨p.1, t, h1, h2⟩, TabOk.lit h.2⟩
  | [], _ :: _, h => h.elim
  | _ :: _, [], h => h.elim
theorem TabOk.find {P : Params} (z : Str) : ∀ {tab : List (Str × Int)} {l : List DictEntry}, TabOk P tab l → RelO ((tab.lookup z).map V.int) ((l.find? fun e => e.key.isStr z).map (·.val)) ∧ (l.any fun e => e.refKey) = false
  | [], [], _ => ⟨trivial, rfl⟩
  | p :: tab, e :: l, h => by
    obtain ⟨⟨t, t', h1, h2, h3⟩, h4⟩ := h
    obtain ⟨i1, i2⟩ := TabOk.find z h4
    obtain ⟨k, i⟩ := p
    have hk : e.key.isStr z = (z == k) := by
      rw [h1, PySem.W.isStr_of]
      simp [Value.isStrOf, BEq.comm]
    refine ⟨?_, ?_⟩
    · rw [List.find?_cons, hk, List.lookup_cons]
      cases hz : z == k with
      | true => exact ⟨t', h3⟩
      | false => exact i1
    · rw [List.any_cons, i2]
      have : e.refKey = false := by
        unfold DictEntry.refKey
        rw [h1]
      rw [this]; rfl
  | [], _ :: _, h => h.elim
  | _ :: _, [], h => h.elim
theorem kg_of {w : World} {K : PySem.W.Frag} {mg : Str → Option Value} {n : Str} {tab : List (Str × Int)} {g : Addr} {es : Array DictEntry} {c : Nat} (hm : mg n = some (.ref g)) (hl : K.lookup g = some ⟨.type "dict", none, .dict es c, #[]⟩) (ht : TabOk w.params tab es.toList) (lo : (g == sysModules) = false) : KG w K mg n tab := by
  refine ⟨g, hm, ⟨es, c, hl, ht.lit, lo⟩, fun z => ?_⟩
  obtain ⟨h1, h2⟩ := ht.find z
  unfold PySem.W.nsIn
  rw [hl]
  dsimp only
  cases hf : es.toList.find? (fun e => e.key.isStr z) with
  | some e =>
    rw [hf] at h1
    exact ⟨some e.val, rfl, h1⟩
  | none =>
    rw [hf] at h1
    refine ⟨none, ?_, h1⟩
    simp only [h2]
    rfl
end DL
namespace DL
open PySem PySem.Spec PyProof.Rows L2
section
variable {env env' : DEnv} {S S1 S2 : Sto} {f1 f2 : FS} {t : FT} {f : FE} {d : D}
theorem seq_nx (h : f1 env S = some (.nx env', S1)) : sSeq f1 f2 env S = f2 env' S1 := by unfold sSeq; rw [h]; rfl
theorem seq_rt (h : f1 env S = some (.rt d, S1)) : sSeq f1 f2 env S = some (.rt d, S1) := by unfold sSeq; rw [h]; rfl
theorem ret_of (h : f env S = some (d, S1)) : sRet f env S = some (.rt d, S1) := by unfold sRet; rw [h]; rfl
theorem call_of {g : FD} {fas : FA} {ds : List D} {r : D × Sto} (h : fas env S = some (ds, S1)) (hg : g ds S1 = some r) : fCall g fas env S = some r := by unfold fCall; rw [h]; exact hg
theorem run_of {n : Nat} {g : FS} {ds : List D} (h : g (ds.map some ++ List.replicate (n - ds.length) none) S = some (.rt d, S1)) : runD n g ds S = some (d, S1) := by unfold runD; rw [h]; rfl
theorem for_of {fi : FA} {g : FG} {items : List D} {r : Fl × Sto} (h : fi env S = some (items, S1)) (hf : forD g f1 items env S1 = some r) : sFor fi g f1 env S = some r := by unfold sFor; rw [h]; exact hf
theorem or_of {u : FT} {b : Bool} (h : t env S = some (b, S1)) : tOrD t u env S = if b = true then some (true, S1) else u env S1 := by unfold tOrD; rw [h]; rfl
theorem and_of {u : FT} {b : Bool} (h : t env S = some (b, S1)) : tAndD t u env S = if b = true then u env S1 else some (false, S1) := by unfold tAndD; rw [h]; rfl
theorem vor_of {fa fb : FE} {b : Bool} (h : fa env S = some (.bl b, S1)) : fOr fa fb env S = if b = true then some (.bl true, S1) else fb env S1 := by unfold fOr; rw [h]; cases b <;> rfl
theorem vand_of {fa fb : FE} {b : Bool} (h : fa env S = some (.bl b, S1)) : fAnd fa fb env S = if b = true then fb env S1 else some (.bl false, S1) := by unfold fAnd; rw [h]; cases b <;> rfl
end
theorem set_last (S : Sto) (c d : Cell) : (S ++ [c]).set S.length d = S ++ [d] := by simp
end DL
namespace DL
open PySem PySem.Spec PyProof.Rows L2 TL
end DL
namespace DL
open PySem PySem.Spec PyProof.Rows L2
def R {α : Type} (o : Option (α × Sto)) (P : α → Sto → Prop) : Prop := ∃ a S', o = some (a, S') ∧ P a S'
section
variable {α β : Type} {env : DEnv} {S S1 : Sto} {f1 f2 : FS} {t u : FT} {f fa fb fc : FE} {fas : FA}
theorem R.of {o : Option (α × Sto)} {P : α → Sto → Prop} {a : α} (h : o = some (a, S1)) (p : P a S1) : R o P := ⟨a, S1, h, p⟩
theorem R.imp {o : Option (α × Sto)} {P P' : α → Sto → Prop} (h : R o P) (hp : ∀ a S, P a S → P' a S) : R o P' := by
  obtain ⟨a, S', e, p⟩ := h
  exact ⟨a, S', e, hp _ _ p⟩
theorem R.bind {o : Option (α × Sto)} {k : α × Sto → Option (β × Sto)} {P : β → Sto → Prop} (h : R o fun a S => R (k (a, S)) P) : R (o.bind k) P := by
  obtain ⟨a, S', e, p⟩ := h
  rw [e]
  exact p
theorem R.eq {o : Option (α × Sto)} {a : α} (h : R o fun x S' => x = a ∧ S' = S) : o = some (a, S) := by
  obtain ⟨x, S', e, h1, h2⟩ := h
  rw [e, h1, h2]
def PFl (P : Fl → Sto → Prop) (f2 : FS) : Fl → Sto → Prop
  | .nx env', S1 => R (f2 env' S1) P
  | fl, S1 => P fl S1
theorem r_seq {P : Fl → Sto → Prop} (h : R (f1 env S) (PFl P f2)) : R (sSeq f1 f2 env S) P := by
  obtain ⟨fl, S', e, p⟩ := h
  unfold sSeq
  rw [e]
  cases fl with
  | nx env' => exact p
  | rt d => exact ⟨_, _, rfl, p⟩
  | bk e => exact ⟨_, _, rfl, p⟩
  | ct e => exact ⟨_, _, rfl, p⟩
def PBk (I : DEnv → Sto → Prop) (P : Fl → Sto → Prop) : Fl → Sto → Prop
  | .nx e, S => I e S
  | .ct e, S => I e S
  | .bk e, S => P (.nx e) S
  | .rt d, S => P (.rt d) S
theorem r_forD {P : Fl → Sto → Prop} {g : FG} {body : FS} {items : List D} (I : Nat → DEnv → Sto → Prop) (h0 : I 0 env S)
    (hs : ∀ i d env S, items[i]? = some d → I i env S → R (g d env S) fun env1 S1 => R (body env1 S1) (PBk (I (i + 1)) P)) (hd : ∀ env S, I items.length env S → P (.nx env) S) : R (forD g body items env S) P := by
  suffices h : ∀ (r : List D) (i : Nat) (env : DEnv) (S : Sto), items.drop i = r → i + r.length = items.length → I i env S → R (forD g body r env S) P from h items 0 env S rfl (by simp) h0
  intro r
  induction r with
  | nil =>
    intro i env S hd' hl hi
    have hl : i = items.length := by simpa using hl
    subst hl
    exact ⟨_, _, rfl, hd _ _ hi⟩
  | cons d r ih =>
    intro i env S hd' hl hi
    obtain ⟨q1, q2⟩ := drop_cons hd'
    obtain ⟨env1, S1, e1, fl, S2, e2, p⟩ := hs i d env S q1 hi
    have hl' : i + 1 + r.length = items.length := by
      rw [List.length_cons] at hl
      omega
    unfold forD
    rw [e1]
    show R ((body env1 S1).bind _) P
    rw [e2]
    cases fl with
    | nx e => exact ih (i + 1) e S2 q2 hl' p
    | ct e => exact ih (i + 1) e S2 q2 hl' p
    | bk e => exact ⟨_, _, rfl, p⟩
    | rt d => exact ⟨_, _, rfl, p⟩
theorem r_for {P : Fl → Sto → Prop} {fi : FA} {g : FG} {body : FS} {items : List D} (h : fi env S = some (items, S1)) (I : Nat → DEnv → Sto → Prop) (h0 : I 0 env S1)
    (hs : ∀ i d env S, items[i]? = some d → I i env S → R (g d env S) fun env1 S1 => R (body env1 S1) (PBk (I (i + 1)) P)) (hd : ∀ env S, I items.length env S → P (.nx env) S) : R (sFor fi g body env S) P := by
  obtain ⟨a, S', e, p⟩ := r_forD (P := P) I h0 hs hd
  exact ⟨_, _, for_of h e, p⟩
/-- a loop whose turns keep one word -/
theorem r_forM {P : Fl → Sto → Prop} {fi : FA} {g : FG} {body : FS} {items : List D} (h : fi env S = some (items, S1)) (I : DEnv → Sto → Prop) (h0 : I env S1)
    (hs : ∀ d ∈ items, ∀ env S, I env S → R (g d env S) fun env1 S1 => R (body env1 S1) (PBk I P)) (hd : ∀ env S, I env S → P (.nx env) S) : R (sFor fi g body env S) P :=
  r_for h (fun _ => I) h0 (fun i d env S hi h => hs d (List.mem_of_getElem? hi) env S h) hd
def PRun (P : D → Sto → Prop) : Fl → Sto → Prop
  | .rt d, S => P d S
  | .nx _, S => P .non S
  | _, _ => False
theorem r_par {P : Fl → Sto → Prop} {i j : Nat} (h : R (fas env S) fun ds S1 => ∃ v w, ds = [v, w] ∧ P (.nx ((env.set i (some v)).set j (some w))) S1) : R (sPar i j fas env S) P := by
  obtain ⟨ds, S', e, v, w, rfl, p⟩ := h
  refine ⟨_, _, ?_, p⟩
  unfold sPar
  rw [e]
  rfl
end
end DL
namespace DL
open PySem PySem.Spec PyProof.Rows L2
variable {ct : CT} {X : Cx}
def fNever : FE := fun _ _ => none
def cDivmod : FD
  | [.int i, .int j], S => if 0 < j ∧ j.natAbs.log2 < 9000 then some (.tup [.int (i / j), .int (i % j)], S) else none
  | _, _ => none
theorem cd_divmod {K : PySem.W.Frag} : CallD ct K (fun xs H Q => ∃ i j, xs = [.int i, .int j] ∧ CDivP i j ∧ ∀ p, H p = none → Q (.ref p) (upd H p (.tup [.int (i / j), .int (i % j)]))) cDivmod := by
  intro m F S H xs ds d S' Q s r h p
  unfold cDivmod at h
  split at h
  · rename_i i j
    split at h
    · rename_i hc
      cases h
      obtain ⟨v, u, e1, e2, e3⟩ := reps2 r
      have e2 : v = .int i := e2
      have e3 : u = .int j := e3
      subst e2 e3
      refine ⟨i, j, e1, ⟨hc.1, PyProof.noPylong_of_log2 hc.2⟩, fun q hq => ?_⟩
      obtain ⟨s2, x2⟩ := s.frozen hq (.tup [.int (i / j), .int (i % j)])
      exact p m _ (.ref q) _ x2 s2 ⟨q, _, rfl, SqT.of upd_same, ⟨_, _, rfl, rfl, _, _, rfl, rfl, rfl⟩⟩
    · cases h
  · cases h
end DL
namespace DL
open PySem PySem.Spec PyProof.Rows L2
/-- a class of the text, by its name -/
structure Klass (K : PySem.W.Frag) (ct : CT) (c : Str) (C : Addr) : Prop where
  at_ : ct c = some C
  cls : Cls K C
def getF : List Str → List D → Str → Option D
  | f :: fs, d :: ds, x => if f = x then some d else getF fs ds x
  | _, _, _ => none
def hasF (fs : List Str) (x : Str) : Bool := fs.any fun f => decide (f = x)
def putN : List Str → Str → List Str
  | [], x => [x]
  | f :: fs, x => if f = x then f :: fs else f :: putN fs x
def putD : List Str → List D → Str → D → List D
  | f :: fs, d :: ds, x, y => if f = x then y :: ds else d :: putD fs ds x y
  | _, _, _, y => [y]
section
variable {K : PySem.W.Frag} {ct : CT} {m : List Addr} {F : Hp}
theorem getF_rep : ∀ {fs : List Str} {ds : List D} {vs : List V} {x : Str} {d : D}, Reps K ct m F ds vs → getF fs ds x = some d → ∃ v, (fs.zip vs).lookup x = some v ∧ Rep K ct m F d v
  | [], _, _, _, _, _, h => by cases h
  | _ :: _, [], _, _, _, _, h => by cases h
  | f :: fs, d' :: ds, vs, x, d, r, h => by
    obtain ⟨v, rest, rfl, r1, r2⟩ := r
    unfold getF at h
    by_cases e : f = x
    · rw [if_pos e] at h
      cases h
      subst e
      exact ⟨v, by simp [List.lookup], r1⟩
    · rw [if_neg e] at h
      obtain ⟨v2, h1, h2⟩ := getF_rep r2 h
      refine ⟨v2, ?_, h2⟩
      have : (x == f) = false := beq_eq_false_iff_ne.mpr fun q => e q.symm
      simp only [List.zip_cons_cons, List.lookup, this]
      exact h1
theorem put_rep : ∀ {fs : List Str} {ds : List D} {vs : List V} {x : Str} {y : D} {v : V}, fs.length = vs.length → Reps K ct m F ds vs → Rep K ct m F y v → ∃ us, putF x v (fs.zip vs) = (putN fs x).zip us ∧ (putN fs x).length = us.length ∧ Reps K ct m F (putD fs ds x y) us
  | [], ds, vs, x, y, v, hl, r, ry => by
    cases vs with
    | nil =>
      refine ⟨[v], rfl, rfl, ?_⟩
      cases ds <;> exact ⟨v, [], rfl, ry, rfl⟩
    | cons _ _ => cases hl
  | f :: fs, ds, vs, x, y, v, hl, r, ry => by
    cases vs with
    | nil => cases hl
    | cons u vs =>
      cases ds with
      | nil => cases (show _ = _ from r)
      | cons d ds =>
        obtain ⟨u', rest, e, r1, r2⟩ := r
        cases e
        unfold putN putD
        rw [List.zip_cons_cons, show putF x v ((f, u) :: fs.zip vs) = (if f = x then (f, v) :: fs.zip vs else (f, u) :: putF x v (fs.zip vs)) from rfl]
        by_cases e : f = x
        · rw [if_pos e, if_pos e, if_pos e]
          exact ⟨v :: vs, rfl, by simpa using hl, ⟨v, vs, rfl, ry, r2⟩⟩
        · rw [if_neg e, if_neg e, if_neg e]
          obtain ⟨us, h1, h2, h3⟩ := put_rep (x := x) (by simpa using hl) r2 ry
          exact ⟨u :: us, by rw [h1, List.zip_cons_cons], by simpa using h2, ⟨u, us, rfl, r1, h3⟩⟩
end
/-- the object at hand: its class, its fields -/
def insOf (c : Str) : D → Sto → Option (List Str × List D)
  | .ref i, S => match S[i]? with
    | some (.ins c' fs ds) => if c' = c then some (fs, ds) else none
    | _ => none
  | .obj c' fs ds, _ => if c' = c then some (fs, ds) else none
  | _, _ => none
section
variable {ct : CT} {X : Cx} {C : Addr} {c : Str}
theorem insOf_rep {m : List Addr} {F : Hp} {S : Sto} {H : Hp} {d : D} {v : V} {fs : List Str} {ds : List D} (kc : Klass X.K ct c C) (s : Sim X.K ct m F S H) (r : Rep X.K ct m F d v) (h : insOf c d S = some (fs, ds)) :
    ∃ a dx vs, v = .ref a ∧ H a = some (.ins C dx (fs.zip vs)) ∧ fs.length = vs.length ∧ Reps X.K ct m F ds vs := by
  cases d with
  | ref i =>
    obtain ⟨a, h1, h2⟩ := r
    unfold insOf at h
    dsimp only at h
    split at h
    · rename_i c' fs' ds' hc
      split at h
      · rename_i e
        subst e
        cases h
        obtain ⟨C', dx, vs, e1, e2, e3, e4⟩ := s.cell i a _ h1 hc
        rw [kc.at_] at e2
        cases e2
        exact ⟨a, dx, vs, h2, e1, e3, e4⟩
      · cases h
    · cases h
  | obj c' fs' ds' =>
    unfold insOf at h
    dsimp only at h
    split at h
    · rename_i e
      subst e
      cases h
      obtain ⟨a, C', dx, vs, e0, e2, e1, e3, e4⟩ := r
      rw [kc.at_] at e2
      cases e2
      exact ⟨a, dx, vs, e0, s.same _ _ e1, e3, e4⟩
    · cases h
  | _ => cases h
variable {e o value : Expr} {es : List Expr} {fe fo fv : FE} {fas : FA} {pos pos' apos : Pos} {f : Str}
def fFld (c f : Str) (fe : FE) : FE := fun env S => (fe env S).bind fun p => (insOf c p.1 p.2).bind fun q => (getF q.1 q.2 f).map fun d => (d, p.2)
theorem se_fld (kc : Klass X.K ct c C) (na : NoAttr X.K C f) (he : SE ct X e fe) (hb : attributeBase e f X.env (eval e X.env) = eval e X.env := by rfl) : SE ct X (.Attribute e f pos) (fFld c f fe) := by
  obtain ⟨ta, pa, ra⟩ := he
  refine ⟨_, pe_fld pa hb, fun m F S σ H env d S' Q s en h p => ?_⟩
  obtain ⟨⟨z, S1⟩, h1, h⟩ := bind_some h
  obtain ⟨⟨fs, ds⟩, h2, h⟩ := bind_some h
  obtain ⟨d', h3, h4⟩ := map_some h
  cases h4
  refine ra m F S σ H env z S1 _ s en h1 fun m1 F1 v1 H1 x1 s1 r1 => ?_
  obtain ⟨a, dx, vs, e1, e2, e3, e4⟩ := insOf_rep kc s1 r1 h2
  obtain ⟨v, e5, e6⟩ := getF_rep e4 h3
  exact ⟨a, C, dx, _, v, e1, e2, kc.cls, na, e5, p m1 F1 v H1 x1 s1 e6⟩
/-- e.f = value, of an object at hand as a cell -/
def sFldD (c f : Str) (fo fv : FE) : FS := fun env S => (fv env S).bind fun p => (fo env p.2).bind fun q => match q.1 with
  | .ref i => match q.2[i]? with
    | some (.ins c' fs ds) => if c' = c ∧ fs.length < 900 then some (.nx env, q.2.set i (.ins c (putN fs f) (putD fs ds f p.1))) else none
    | _ => none
  | _ => none
theorem ss_fld (kc : Klass X.K ct c C) (na : NoAttr X.K C f) (ho : SE ct X o fo) (hv : SE ct X value fv) (hs : swapsWith value (some (.Attribute o f pos')) pos.line X.env = pure false := by rfl) : SS ct X (.Assign [.Attribute o f pos'] value pos) (sFldD c f fo fv) := by
  obtain ⟨ta, pa, ra⟩ := ho
  obtain ⟨tv, pv, rv⟩ := hv
  refine ⟨_, ps_fld pa pv hs, fun m F S σ H env fl S' E s en h p => ?_⟩
  obtain ⟨⟨y, S1⟩, h1, h⟩ := bind_some h
  obtain ⟨⟨z, S2⟩, h2, h⟩ := bind_some h
  refine rv m F S σ H env y S1 _ s en h1 fun m1 F1 v1 H1 x1 s1 r1 => ?_
  refine ra m1 F1 S1 σ H1 env z S2 _ s1 (en.mono x1) h2 fun m2 F2 v2 H2 x2 s2 r2 => ?_
  cases z with
  | ref i =>
    obtain ⟨a, e1, e2⟩ := r2
    dsimp only at h
    split at h
    · rename_i c' fs ds hc
      split at h
      · rename_i hcc
        obtain ⟨rfl, hlt⟩ := hcc
        cases h
        obtain ⟨C', dx, vs, q1, q2, q3, q4⟩ := s2.cell i a _ e1 hc
        rw [kc.at_] at q2
        cases q2
        obtain ⟨us, w1, w2, w3⟩ := put_rep (x := f) q3 q4 (r1.mono x2)
        refine ⟨a, C, dx, _, e2, q1, kc.cls, na, by rw [List.length_zip, ← q3]; omega, ?_⟩
        obtain ⟨s3, x3⟩ := s2.change e1 (o := .ins C dx (putF f v1 (fs.zip vs))) (c := .ins c' (putN fs f) (putD fs ds f y)) ⟨C, dx, us, by rw [w1], kc.at_, w2, w3⟩
        exact p _ _ σ _ ((x1.trans x2).trans x3) s3 ((en.mono (x1.trans x2)).mono x3)
      · cases h
    · cases h
  | _ => cases h
def CalleeM (P : Program) (w : World) (K : PySem.W.Frag) (mg : Str → Option Value) (base : Heap) (ct : CT) (k : Nat) (C : Addr) (x : Str) (n : Nat) (g : FD) (kwb : KWB := []) : Prop :=
  ∃ (f : Addr) (fd : FuncData) (ps : List Str), Meth K C x f ∧ (Binds K fd ps [] ∧ KwOk K fd ps 1 kwb) ∧ FnG P w K mg base k f fd ps (spD K ct n g)
theorem CalleeM.mono {P : Program} {w : World} {K : PySem.W.Frag} {mg : Str → Option Value} {base : Heap} {j k n : Nat} {x : Str} {g : FD} {kwb : KWB} (c : CalleeM P w K mg base ct j C x n g kwb) (h : j ≤ k) : CalleeM P w K mg base ct k C x n g kwb := by
  obtain ⟨f, fd, ps, h1, h3, h4⟩ := c
  exact ⟨f, fd, ps, h1, h3, h4.mono h⟩
def fMeth (c x : Str) (g : FD) (fo : FE) (fas : FA) : FE := fun env S => (fo env S).bind fun p => (insOf c p.1 p.2).bind fun q => if hasF q.1 x = false then (fas env p.2).bind fun r => g (p.1 :: r.1) r.2 else none
def MakeAt (P : Program) (w : World) (K : PySem.W.Frag) (mg : Str → Option Value) (base : Heap) (ct : CT) (k : Nat) (x : Str) (dds : List D) (n : Nat) (g : FD) : Prop :=
  ∃ (C f : Addr) (fd : FuncData) (ps : List Str) (ds : List Value) (dvs : List V), mg x = some (.ref C) ∧ ct x = some C ∧ Mk K C f ∧ Binds K fd ps ds ∧ Vals dvs ds ∧ (∀ m F, Reps K ct m F dds dvs) ∧ FnG P w K mg base k f fd ps (spD K ct n g)
theorem MakeAt.mono {P : Program} {w : World} {K : PySem.W.Frag} {mg : Str → Option Value} {base : Heap} {j k n : Nat} {x : Str} {dds : List D} {g : FD} (c : MakeAt P w K mg base ct j x dds n g) (h : j ≤ k) : MakeAt P w K mg base ct k x dds n g := by
  obtain ⟨C, f, fd, ps, ds, dvs, h1, h2, h3, h4, h5, h6, h7⟩ := c
  exact ⟨C, f, fd, ps, ds, dvs, h1, h2, h3, h4, h5, h6, h7.mono h⟩
end
section
variable {P : Program} {w : World} {K : PySem.W.Frag} {mg : Str → Option Value} {base : Heap} {ct : CT}
theorem def_okD {x qual : Str} {st : Stmt} {f : Addr} {fd : FuncData} {N ps : List Str} {k : Nat} {g : FS} {dvs : List V} (F : FunD K x qual (defArgs st) (defBody st) (defScope st) dvs [] f fd) (S : FnScope N ps (defScope st))
    (hbody : ∀ (cdv : Value) (A : Around) (outer : List Env) (s : Shared) (H : Hp) (E : XK), RoomG k (A.deeper (envOfC qual (defScope st) s.heap.objs.size f cdv)) →
      SSs ct (cxOf CX0 P w K mg base N qual (defScope st) f cdv A outer s H E).nox (defBody st) g) : FnG P w K mg base (k + 1) f fd ps (spD K ct ps.length (runD N.length g)) := by
  refine funDG F S (fun vs H Q E h => h.1) (fun cdv A outer s H vs Q E hr h => ?_)
  obtain ⟨hl, m, F', S0, ds, d, S', sim, reps, hg, post⟩ := h
  obtain ⟨t, pt, rt⟩ := hbody cdv A outer s H E hr
  refine ⟨t, pt, ?_⟩
  obtain ⟨⟨fl, S1⟩, h1, h2⟩ := bind_some hg
  refine rt m F' S0 _ H _ fl S1 _ sim ?_ h1 ?_
  · have hl2 := reps.length
    refine ⟨by simp [L2.start, hl2], fun i e he => ?_⟩
    by_cases hi : i < ds.length
    · rw [List.getElem?_append_left (by simpa using hi)] at he
      simp at he
      obtain ⟨v, q1, q2⟩ := reps.get (i := i) (d := e) (by simpa using he)
      refine ⟨v, ?_, q2⟩
      unfold L2.start
      rw [List.getElem?_append_left (by simpa [← hl2] using hi)]
      simp [q1]
    · rw [List.getElem?_append_right (by simpa using hi)] at he
      have := List.mem_of_getElem? he
      simp at this
  · cases fl with
    | rt d1 => cases h2; exact fun m' F1 v H' x1 s1 r1 => post m' F1 v H' x1 s1 r1
    | nx env1 => cases h2; exact fun m' F1 σ1 H' x1 s1 r1 => post m' F1 .non H' x1 s1 rfl
    | bk env1 => cases h2
    | ct env1 => cases h2
end
end DL
namespace DL
open PySem PySem.Spec PyProof.Rows L2
def cMaxT : FD
  | [.tup [.int i, .int j]], S => some (.int (if j > i then j else i), S)
  | _, _ => none
def TG (K : PySem.W.Frag) (mg : Str → Option Value) (n : Str) (vs : List V) : Prop := ∃ (a : Addr) (o : Obj) (its : Array Value) (k : Nat), mg n = some (.ref a) ∧ K.lookup a = some o ∧ o.cls = .type "tuple" ∧ o.data = .seq its k ∧ its.size ≤ sizeLine ∧ Vals vs its.toList
theorem se_globT {ct : CT} {X : Cx} {n : Str} {pos : Pos} {ds : List D} {vs : List V} (hg : Gl X n) (c : TG X.K X.mg n vs) (hr : ∀ m F, Reps X.K ct m F ds vs) (hd : (n == ("__debug__" : Str)) = false := by decide) : SE ct X (.Name n pos) (fC (.tup ds)) := by
  obtain ⟨a, o, its, k, h1, h2, h3, h4, h5, h6⟩ := c
  exact se_glob (v := .ref a) hg h1 rfl (fun m F => ⟨a, vs, rfl, .inr ⟨o, its, k, h2, h3, h4, h5, h6⟩, hr m F⟩) hd
def Maker (P : Program) (w : World) (K : PySem.W.Frag) (mg : Str → Option Value) (base : Heap) (ct : CT) (k : Nat) (x : Str) (dds : List D) (n : Nat) (g : FD) : Prop := ∃ j, j + 1 ≤ k ∧ MakeAt P w K mg base ct j x dds n g
theorem Maker.mono {P : Program} {w : World} {K : PySem.W.Frag} {mg : Str → Option Value} {base : Heap} {ct : CT} {j k n : Nat} {x : Str} {dds : List D} {g : FD} (c : Maker P w K mg base ct j x dds n g) (h : j ≤ k) : Maker P w K mg base ct k x dds n g := by
  obtain ⟨i, h1, h2⟩ := c
  exact ⟨i, by omega, h2⟩
def spScr (K : PySem.W.Frag) : Sp := fun vs H Q _ => ∃ (a : Addr) (ns : List Int), vs = [.ref a] ∧ SqL K H a (ns.map V.int) ∧ ns.length ≤ 63 ∧ ∀ H', Q (.bl true) H'
theorem law_scr {P : Program} {w : World} {K : PySem.W.Frag} {mg : Str → Option Value} {base : Heap} {ct : CT} {k : Nat} {f : Addr} {fd : FuncData} {ps : List Str} {g : FD} (F : FnG P w K mg base k f fd ps (spD K ct 1 g)) (h : ∀ ns : List Int, ns.length ≤ 63 → ∃ S', g [.scr ns] [] = some (.bl true, S')) : FnG P w K mg base k f fd ps (spScr K) := by
  refine F.imp fun vs H Q E hs => ?_
  obtain ⟨a, ns, rfl, hS, hl, q⟩ := hs
  obtain ⟨S', h⟩ := h ns hl
  refine ⟨rfl, [], H, [], [.scr ns], .bl true, S', ⟨Same.refl _, rfl, List.nodup_nil, fun a h => (by cases h), fun i a c h1 h2 => (by simp at h1), fun i a c q h1 => (by simp at h1)⟩, ⟨_, _, rfl, ⟨a, rfl, hS⟩, rfl⟩, h, fun m' F' v H' _ _ r => ?_⟩
  have r : v = .bl true := r
  rw [r]
  exact q H'
end DL
namespace DL
open PySem PySem.Spec PyProof.Rows L2
def InitAt (K : PySem.W.Frag) (C : Addr) (qual : Str) (st : Stmt) (ps : List Str) (dvs : List V) (kwb : KWB := []) : Prop :=
  ∃ (f : Addr) (fd : FuncData), FunD K "__init__" qual (defArgs st) (defBody st) (defScope st) dvs [] f fd ∧ Mk K C f ∧ (∀ j, j ≤ dvs.length → ∃ ds, Vals (dvs.drop j) ds ∧ Binds K fd ps ds) ∧ KwOk K fd ps 1 kwb
def Initer (P : Program) (w : World) (K : PySem.W.Frag) (mg : Str → Option Value) (base : Heap) (ct : CT) (k : Nat) (x : Str) (dvs : List V) (n : Nat) (g : FD) (kwb : KWB := []) : Prop :=
  ∃ (C f : Addr) (fd : FuncData) (ps : List Str), mg x = some (.ref C) ∧ ct x = some C ∧ Mk K C f ∧ ((∀ j, j ≤ dvs.length → ∃ ds, Vals (dvs.drop j) ds ∧ Binds K fd ps ds) ∧ KwOk K fd ps 1 kwb) ∧ FnG P w K mg base k f fd ps (spD K ct n g)
section
variable {P : Program} {w : World} {K : PySem.W.Frag} {mg : Str → Option Value} {base : Heap} {ct : CT} {C : Addr}
theorem initer_of {c qual : Str} {st : Stmt} {N ps : List Str} {k : Nat} {g : FS} {dvs : List V} {kwb : KWB} (kc : Klass K ct c C) (hm : mg c = some (.ref C)) (d : InitAt K C qual st ps dvs kwb) (S : FnScope N ps (defScope st))
    (hbody : ∀ (f : Addr) (cdv : Value) (A : Around) (outer : List Env) (s : Shared) (H : Hp) (E : XK), RoomG k (A.deeper (envOfC qual (defScope st) s.heap.objs.size f cdv)) →
      SSs ct (cxOf CX0 P w K mg base N qual (defScope st) f cdv A outer s H E).nox (defBody st) g) : Initer P w K mg base ct (k + 1) c dvs ps.length (runD N.length g) kwb := by
  obtain ⟨f, fd, F, h1, h3⟩ := d
  exact ⟨C, f, fd, ps, hm, kc.at_, h1, h3, def_okD F S (hbody f)⟩
theorem maker_of {x : Str} {dvs : List V} {n k : Nat} {g : FD} {dds : List D} {kwb : KWB} (I : Initer P w K mg base ct k x dvs n g kwb) (j : Nat) (hj : j ≤ dvs.length) (hr : ∀ m F, Reps K ct m F dds (dvs.drop j)) : Maker P w K mg base ct (k + 1) x dds n g := by
  obtain ⟨C, f, fd, ps, h1, h2, h3, h4, h5⟩ := I
  obtain ⟨ds, h6, h7⟩ := h4.1 j hj
  exact ⟨k, Nat.le_refl _, C, f, fd, ps, ds, dvs.drop j, h1, h2, h3, h7, h6, hr, h5⟩
end
end DL
namespace DL
open PySem PySem.Spec PyProof.Rows L2
def MkSpec (c : Str) (fs : List Str) (g : FD) (g' : List D → Option (List D)) : Prop :=
  ∀ (S : Sto) (args vals : List D), g' args = some vals → g (.ref S.length :: args) (S ++ [.ins c [] []]) = some (.non, S ++ [.ins c fs vals]) ∧ noRefs vals = true
def fMakeF (c : Str) (fs : List Str) (g' : List D → Option (List D)) (dds : List D) (fas : FA) : FE := fun env S => (fas env S).bind fun p => (g' (p.1 ++ dds)).map fun vals => (.obj c fs vals, p.2)
def MakerF (P : Program) (w : World) (K : PySem.W.Frag) (mg : Str → Option Value) (base : Heap) (ct : CT) (k : Nat) (x : Str) (fs : List Str) (dds : List D) (n : Nat) (g' : List D → Option (List D)) : Prop :=
  ∃ g, Maker P w K mg base ct k x dds n g ∧ MkSpec x fs g g'
theorem MakerF.mono {P : Program} {w : World} {K : PySem.W.Frag} {mg : Str → Option Value} {base : Heap} {ct : CT} {j k n : Nat} {x : Str} {fs : List Str} {dds : List D} {g : List D → Option (List D)} (c : MakerF P w K mg base ct j x fs dds n g) (h : j ≤ k) : MakerF P w K mg base ct k x fs dds n g := by
  obtain ⟨g0, h1, h2⟩ := c
  exact ⟨g0, h1.mono h, h2⟩
theorem se_mkF {ct : CT} {X : Cx} {k n : Nat} {x : Str} {fs : List Str} {dds : List D} {g' : List D → Option (List D)} {np pos : Pos} {e : Expr} {es : List Expr} {fas : FA} (M : MakerF X.prog X.w X.K X.mg X.base ct k x fs dds (n + dds.length + 1) g') (hr : RoomG k X.A) (hg : Gl X x) (ha : SA ct X (e :: es) fas) (hn : ∀ env S ds S', fas env S = some (ds, S') → ds.length = n) (hdb : (x == ("__debug__" : Str)) = false := by decide)
    (he : starEach (e :: es) X.env = (false, eval e X.env) :: starEach es X.env := by rfl) (hpl : (backTo pos (starEach es X.env)).any (·.1) = false := by rfl) : SE ct X (.Call (.Name x np) (e :: es) [] pos) (fMakeF x fs g' dds fas) := by
  obtain ⟨g, ⟨j, hj, M⟩, spec⟩ := M
  have hr := hr.mono hj
  obtain ⟨C, f, fd, ps, dl, dvs, hm, hct, mk, bi, hd, hdr, fn⟩ := M
  obtain ⟨tb, pb, rb⟩ := ha
  refine ⟨_, pe_makeG (E := fun _ _ _ => False) mk fn hr hg hm bi hd pb hdb he hpl, fun m F S σ H env d S' Q s en h p => ?_⟩
  obtain ⟨⟨xs, S1⟩, h1, h⟩ := bind_some h
  obtain ⟨vals, hv, h⟩ := map_some h
  cases h
  obtain ⟨h2, hnr⟩ := spec S1 _ vals hv
  refine rb m F S σ H env xs S1 _ s en h1 fun m1 F1 us H1 x1 s1 r1 q dx hq hdx hne => ?_
  have hnm : dx ∉ m1 := fun hmem => by
    obtain ⟨o, ho⟩ := s1.there hmem
    rw [ho] at hdx
    cases hdx
  have hnf : F1 dx = none := by
    cases e : F1 dx with
    | none => rfl
    | some o =>
      have := s1.same _ _ e
      rw [hdx] at this
      cases this
  have s2 := s1.hidden hnm hnf (.own q)
  have x2 := (Ext.refl m1 F1 H1).put hdx (.own q)
  have hq2 : upd H1 dx (.own q) q = none := by
    rw [upd_ne (fun e => hne e.symm)]
    exact hq
  obtain ⟨s3, x3⟩ := s2.fresh hq2 (o := .ins C dx []) (c := .ins x [] []) ⟨C, dx, [], rfl, hct, rfl, rfl⟩
  have hl : (m1 ++ [q])[S1.length]? = some q := by rw [← s1.len]; simp
  have rr : Reps X.K ct (m1 ++ [q]) F1 (.ref S1.length :: (xs ++ dds)) (.ref q :: (us ++ dvs)) := ⟨.ref q, us ++ dvs, rfl, ⟨q, hl, rfl⟩, ((r1.mono x2).mono x3).append (hdr _ _)⟩
  refine ⟨?_, m1 ++ [q], F1, S1 ++ [.ins x [] []], .ref S1.length :: (xs ++ dds), .non, _, s3, rr, h2, fun m' F' v H' x' s' r' => ⟨r', ?_⟩⟩
  · rw [← rr.length, List.length_cons, List.length_append, hn _ _ _ _ h1]
  · have xx : Ext m1 F1 H1 m' F' H' := (x2.trans x3).trans x'
    obtain ⟨s4, x4⟩ := drop_sim (Old.refl S1) s1 xx s'
    have q1 : m'[S1.length]? = some q := x'.pre _ _ hl
    have hL : (S1 ++ [Cell.ins x fs vals])[S1.length]? = some (.ins x fs vals) := by simp
    obtain ⟨C', dx', vs', c1, c2, c3, c4⟩ := s'.cell _ q _ q1 hL
    rw [hct] at c2
    cases c2
    have mL : q ∈ m' := List.mem_iff_getElem?.mpr ⟨_, q1⟩
    have fL : F' q = none := s'.off q mL
    have nL : q ∉ m'.take S1.length := fun hm => by
      obtain ⟨i, hi⟩ := List.mem_iff_getElem?.mp hm
      have hil : i < S1.length := by
        have := (List.getElem?_eq_some_iff.mp hi).1
        rw [List.length_take] at this
        omega
      rw [List.getElem?_take_of_lt hil] at hi
      have := nodup_inj s'.nd hi q1
      omega
    exact p _ (upd F' q (.ins C dx' (fs.zip vs'))) (.ref q) H' (x1.trans (x4.freeze hq fL _)) (s4.freeze nL fL c1) ⟨q, C, dx', vs', rfl, hct, upd_same, c3, Reps.mono' (fun _ _ q => q) (same_upd fL _) _ _ (Reps.noref _ _ hnr c4)⟩
theorem makerF_of {P : Program} {w : World} {K : PySem.W.Frag} {mg : Str → Option Value} {base : Heap} {ct : CT} {k n : Nat} {x : Str} {fs : List Str} {dds : List D} {g : FD} {g' : List D → Option (List D)} (M : Maker P w K mg base ct k x dds n g) (h : MkSpec x fs g g') : MakerF P w K mg base ct k x fs dds n g' := ⟨g, M, h⟩
end DL
namespace DL
open PySem PySem.Spec PyProof.Rows L2
section
variable {α β : Type} {env : DEnv} {S S1 : Sto} {f1 f2 : FS} {t u : FT} {f fa fb fc fo fe fv fk fx : FE} {fas : FA} {P : D → Sto → Prop} {PA : List D → Sto → Prop} {PT : Bool → Sto → Prop} {PS : Fl → Sto → Prop} {PG : DEnv → Sto → Prop}
theorem R_some {a : α} {P : α → Sto → Prop} : R (some (a, S)) P ↔ P a S := ⟨fun ⟨_, _, e, p⟩ => by cases e; exact p, fun p => ⟨_, _, rfl, p⟩⟩
theorem R_none {P : α → Sto → Prop} : R (none : Option (α × Sto)) P ↔ False := ⟨fun ⟨_, _, e, _⟩ => (by cases e), False.elim⟩
theorem R_bind {o : Option (α × Sto)} {k : α × Sto → Option (β × Sto)} {P : β → Sto → Prop} : R (o.bind k) P ↔ R o fun a S => R (k (a, S)) P := by
  cases o with
  | none => simp only [Option.bind_none, R_none]
  | some a => obtain ⟨a, S'⟩ := a; simp only [Option.bind_some, R_some]
theorem R_ite {c : Prop} [Decidable c] {x y : Option (α × Sto)} {P : α → Sto → Prop} : R (if c then x else y) P ↔ if c then R x P else R y P := by
  split <;> exact Iff.rfl
theorem R_cond {c : Prop} [Decidable c] {a : α} {P : α → Sto → Prop} : R (if c then some (a, S) else none) P ↔ c ∧ P a S := by
  by_cases h : c
  · rw [if_pos h, R_some]; exact ⟨fun p => ⟨h, p⟩, fun p => p.2⟩
  · rw [if_neg h, R_none]; exact ⟨False.elim, fun p => h p.1⟩
/-- by the kind of a value -/
def WB : D → (Bool → Prop) → Prop
  | .bl b, P => P b
  | _, _ => False
def WI : D → (Int → Prop) → Prop
  | .int b, P => P b
  | _, _ => False
def WStr : D → (Str → Prop) → Prop
  | .str b, P => P b
  | _, _ => False
def WTup : D → (List D → Prop) → Prop
  | .tup b, P => P b
  | _, _ => False
def WLst : D → (List D → Prop) → Prop
  | .lst b, P => P b
  | _, _ => False
def WRef : D → (Nat → Prop) → Prop
  | .ref b, P => P b
  | _, _ => False
theorem wb_bl {b : Bool} {P : Bool → Prop} : WB (.bl b) P ↔ P b := Iff.rfl
theorem wi_int {b : Int} {P : Int → Prop} : WI (.int b) P ↔ P b := Iff.rfl
theorem wstr_str {b : Str} {P : Str → Prop} : WStr (.str b) P ↔ P b := Iff.rfl
theorem wtup_tup {b : List D} {P : List D → Prop} : WTup (.tup b) P ↔ P b := Iff.rfl
theorem wlst_lst {b : List D} {P : List D → Prop} : WLst (.lst b) P ↔ P b := Iff.rfl
theorem wref_ref {b : Nat} {P : Nat → Prop} : WRef (.ref b) P ↔ P b := Iff.rfl
theorem wp_var0 {d : D} {r : DEnv} : R (fVar 0 (some d :: r) S) P ↔ P d S := R_some
theorem wp_varS {n : Nat} {x : Option D} {r : DEnv} : R (fVar (n + 1) (x :: r) S) P ↔ R (fVar n r S) P := by
  unfold fVar
  rw [List.getElem?_cons_succ]
theorem wp_C {d : D} : R (fC d env S) P ↔ P d S := R_some
theorem wp_Bin {g : D → D → Sto → Option (D × Sto)} : R (fBin g fa fb env S) P ↔ R (fa env S) fun x S1 => R (fb env S1) fun y S2 => R (g x y S2) P := by unfold fBin; simp only [R_bind]
theorem wp_neg : R (fUn gNeg fa env S) P ↔ R (fa env S) fun x S1 => WI x fun i => P (.int (-i)) S1 := by
  unfold fUn
  simp only [R_bind]
  refine ⟨fun ⟨d, S1, e, q⟩ => ⟨d, S1, e, ?_⟩, fun ⟨d, S1, e, q⟩ => ⟨d, S1, e, ?_⟩⟩
  · cases d <;> first | exact (R_none.mp q).elim | exact R_some.mp q
  · cases d <;> first | exact q.elim | exact R_some.mpr q
theorem wp_nil : R (fNil env S) PA ↔ PA [] S := R_some
theorem wp_cons : R (fCons f fas env S) PA ↔ R (f env S) fun d S1 => R (fas env S1) fun ds S2 => PA (d :: ds) S2 := by unfold fCons; simp only [R_bind, R_some]
theorem wp_tup : R (fTup fas env S) P ↔ R (fas env S) fun ds S1 => ds.length ≤ 1000 ∧ P (.tup ds) S1 := by unfold fTup; simp only [R_bind, R_cond]
theorem wp_lst : R (fLst fas env S) P ↔ R (fas env S) fun ds S1 => ds.length ≤ 1000 ∧ P (.lst ds) S1 := by unfold fLst; simp only [R_bind, R_cond]
theorem wp_lstM : R (fLstM fas env S) P ↔ R (fas env S) fun ds S1 => ds.length ≤ 1000 ∧ P (.ref S1.length) (S1 ++ [.lst ds]) := by unfold fLstM; simp only [R_bind, R_cond]
theorem wp_Call {g : FD} : R (fCall g fas env S) P ↔ R (fas env S) fun ds S1 => R (g ds S1) P := by unfold fCall; simp only [R_bind]
theorem wp_And : R (fAnd fa fb env S) P ↔ R (fa env S) fun d S1 => WB d fun b => if b = true then R (fb env S1) P else P (.bl false) S1 := by
  unfold fAnd
  simp only [R_bind]
  refine ⟨fun ⟨d, S1, e, q⟩ => ⟨d, S1, e, ?_⟩, fun ⟨d, S1, e, q⟩ => ⟨d, S1, e, ?_⟩⟩
  · cases d <;> first | exact (R_none.mp q).elim | skip
    rename_i b
    cases b
    · exact R_some.mp q
    · exact q
  · cases d <;> first | exact q.elim | skip
    rename_i b
    cases b
    · exact R_some.mpr q
    · exact q
theorem wp_Or : R (fOr fa fb env S) P ↔ R (fa env S) fun d S1 => WB d fun b => if b = true then P (.bl true) S1 else R (fb env S1) P := by
  unfold fOr
  simp only [R_bind]
  refine ⟨fun ⟨d, S1, e, q⟩ => ⟨d, S1, e, ?_⟩, fun ⟨d, S1, e, q⟩ => ⟨d, S1, e, ?_⟩⟩
  · cases d <;> first | exact (R_none.mp q).elim | skip
    rename_i b
    cases b
    · exact q
    · exact R_some.mp q
  · cases d <;> first | exact q.elim | skip
    rename_i b
    cases b
    · exact q
    · exact R_some.mpr q
theorem wp_Not : R (fNot fa env S) P ↔ R (fa env S) fun d S1 => WB d fun b => P (.bl (!b)) S1 := by
  unfold fNot
  simp only [R_bind]
  refine ⟨fun ⟨d, S1, e, q⟩ => ⟨d, S1, e, ?_⟩, fun ⟨d, S1, e, q⟩ => ⟨d, S1, e, ?_⟩⟩
  · cases d <;> first | exact (R_none.mp q).elim | exact R_some.mp q
  · cases d <;> first | exact q.elim | exact R_some.mpr q
theorem wp_Test : R (fTest f env S) PT ↔ R (f env S) fun d S1 => WB d fun b => PT b S1 := by
  unfold fTest
  simp only [R_bind]
  refine ⟨fun ⟨d, S1, e, q⟩ => ⟨d, S1, e, ?_⟩, fun ⟨d, S1, e, q⟩ => ⟨d, S1, e, ?_⟩⟩
  · cases d <;> first | exact (R_none.mp q).elim | exact R_some.mp q
  · cases d <;> first | exact q.elim | exact R_some.mpr q
theorem wp_tAnd : R (tAndD t u env S) PT ↔ R (t env S) fun b S1 => if b = true then R (u env S1) PT else PT false S1 := by unfold tAndD; simp only [R_bind, R_ite, R_some]
theorem wp_tOr : R (tOrD t u env S) PT ↔ R (t env S) fun b S1 => if b = true then PT true S1 else R (u env S1) PT := by unfold tOrD; simp only [R_bind, R_ite, R_some]
theorem wp_tNot : R (tNotD t env S) PT ↔ R (t env S) fun b S1 => PT (!b) S1 := by unfold tNotD; simp only [R_bind, R_some]
theorem wp_If : R (fIf t fa fb env S) P ↔ R (t env S) fun b S1 => if b = true then R (fa env S1) P else R (fb env S1) P := by unfold fIf; simp only [R_bind, R_ite]
theorem wp_Chain {g g' : D → D → Sto → Option (D × Sto)} : R (fChain g g' fa fb fc env S) P ↔ R (fa env S) fun x S1 => R (fb env S1) fun y S2 => R (g x y S2) fun z S3 => WB z fun b => if b = true then R (fc env S3) fun w S4 => R (g' y w S4) P else P (.bl false) S3 := by
  unfold fChain
  simp only [R_bind]
  refine ⟨fun ⟨x, S1, e, y, S2, e2, z, S3, e3, q⟩ => ⟨x, S1, e, y, S2, e2, z, S3, e3, ?_⟩, fun ⟨x, S1, e, y, S2, e2, z, S3, e3, q⟩ => ⟨x, S1, e, y, S2, e2, z, S3, e3, ?_⟩⟩
  · cases z <;> first | exact (R_none.mp q).elim | skip
    rename_i b
    cases b
    · exact R_some.mp q
    · exact R_bind.mp q
  · cases z <;> first | exact q.elim | skip
    rename_i b
    cases b
    · exact R_some.mpr q
    · exact R_bind.mpr q
theorem wp_Skip : R (sSkip env S) PS ↔ PS (.nx env) S := R_some
theorem wp_Break : R (sBreak env S) PS ↔ PS (.bk env) S := R_some
theorem wp_Cont : R (sCont env S) PS ↔ PS (.ct env) S := R_some
theorem wp_Never : R (sNever env S) PS ↔ False := R_none
theorem wp_fNever : R (fNever env S) P ↔ False := R_none
theorem wp_Seq : R (sSeq f1 f2 env S) PS ↔ R (f1 env S) (PFl PS f2) := by
  refine ⟨fun ⟨a, S', e, p⟩ => ?_, r_seq⟩
  unfold sSeq at e
  obtain ⟨⟨fl, S1⟩, h1, h⟩ := bind_some e
  refine ⟨fl, S1, h1, ?_⟩
  cases fl <;> first | exact ⟨_, _, h, p⟩ | (cases h; exact p)
theorem wp_pfl_nx {e : DEnv} : PFl PS f2 (.nx e) S ↔ R (f2 e S) PS := Iff.rfl
theorem wp_pfl_rt {d : D} : PFl PS f2 (.rt d) S ↔ PS (.rt d) S := Iff.rfl
theorem wp_pfl_bk {e : DEnv} : PFl PS f2 (.bk e) S ↔ PS (.bk e) S := Iff.rfl
theorem wp_pfl_ct {e : DEnv} : PFl PS f2 (.ct e) S ↔ PS (.ct e) S := Iff.rfl
theorem wp_Expr : R (sExpr f env S) PS ↔ R (f env S) fun _ S1 => PS (.nx env) S1 := by unfold sExpr; simp only [R_bind, R_some]
theorem wp_Ret : R (sRet f env S) PS ↔ R (f env S) fun d S1 => PS (.rt d) S1 := by unfold sRet; simp only [R_bind, R_some]
theorem wp_sIf : R (sIf t f1 f2 env S) PS ↔ R (t env S) fun b S1 => if b = true then R (f1 env S1) PS else R (f2 env S1) PS := by unfold sIf; simp only [R_bind, R_ite]
theorem R_map {o : Option (α × Sto)} {k : α × Sto → β × Sto} {P : β → Sto → Prop} : R (o.map k) P ↔ R o fun a S => P (k (a, S)).1 (k (a, S)).2 := by
  cases o with
  | none => simp only [Option.map_none, R_none]
  | some a => obtain ⟨a, S'⟩ := a; simp only [Option.map_some]; rw [R_some (P := fun a S => P (k (a, S)).1 (k (a, S)).2)]; exact R_some
theorem wp_Asg {g : FG} : R (sAsg f g env S) PS ↔ R (f env S) fun d S1 => R (g d env S1) fun e S2 => PS (.nx e) S2 := by unfold sAsg; simp only [R_bind, R_map]
theorem wp_N {i : Nat} {d : D} : R (gN i d env S) PG ↔ PG (env.set i (some d)) S := R_some
theorem wp_gNil : R (gNil [] env S) PG ↔ PG env S := R_some
theorem wp_gCons {g : FG} {gs : FGs} {d : D} {ds : List D} : R (gCons g gs (d :: ds) env S) PG ↔ R (g d env S) fun e S1 => R (gs ds e S1) PG := R_bind
theorem wp_gTup {n : Nat} {gs : FGs} {ds : List D} : R (gTup n gs (.tup ds) env S) PG ↔ ds.length = n ∧ R (gs ds env S) PG := by
  show R (if ds.length = n then gs ds env S else none) PG ↔ _
  by_cases h : ds.length = n
  · rw [if_pos h]; exact ⟨fun p => ⟨h, p⟩, fun p => p.2⟩
  · rw [if_neg h, R_none]; exact ⟨False.elim, fun p => h p.1⟩
/-- o[i] = v -/
def RU (o : Option Sto) (Q : Sto → Prop) : Prop := ∃ S, o = some S ∧ Q S
theorem wp_gSub {g : D → D → D → Sto → Option Sto} {d : D} : R (gSub g fa fb d env S) PG ↔ R (fa env S) fun x S1 => R (fb env S1) fun y S2 => RU (g x y d S2) (PG env) := by
  unfold gSub
  simp only [R_bind]
  refine ⟨fun ⟨x, S1, e, y, S2, e2, q⟩ => ⟨x, S1, e, y, S2, e2, ?_⟩, fun ⟨x, S1, e, y, S2, e2, q⟩ => ⟨x, S1, e, y, S2, e2, ?_⟩⟩
  · obtain ⟨a, S3, e3, p⟩ := q
    obtain ⟨S4, h1, h2⟩ := map_some e3
    cases h2
    exact ⟨_, h1, p⟩
  · obtain ⟨S3, e3, p⟩ := q
    exact ⟨_, _, by rw [e3]; rfl, p⟩
theorem wp_Par {i j : Nat} : R (sPar i j fas env S) PS ↔ R (fas env S) fun ds S1 => ∃ v w, ds = [v, w] ∧ PS (.nx ((env.set i (some v)).set j (some w))) S1 := by
  refine ⟨fun h => ?_, r_par⟩
  unfold sPar at h
  rw [R_bind] at h
  obtain ⟨ds, S1, e, q⟩ := h
  refine ⟨ds, S1, e, ?_⟩
  match ds, q with
  | [v, w], q => exact ⟨v, w, rfl, R_some.mp q⟩
  | [], q => exact (R_none.mp q).elim
  | [_], q => exact (R_none.mp q).elim
  | _ :: _ :: _ :: _, q => exact (R_none.mp q).elim
theorem wp_two {v w : D} {Q : D → D → Prop} : (∃ a b, [v, w] = [a, b] ∧ Q a b) ↔ Q v w := ⟨fun ⟨a, b, e, q⟩ => by cases e; exact q, fun q => ⟨v, w, rfl, q⟩⟩
theorem wp_Run {n : Nat} {g : FS} {ds : List D} : R (runD n g ds S) P ↔ R (g (ds.map some ++ List.replicate (n - ds.length) none) S) (PRun P) := by
  unfold runD
  simp only [R_bind]
  refine ⟨fun ⟨x, S1, e, q⟩ => ⟨x, S1, e, ?_⟩, fun ⟨x, S1, e, q⟩ => ⟨x, S1, e, ?_⟩⟩
  · cases x <;> first | exact (R_some (P := P)).mp q | exact (R_none (P := P)).mp q
  · cases x <;> first | exact (R_some (P := P)).mpr q | exact (R_none (P := P)).mpr q
theorem wp_run_rt {d : D} : PRun P (.rt d) S ↔ P d S := Iff.rfl
theorem wp_run_nx {e : DEnv} : PRun P (.nx e) S ↔ P .non S := Iff.rfl
theorem wp_bk_nx {I : DEnv → Sto → Prop} {e : DEnv} : PBk I PS (.nx e) S ↔ I e S := Iff.rfl
theorem wp_bk_ct {I : DEnv → Sto → Prop} {e : DEnv} : PBk I PS (.ct e) S ↔ I e S := Iff.rfl
theorem wp_bk_bk {I : DEnv → Sto → Prop} {e : DEnv} : PBk I PS (.bk e) S ↔ PS (.nx e) S := Iff.rfl
theorem wp_bk_rt {I : DEnv → Sto → Prop} {d : D} : PBk I PS (.rt d) S ↔ PS (.rt d) S := Iff.rfl
theorem wp_For {fi : FA} {g : FG} : R (sFor fi g f1 env S) PS ↔ R (fi env S) fun xs S1 => R (forD g f1 xs env S1) PS := by unfold sFor; simp only [R_bind]
theorem wp_iLst : R (iLst f env S) PA ↔ R (f env S) fun d S1 => WLst d fun ds => PA ds S1 := by
  unfold iLst
  simp only [R_bind]
  refine ⟨fun ⟨d, S1, e, q⟩ => ⟨d, S1, e, ?_⟩, fun ⟨d, S1, e, q⟩ => ⟨d, S1, e, ?_⟩⟩
  · cases d <;> first | exact (R_none.mp q).elim | exact R_some.mp q
  · cases d <;> first | exact q.elim | exact R_some.mpr q
theorem wp_iTup : R (iTup f env S) PA ↔ R (f env S) fun d S1 => WTup d fun ds => PA ds S1 := by
  unfold iTup
  simp only [R_bind]
  refine ⟨fun ⟨d, S1, e, q⟩ => ⟨d, S1, e, ?_⟩, fun ⟨d, S1, e, q⟩ => ⟨d, S1, e, ?_⟩⟩
  · cases d <;> first | exact (R_none.mp q).elim | exact R_some.mp q
  · cases d <;> first | exact q.elim | exact R_some.mpr q
theorem wp_iR1 : R (iRange1 fas env S) PA ↔ R (fas env S) fun ds S1 => ∃ j, ds = [.int j] ∧ okR j = true ∧ PA (rangeD 0 j) S1 := by
  unfold iRange1
  simp only [R_bind]
  refine ⟨fun ⟨d, S1, e, q⟩ => ⟨d, S1, e, ?_⟩, fun ⟨d, S1, e, q⟩ => ⟨d, S1, e, ?_⟩⟩
  · dsimp only at q
    split at q
    · rename_i j
      rw [R_cond] at q
      exact ⟨j, rfl, q.1, q.2⟩
    · exact (R_none.mp q).elim
  · obtain ⟨j, rfl, h1, h2⟩ := q
    exact R_cond.mpr ⟨h1, h2⟩
theorem wp_iR2 : R (iRange2 fas env S) PA ↔ R (fas env S) fun ds S1 => ∃ i j, ds = [.int i, .int j] ∧ (okR i = true ∧ okR j = true) ∧ PA (rangeD i j) S1 := by
  unfold iRange2
  simp only [R_bind]
  refine ⟨fun ⟨d, S1, e, q⟩ => ⟨d, S1, e, ?_⟩, fun ⟨d, S1, e, q⟩ => ⟨d, S1, e, ?_⟩⟩
  · dsimp only at q
    split at q
    · rename_i i j
      rw [R_cond] at q
      exact ⟨i, j, rfl, q.1, q.2⟩
    · exact (R_none.mp q).elim
  · obtain ⟨i, j, rfl, h1, h2⟩ := q
    exact R_cond.mpr ⟨h1, h2⟩
theorem wp_r1 {i : Int} {Q : Int → Prop} : (∃ j, [D.int i] = [D.int j] ∧ Q j) ↔ Q i := ⟨fun ⟨a, e, q⟩ => by cases e; exact q, fun q => ⟨i, rfl, q⟩⟩
theorem wp_r2 {i j : Int} {Q : Int → Int → Prop} : (∃ a b, [D.int i, D.int j] = [D.int a, D.int b] ∧ Q a b) ↔ Q i j := ⟨fun ⟨a, b, e, q⟩ => by cases e; exact q, fun q => ⟨i, j, rfl, q⟩⟩
theorem wp_add {i j : Int} : R (gAdd (.int i) (.int j) S) P ↔ P (.int (i + j)) S := R_some
theorem wp_addL {a b : List D} : R (gAdd (.lst a) (.lst b) S) P ↔ a.length + b.length ≤ 16777216 ∧ P (.lst (a ++ b)) S := R_cond
theorem wp_addS {a b : Str} : R (gAdd (.str a) (.str b) S) P ↔ a.length + b.length ≤ 16777216 ∧ P (.str (a ++ b)) S := R_cond
theorem wp_I0 {k : Int → Int → D} {i j : Int} : R (gI0 k (.int i) (.int j) S) P ↔ P (k i j) S := R_some
theorem wp_mul {i j : Int} : R (gI (fun i j => smallI i && smallI j) (fun i j => .int (i * j)) (.int i) (.int j) S) P ↔ (smallI i = true ∧ smallI j = true) ∧ P (.int (i * j)) S := by
  rw [← Bool.and_eq_true]
  exact R_cond
def lgI (j : Int) : Prop := j.natAbs.log2 < 9000
theorem wp_fdiv {i j : Int} : R (gI (fun _ j => decide (0 < j) && decide (j.natAbs.log2 < 9000)) (fun i j => .int (i / j)) (.int i) (.int j) S) P ↔ (0 < j ∧ lgI j) ∧ P (.int (i / j)) S := by
  have e : ((decide (0 < j) && decide (j.natAbs.log2 < 9000)) = true) ↔ (0 < j ∧ lgI j) := by simp [lgI]
  rw [← e]
  exact R_cond
theorem wp_mod {i j : Int} : R (gI (fun _ j => decide (0 < j)) (fun i j => .int (i % j)) (.int i) (.int j) S) P ↔ 0 < j ∧ P (.int (i % j)) S := by
  have e : (decide (0 < j) = true) ↔ 0 < j := by simp
  rw [← e]
  exact R_cond
theorem wp_eqI {i j : Int} : R (gEq (.int i) (.int j) S) P ↔ P (.bl (decide (i = j))) S := R_some
theorem wp_eqS {i j : Str} : R (gEq (.str i) (.str j) S) P ↔ P (.bl (decide (i = j))) S := R_some
theorem wp_eqB {i j : Bool} : R (gEq (.bl i) (.bl j) S) P ↔ P (.bl (decide (i = j))) S := R_some
theorem wp_neI {i j : Int} : R (gNe (.int i) (.int j) S) P ↔ P (.bl (!decide (i = j))) S := R_some
theorem wp_neS {i j : Str} : R (gNe (.str i) (.str j) S) P ↔ P (.bl (!decide (i = j))) S := R_some
theorem wp_neB {i j : Bool} : R (gNe (.bl i) (.bl j) S) P ↔ P (.bl (!decide (i = j))) S := R_some
theorem wp_isN {x : D} : R (gIsN x .non S) P ↔ P (.bl (isNonD x)) S := by cases x <;> exact R_some
theorem wp_notN {x : D} : R (gNotN x .non S) P ↔ P (.bl (!isNonD x)) S := by cases x <;> exact R_some
theorem isn_int {i : Int} : isNonD (.int i) = false := rfl
theorem isn_non : isNonD .non = true := rfl
theorem isn_str {i : Str} : isNonD (.str i) = false := rfl
theorem isn_tup {i : List D} : isNonD (.tup i) = false := rfl
theorem isn_lst {i : List D} : isNonD (.lst i) = false := rfl
theorem isn_ref {i : Nat} : isNonD (.ref i) = false := rfl
theorem isn_bl {i : Bool} : isNonD (.bl i) = false := rfl
theorem wp_isi {T : String} : R (fIsi T f env S) P ↔ R (f env S) fun d S1 => ∃ b, isiT T d = some b ∧ P (.bl b) S1 := by
  unfold fIsi
  simp only [R_bind]
  refine ⟨fun ⟨d, S1, e, q⟩ => ⟨d, S1, e, ?_⟩, fun ⟨d, S1, e, q⟩ => ⟨d, S1, e, ?_⟩⟩
  · obtain ⟨a, S3, e3, p⟩ := q
    obtain ⟨b, h1, h2⟩ := map_some e3
    cases h2
    exact ⟨b, h1, p⟩
  · obtain ⟨b, e3, p⟩ := q
    exact ⟨_, _, by rw [e3]; rfl, p⟩
theorem wp_someB {b : Bool} {Q : Bool → Prop} : (∃ c, some b = some c ∧ Q c) ↔ Q b := ⟨fun ⟨a, e, q⟩ => by cases e; exact q, fun q => ⟨b, rfl, q⟩⟩
theorem isi_str_str {k : Str} : isiT "str" (.str k) = some true := rfl
theorem isi_int_int {k : Int} : isiT "int" (.int k) = some true := rfl
theorem isi_int_bl {k : Bool} : isiT "int" (.bl k) = some true := rfl
theorem isi_bool_int {k : Int} : isiT "bool" (.int k) = some false := rfl
theorem isi_bool_bl {k : Bool} : isiT "bool" (.bl k) = some true := rfl
theorem isi_int_non : isiT "int" .non = some false := rfl
theorem isi_int_str {k : Str} : isiT "int" (.str k) = some false := rfl
theorem isi_tuple_tup {k : List D} : isiT "tuple" (.tup k) = some true := rfl
theorem wp_abs {i : Int} : R (cAbs [.int i] S) P ↔ P (.int (if i < 0 then -i else i)) S := R_some
theorem wp_max2 {i j : Int} : R (cMax2 [.int i, .int j] S) P ↔ P (.int (if j > i then j else i)) S := R_some
theorem wp_min2 {i j : Int} : R (cMin2 [.int i, .int j] S) P ↔ P (.int (if j < i then j else i)) S := R_some
theorem wp_maxT {i j : Int} : R (cMaxT [.tup [.int i, .int j]] S) P ↔ P (.int (if j > i then j else i)) S := R_some
theorem wp_intI {i : Int} : R (cInt [.int i] S) P ↔ P (.int i) S := R_some
theorem wp_intB {i : Bool} : R (cInt [.bl i] S) P ↔ P (.int (if i then 1 else 0)) S := R_some
theorem wp_lenS {x : Str} : R (cLen [.str x] S) P ↔ x.length ≤ 16777216 ∧ P (.int x.length) S := R_cond
theorem wp_lenT {x : List D} : R (cLen [.tup x] S) P ↔ P (.int x.length) S := R_some
theorem wp_lenL {x : List D} : R (cLen [.lst x] S) P ↔ P (.int x.length) S := R_some
theorem wp_lenC {x : List Int} : R (cLen [.scr x] S) P ↔ P (.int x.length) S := R_some
theorem wp_divmod {i j : Int} : R (cDivmod [.int i, .int j] S) P ↔ (0 < j ∧ lgI j) ∧ P (.tup [.int (i / j), .int (i % j)]) S := R_cond
theorem wp_listL {x : List D} : R (cList [.lst x] S) P ↔ P (.lst x) S := R_some
theorem wp_listT {x : List D} : R (cList [.tup x] S) P ↔ P (.lst x) S := R_some
theorem wp_tupL {x : List D} : R (cTuple [.lst x] S) P ↔ P (.tup x) S := R_some
theorem wp_tupT {x : List D} : R (cTuple [.tup x] S) P ↔ P (.tup x) S := R_some
theorem wp_KIn {neg : Bool} {tab : List (Str × Int)} : R (fKIn neg tab f env S) P ↔ R (f env S) fun d S1 => ∃ s, d = .str s ∧ P (.bl (if neg then !(tab.lookup s).isSome else (tab.lookup s).isSome)) S1 := by
  unfold fKIn
  simp only [R_bind]
  refine ⟨fun ⟨d, S1, e, q⟩ => ⟨d, S1, e, ?_⟩, fun ⟨d, S1, e, q⟩ => ⟨d, S1, e, ?_⟩⟩
  · cases d <;> first | exact (R_none.mp q).elim | exact ⟨_, rfl, R_some.mp q⟩
  · obtain ⟨s, rfl, q⟩ := q
    exact R_some.mpr q
theorem wp_strE {s : Str} {Q : Str → Prop} : (∃ z, D.str s = D.str z ∧ Q z) ↔ Q s := ⟨fun ⟨a, e, q⟩ => by cases e; exact q, fun q => ⟨s, rfl, q⟩⟩
theorem wp_Fld {c x : Str} : R (fFld c x f env S) P ↔ R (f env S) fun d S1 => ∃ q, insOf c d S1 = some q ∧ ∃ v, getF q.1 q.2 x = some v ∧ P v S1 := by
  unfold fFld
  simp only [R_bind]
  refine ⟨fun ⟨d, S1, e, q⟩ => ⟨d, S1, e, ?_⟩, fun ⟨d, S1, e, q⟩ => ⟨d, S1, e, ?_⟩⟩
  · obtain ⟨a, S3, e3, p⟩ := q
    obtain ⟨q1, h1, h2⟩ := bind_some e3
    obtain ⟨v, h3, h4⟩ := map_some h2
    cases h4
    exact ⟨q1, h1, _, h3, p⟩
  · obtain ⟨q1, h1, v, h3, p⟩ := q
    exact ⟨_, _, by rw [h1]; show ((getF q1.1 q1.2 x).map _) = _; rw [h3]; rfl, p⟩
theorem wp_FldO {c c' x : Str} {fs : List Str} {ds : List D} {Q : D → Prop} : (∃ q, insOf c (.obj c' fs ds) S = some q ∧ ∃ v, getF q.1 q.2 x = some v ∧ Q v) ↔ c' = c ∧ ∃ v, getF fs ds x = some v ∧ Q v := by
  show (∃ q, (if c' = c then some (fs, ds) else none) = some q ∧ _) ↔ _
  by_cases h : c' = c
  · rw [if_pos h]
    exact ⟨fun ⟨q, e, z⟩ => by cases e; exact ⟨h, z⟩, fun ⟨_, z⟩ => ⟨_, rfl, z⟩⟩
  · rw [if_neg h]
    exact ⟨fun ⟨q, e, z⟩ => (by cases e), fun ⟨z, _⟩ => absurd z h⟩
theorem wp_Meth {c x : Str} {g : FD} : R (fMeth c x g fo fas env S) P ↔ R (fo env S) fun d S1 => (∃ q, insOf c d S1 = some q ∧ hasF q.1 x = false) ∧ R (fas env S1) fun ds S2 => R (g (d :: ds) S2) P := by
  unfold fMeth
  simp only [R_bind]
  refine ⟨fun ⟨d, S1, e, q⟩ => ⟨d, S1, e, ?_⟩, fun ⟨d, S1, e, q⟩ => ⟨d, S1, e, ?_⟩⟩
  · obtain ⟨a, S3, e3, p⟩ := q
    obtain ⟨q1, h1, h2⟩ := bind_some e3
    split at h2
    · rename_i hh
      obtain ⟨⟨ds, S4⟩, h3, h4⟩ := bind_some h2
      exact ⟨⟨q1, h1, hh⟩, ds, S4, h3, a, S3, h4, p⟩
    · cases h2
  · obtain ⟨⟨q1, h1, hh⟩, ds, S4, h3, a, S3, h4, p⟩ := q
    refine ⟨a, S3, ?_, p⟩
    rw [h1]
    show (if hasF q1.1 x = false then _ else _) = _
    rw [if_pos hh, h3]
    exact h4
theorem wp_MakeF {c : Str} {fs : List Str} {g' : List D → Option (List D)} {dds : List D} : R (fMakeF c fs g' dds fas env S) P ↔ R (fas env S) fun ds S1 => ∃ vals, g' (ds ++ dds) = some vals ∧ P (.obj c fs vals) S1 := by
  unfold fMakeF
  simp only [R_bind]
  refine ⟨fun ⟨d, S1, e, q⟩ => ⟨d, S1, e, ?_⟩, fun ⟨d, S1, e, q⟩ => ⟨d, S1, e, ?_⟩⟩
  · obtain ⟨a, S3, e3, p⟩ := q
    obtain ⟨b, h1, h2⟩ := map_some e3
    cases h2
    exact ⟨b, h1, p⟩
  · obtain ⟨b, e3, p⟩ := q
    exact ⟨_, _, by rw [e3]; rfl, p⟩
theorem wp_someL {b : List D} {Q : List D → Prop} : (∃ c, some b = some c ∧ Q c) ↔ Q b := ⟨fun ⟨a, e, q⟩ => by cases e; exact q, fun q => ⟨b, rfl, q⟩⟩
end
def Bd (k : Nat) (i : Int) : Prop := i.natAbs < 2 ^ k
theorem small_bd {a : Nat} {i : Int} (h : Bd a i) (g : a ≤ 400000) (g0 : 0 < a) : smallI i = true := by
  unfold smallI
  refine decide_eq_true ?_
  by_cases e : i.natAbs = 0
  · rw [e]; decide
  · exact Nat.lt_of_lt_of_le ((Nat.log2_lt e).mpr h) g
theorem lg_bd {a : Nat} {i : Int} (h : Bd a i) (g : a ≤ 9000) : lgI i := by
  unfold lgI
  by_cases e : i.natAbs = 0
  · rw [e]; decide
  · exact Nat.lt_of_lt_of_le ((Nat.log2_lt e).mpr h) g
end DL
namespace DL
open PySem PySem.Spec PyProof.Rows L2
section
variable {α β : Type} {env : DEnv} {S S1 : Sto} {f1 f2 : FS} {t u : FT} {f fa fb fc fo fe fv fk fx : FE} {fas : FA} {P : D → Sto → Prop} {PA : List D → Sto → Prop} {PT : Bool → Sto → Prop} {PS : Fl → Sto → Prop} {PG : DEnv → Sto → Prop}
theorem wp_sFld {c x : Str} : R (sFldD c x fo fv env S) PS ↔ R (fv env S) fun v S1 => R (fo env S1) fun d S2 => ∃ i, d = .ref i ∧ ∃ c' fs ds, S2[i]? = some (.ins c' fs ds) ∧ (c' = c ∧ fs.length < 900) ∧ PS (.nx env) (S2.set i (.ins c (putN fs x) (putD fs ds x v))) := by
  unfold sFldD
  simp only [R_bind]
  refine ⟨fun ⟨v, S1, e, d, S2, e2, q⟩ => ⟨v, S1, e, d, S2, e2, ?_⟩, fun ⟨v, S1, e, d, S2, e2, q⟩ => ⟨v, S1, e, d, S2, e2, ?_⟩⟩
  · cases d with
    | ref i =>
      dsimp only at q
      split at q
      · rename_i c' fs ds hc
        rw [R_cond] at q
        exact ⟨i, rfl, c', fs, ds, hc, q.1, q.2⟩
      · exact (R_none.mp q).elim
    | _ => exact (R_none.mp q).elim
  · obtain ⟨i, rfl, c', fs, ds, h1, h2, h3⟩ := q
    dsimp only
    rw [h1]
    exact R_cond.mpr ⟨h2, h3⟩
theorem wp_last {c0 : Str} {f0 : List Str} {d0 : List D} {Q : Nat → Str → List Str → List D → Prop} : (∃ i, D.ref S.length = .ref i ∧ ∃ c' fs ds, (S ++ [Cell.ins c0 f0 d0])[i]? = some (.ins c' fs ds) ∧ Q i c' fs ds) ↔ Q S.length c0 f0 d0 := by
  have h : (S ++ [Cell.ins c0 f0 d0])[S.length]? = some (.ins c0 f0 d0) := by simp
  refine ⟨fun ⟨i, e, c', fs, ds, h1, q⟩ => ?_, fun q => ⟨_, rfl, _, _, _, h, q⟩⟩
  cases e
  rw [h] at h1
  cases h1
  exact q
theorem wp_KIx {tab : List (Str × Int)} : R (fKIx tab f env S) P ↔ R (f env S) fun d S1 => ∃ s, d = .str s ∧ ∃ v, tab.lookup s = some v ∧ P (.int v) S1 := by
  unfold fKIx
  simp only [R_bind]
  refine ⟨fun ⟨d, S1, e, q⟩ => ⟨d, S1, e, ?_⟩, fun ⟨d, S1, e, q⟩ => ⟨d, S1, e, ?_⟩⟩
  · cases d with
    | str s =>
      obtain ⟨a, S3, e3, p⟩ := q
      obtain ⟨b, h1, h2⟩ := map_some e3
      cases h2
      exact ⟨s, rfl, b, h1, p⟩
    | _ => exact (R_none.mp q).elim
  · obtain ⟨s, rfl, v, h1, p⟩ := q
    exact ⟨_, _, by show ((tab.lookup s).map _) = _; rw [h1]; rfl, p⟩
theorem wp_someX {b : α} {Q : α → Prop} : (∃ c, some b = some c ∧ Q c) ↔ Q b := ⟨fun ⟨a, e, q⟩ => by cases e; exact q, fun q => ⟨b, rfl, q⟩⟩
theorem wp_inT {neg : Bool} {k : Str} {ds : List D} : R (gInB neg (.str k) (.tup ds) S) P ↔ ds.all flatD = true ∧ P (.bl (if neg then !ds.any (fun z => eqF z (.str k)) else ds.any (fun z => eqF z (.str k)))) S := by
  show R (if flatD (.str k) = true ∧ ds.all flatD = true then _ else _) P ↔ _
  rw [R_cond]
  exact ⟨fun ⟨⟨_, h⟩, q⟩ => ⟨h, q⟩, fun ⟨h, q⟩ => ⟨⟨rfl, h⟩, q⟩⟩
theorem wp_inL {neg : Bool} {k : Str} {ds : List D} : R (gInB neg (.str k) (.lst ds) S) P ↔ ds.all flatD = true ∧ P (.bl (if neg then !ds.any (fun z => eqF z (.str k)) else ds.any (fun z => eqF z (.str k)))) S := by
  show R (if flatD (.str k) = true ∧ ds.all flatD = true then _ else _) P ↔ _
  rw [R_cond]
  exact ⟨fun ⟨⟨_, h⟩, q⟩ => ⟨h, q⟩, fun ⟨h, q⟩ => ⟨⟨rfl, h⟩, q⟩⟩
theorem wp_inS {neg : Bool} {k y : Str} : R (gInB neg (.str k) (.str y) S) P ↔ P (.bl (if neg then !(!(Builtin.Str.occurrences y k 0 y.length 1).isEmpty) else !(Builtin.Str.occurrences y k 0 y.length 1).isEmpty)) S := by
  cases neg <;> exact R_some
theorem eqF_str {a b : Str} : eqF (.str a) (.str b) = decide (a = b) := by
  by_cases h : a = b
  · subst h; simp [eqF]
  · simp [eqF, h]
theorem flat_str {a : Str} : flatD (.str a) = true := rfl
theorem flat_int {a : Int} : flatD (.int a) = true := rfl
theorem flat_non : flatD .non = true := rfl
theorem R_eq {o : Option (α × Sto)} {a : α} : (R o fun x S' => x = a ∧ S' = S) ↔ o = some (a, S) := ⟨R.eq, fun h => ⟨a, S, h, rfl, rfl⟩⟩
theorem wp_ixR {k : Nat} {i : Int} {ds : List D} (h : S[k]? = some (.lst ds)) : R (gIx (.ref k) (.int i) S) P ↔ ∃ d, L2.atI ds i = some d ∧ P d S := by
  unfold gIx
  simp only [h]
  rw [R]
  refine ⟨fun ⟨a, S', e, p⟩ => ?_, fun ⟨d, e, p⟩ => ⟨d, S, by rw [e]; rfl, p⟩⟩
  obtain ⟨d, h1, h2⟩ := map_some e
  cases h2
  exact ⟨_, h1, p⟩
theorem wp_ixL {i : Int} {ds : List D} : R (gIx (.lst ds) (.int i) S) P ↔ ∃ d, L2.atI ds i = some d ∧ P d S := by
  rw [R]
  refine ⟨fun ⟨a, S', e, p⟩ => ?_, fun ⟨d, e, p⟩ => ⟨d, S, by show (L2.atI ds i).map _ = _; rw [e]; rfl, p⟩⟩
  obtain ⟨d, h1, h2⟩ := map_some (show (L2.atI ds i).map _ = _ from e)
  cases h2
  exact ⟨_, h1, p⟩
theorem wp_ixT {i : Int} {ds : List D} : R (gIx (.tup ds) (.int i) S) P ↔ ∃ d, L2.atI ds i = some d ∧ P d S := by
  rw [R]
  refine ⟨fun ⟨a, S', e, p⟩ => ?_, fun ⟨d, e, p⟩ => ⟨d, S, by show (L2.atI ds i).map _ = _; rw [e]; rfl, p⟩⟩
  obtain ⟨d, h1, h2⟩ := map_some (show (L2.atI ds i).map _ = _ from e)
  cases h2
  exact ⟨_, h1, p⟩
theorem wp_ixC {i : Int} {ns : List Int} : R (gIx (.scr ns) (.int i) S) P ↔ ∃ d, L2.atI ns i = some d ∧ P (.int d) S := by
  rw [R]
  refine ⟨fun ⟨a, S', e, p⟩ => ?_, fun ⟨d, e, p⟩ => ⟨.int d, S, by show (L2.atI ns i).map _ = _; rw [e]; rfl, p⟩⟩
  obtain ⟨d, h1, h2⟩ := map_some (show (L2.atI ns i).map _ = _ from e)
  cases h2
  exact ⟨_, h1, p⟩
theorem wp_setR {k : Nat} {i : Int} {v : D} {ds : List D} {Q : Sto → Prop} (h : S[k]? = some (.lst ds)) : RU (gSetA (.ref k) (.int i) v S) Q ↔ ∃ j, ixN ds.length i = some j ∧ Q (S.set k (.lst (ds.set j v))) := by
  unfold gSetA
  simp only [h]
  rw [RU]
  refine ⟨fun ⟨a, e, p⟩ => ?_, fun ⟨d, e, p⟩ => ⟨_, by rw [e]; rfl, p⟩⟩
  obtain ⟨d, h1, h2⟩ := map_some e
  cases h2
  exact ⟨_, h1, p⟩
theorem atI0 {α : Type} {a : α} {r : List α} : L2.atI (a :: r) 0 = some a := by
  unfold L2.atI ixN
  rw [if_pos (by decide), if_pos (by rw [List.length_cons]; omega)]
  rfl
theorem atI1 {α : Type} {a b : α} {r : List α} : L2.atI (a :: b :: r) 1 = some b := by
  unfold L2.atI ixN
  rw [if_pos (by decide), if_pos (by rw [List.length_cons, List.length_cons]; omega)]
  rfl
theorem atI2 {α : Type} {a b c : α} {r : List α} : L2.atI (a :: b :: c :: r) 2 = some c := by
  unfold L2.atI ixN
  rw [if_pos (by decide), if_pos (by rw [List.length_cons, List.length_cons, List.length_cons]; omega)]
  rfl
theorem ixN0 {n : Nat} : ixN (n + 1) 0 = some 0 := by
  unfold ixN
  rw [if_pos (by decide), if_pos (by omega)]
  rfl
theorem ixN1 {n : Nat} : ixN (n + 1 + 1) 1 = some 1 := by
  unfold ixN
  rw [if_pos (by decide), if_pos (by omega)]
  rfl
theorem atI_in {α : Type} {xs : List α} {i : Int} (h0 : 0 ≤ i) (h1 : i < xs.length) : ∃ x, L2.atI xs i = some x ∧ x ∈ xs := by
  refine ⟨xs[i.toNat]'(by omega), ?_, List.getElem_mem _⟩
  unfold L2.atI ixN
  rw [if_pos h0, if_pos h1]
  exact List.getElem?_eq_getElem _
theorem wp_Lc {fi : FA} {g : FG} {vs : List Nat} : R (fLc fi g t f vs env S) P ↔ R (fi env S) fun xs S1 => xs.length ≤ 1000000 ∧ R (lcD g t f (wipeD env vs) xs S1) fun ds S2 => P (.lst ds) S2 := by
  unfold fLc
  simp only [R_bind]
  refine ⟨fun ⟨x, S1, e, q⟩ => ⟨x, S1, e, ?_⟩, fun ⟨x, S1, e, q⟩ => ⟨x, S1, e, ?_⟩⟩
  · dsimp only at q
    split at q
    · rename_i h
      rw [R_bind] at q
      simp only [R_some] at q
      exact ⟨h, q⟩
    · exact (R_none.mp q).elim
  · obtain ⟨h, q⟩ := q
    rw [if_pos h, R_bind]
    simp only [R_some]
    exact q
theorem wp_Yes : R (tYesD env S) PT ↔ PT true S := R_some
theorem bools_true : ∀ {ds : List D}, (∀ d ∈ ds, d = .bl true) → ∃ bs, asBools ds = some bs ∧ bs.all id = true
  | [], _ => ⟨[], rfl, rfl⟩
  | d :: ds, h => by
    obtain ⟨bs, h1, h2⟩ := bools_true (ds := ds) fun z hz => h z (by simp [hz])
    have := h d (by simp)
    subst this
    exact ⟨true :: bs, by show (asBools ds).map _ = _; rw [h1]; rfl, by simpa using h2⟩
theorem all_true {ds : List D} (h : ∀ d ∈ ds, d = .bl true) : cAll [.lst ds] S = some (.bl true, S) := by
  obtain ⟨bs, h1, h2⟩ := bools_true h
  show (asBools ds).map _ = _
  rw [h1, ← h2]
  rfl
theorem mem_range {a b : Int} {d : D} (h : d ∈ rangeD a b) : ∃ i, d = .int i ∧ a ≤ i ∧ i < b := by
  unfold rangeD at h
  obtain ⟨k, hk, rfl⟩ := List.mem_map.mp h
  have := List.mem_range.mp hk
  exact ⟨_, rfl, by omega, by omega⟩
theorem len_range {a b : Int} : (rangeD a b).length = (b - a).toNat := by simp [rangeD]
/-- the other cells are as they were -/
def Apart (S S' : Sto) (i : Nat) : Prop := S'.length = S.length ∧ ∀ j, j ≠ i → S'[j]? = S[j]?
theorem Apart.refl (S : Sto) (i : Nat) : Apart S S i := ⟨rfl, fun _ _ => rfl⟩
theorem Apart.trans {S S1 S2 : Sto} {i : Nat} (a : Apart S S1 i) (b : Apart S1 S2 i) : Apart S S2 i := ⟨b.1.trans a.1, fun j h => (b.2 j h).trans (a.2 j h)⟩
theorem Apart.set (S : Sto) (i : Nat) (c : Cell) : Apart S (S.set i c) i := ⟨by simp, fun j h => by rw [List.getElem?_set_ne (fun e => h e.symm)]⟩
theorem set_at {S : Sto} {i : Nat} {c c' : Cell} (h : S[i]? = some c) : (S.set i c')[i]? = some c' := List.getElem?_set_self (List.getElem?_eq_some_iff.mp h).1
theorem wp_pow10_9 : R (gI (fun i j => decide (0 ≤ j) && decide (j ≤ 1000000) && decide (i.natAbs < 18446744073709551616)) (fun i j => .int (i ^ j.toNat)) (.int 10) (.int 9) S) P ↔ P (.int 1000000000) S := R_some
theorem wp_pow10_18 : R (gI (fun i j => decide (0 ≤ j) && decide (j ≤ 1000000) && decide (i.natAbs < 18446744073709551616)) (fun i j => .int (i ^ j.toNat)) (.int 10) (.int 18) S) P ↔ P (.int 1000000000000000000) S := R_some
theorem wp_pow10_40 : R (gI (fun i j => decide (0 ≤ j) && decide (j ≤ 1000000) && decide (i.natAbs < 18446744073709551616)) (fun i j => .int (i ^ j.toNat)) (.int 10) (.int 40) S) P ↔ P (.int 10000000000000000000000000000000000000000) S := R_some
theorem wp_Sl {lo hi : FO} : R (fSl fa lo hi env S) P ↔ R (fa env S) fun x S1 => R (lo env S1) fun i S2 => R (hi env S2) fun j S3 => R (gSl x i j S3) P := by unfold fSl; simp only [R_bind]
theorem wp_oNone {Q : Option Int → Sto → Prop} : R (oNone env S) Q ↔ Q none S := R_some
theorem wp_oSome {Q : Option Int → Sto → Prop} : R (oSome f env S) Q ↔ R (f env S) fun d S1 => WI d fun i => Q (some i) S1 := by
  unfold oSome
  simp only [R_bind]
  refine ⟨fun ⟨d, S1, e, q⟩ => ⟨d, S1, e, ?_⟩, fun ⟨d, S1, e, q⟩ => ⟨d, S1, e, ?_⟩⟩
  · cases d <;> first | exact (R_none.mp q).elim | exact R_some.mp q
  · cases d <;> first | exact q.elim | exact R_some.mpr q
theorem wp_slC {ns : List Int} {lo hi : Option Int} : R (gSl (.scr ns) lo hi S) P ↔ P (.lst ((cutD ns lo hi).map .int)) S := R_some
theorem wp_slL {ds : List D} {lo hi : Option Int} : R (gSl (.lst ds) lo hi S) P ↔ P (.lst (cutD ds lo hi)) S := R_some
theorem wp_slS {x : Str} {lo hi : Option Int} : R (gSl (.str x) lo hi S) P ↔ x.length ≤ 16777216 ∧ P (.str (cutS x lo hi)) S := R_cond
theorem map_inj_nat : ∀ {a b : List Char}, a.map Char.toNat = b.map Char.toNat → a = b
  | [], [], _ => rfl
  | [], _ :: _, h => by cases h
  | _ :: _, [], h => by cases h
  | x :: a, y :: b, h => by
    simp only [List.map_cons, List.cons.injEq] at h
    rw [map_inj_nat h.2, Char.ext (UInt32.toNat_inj.mp h.1)]
theorem str_eq {a b : String} : (Str.ofString a = Str.ofString b) ↔ a = b := by
  refine ⟨fun h => ?_, fun h => by rw [h]⟩
  rw [Str.ofString_eq_toList, Str.ofString_eq_toList] at h
  have h1 : (a.toList.map Char.toNat).toArray.toList = (b.toList.map Char.toNat).toArray.toList := congrArg (fun z : Str => z.cps.toList) h
  exact String.toList_inj.mp (map_inj_nat h1)
theorem in_ring_crowd : R (gInB false (.str "ring") (.str "crowd") S) P ↔ P (.bl false) S := by
  rw [wp_inS, show (Builtin.Str.occurrences ("crowd" : Str) "ring" 0 ("crowd" : Str).length 1).isEmpty = true by decide +kernel]
  exact Iff.rfl
theorem in_ring_star : R (gInB false (.str "ring") (.str "star") S) P ↔ P (.bl false) S := by
  rw [wp_inS, show (Builtin.Str.occurrences ("star" : Str) "ring" 0 ("star" : Str).length 1).isEmpty = true by decide +kernel]
  exact Iff.rfl
theorem in_ring_pairs : R (gInB false (.str "ring") (.str "pairs") S) P ↔ P (.bl false) S := by
  rw [wp_inS, show (Builtin.Str.occurrences ("pairs" : Str) "ring" 0 ("pairs" : Str).length 1).isEmpty = true by decide +kernel]
  exact Iff.rfl
theorem in_ring_row : R (gInB false (.str "ring") (.str "row") S) P ↔ P (.bl false) S := by
  rw [wp_inS, show (Builtin.Str.occurrences ("row" : Str) "ring" 0 ("row" : Str).length 1).isEmpty = true by decide +kernel]
  exact Iff.rfl
theorem in_ring_ring : R (gInB false (.str "ring") (.str "ring") S) P ↔ P (.bl true) S := by
  rw [wp_inS, show (Builtin.Str.occurrences ("ring" : Str) "ring" 0 ("ring" : Str).length 1).isEmpty = false by decide +kernel]
  exact Iff.rfl
theorem in_ring_core : R (gInB false (.str "ring") (.str "core") S) P ↔ P (.bl false) S := by
  rw [wp_inS, show (Builtin.Str.occurrences ("core" : Str) "ring" 0 ("core" : Str).length 1).isEmpty = true by decide +kernel]
  exact Iff.rfl
theorem in_ring_linked : R (gInB false (.str "ring") (.str "linked") S) P ↔ P (.bl false) S := by
  rw [wp_inS, show (Builtin.Str.occurrences ("linked" : Str) "ring" 0 ("linked" : Str).length 1).isEmpty = true by decide +kernel]
  exact Iff.rfl
theorem in_ring_odd_ring : R (gInB false (.str "ring") (.str "odd ring") S) P ↔ P (.bl true) S := by
  rw [wp_inS, show (Builtin.Str.occurrences ("odd ring" : Str) "ring" 0 ("odd ring" : Str).length 1).isEmpty = false by decide +kernel]
  exact Iff.rfl
theorem in_ring_even_ring : R (gInB false (.str "ring") (.str "even ring") S) P ↔ P (.bl true) S := by
  rw [wp_inS, show (Builtin.Str.occurrences ("even ring" : Str) "ring" 0 ("even ring" : Str).length 1).isEmpty = false by decide +kernel]
  exact Iff.rfl
end
end DL
namespace DL
open PySem PySem.Spec PyProof.Rows L2
section
variable {K : PySem.W.Frag} {ct : CT} {m : List Addr} {F : Hp}
theorem Reps.kwG {idx : List Nat} {ds es : List D} {vs us : List V} (h : Reps K ct m F ds vs) (g : Reps K ct m F es us) : Reps K ct m F (kwG idx ds es) (kwG idx vs us) := by
  refine h.append ?_
  induction idx with
  | nil => exact rfl
  | cons i r ih =>
    by_cases hi : i < es.length
    · obtain ⟨v, h1, h2⟩ := g.get (List.getElem?_eq_getElem hi)
      rw [List.filterMap_cons_some (b := es[i]) (List.getElem?_eq_getElem hi), List.filterMap_cons_some h1]
      exact ⟨_, _, rfl, h2, ih⟩
    · rw [List.filterMap_cons_none (List.getElem?_eq_none (by omega)), List.filterMap_cons_none (List.getElem?_eq_none (by rw [← g.length]; omega))]
      exact ih
theorem kwG_vals {idx : List Nat} {vs zs : List V} {us ws : List Value} (h : Vals vs us) (g : Vals zs ws) : Vals (kwG idx vs zs) (kwG idx us ws) := by
  refine h.append ?_
  induction idx with
  | nil => exact .nil
  | cons i r ih =>
    have key : ∀ {zs : List V} {ws : List Value} {i : Nat}, Vals zs ws → (∃ z w, zs[i]? = some z ∧ ws[i]? = some w ∧ RelV z w) ∨ (zs[i]? = none ∧ ws[i]? = none) := by
      intro zs ws i g
      induction g generalizing i with
      | nil => exact .inr ⟨rfl, rfl⟩
      | cons a _ ih =>
        cases i with
        | zero => exact .inl ⟨_, _, rfl, rfl, a⟩
        | succ i => simpa using ih (i := i)
    rcases key (i := i) g with ⟨z, w, h1, h2, h3⟩ | ⟨h1, h2⟩
    · rw [List.filterMap_cons_some h1, List.filterMap_cons_some h2]
      exact .cons h3 ih
    · rw [List.filterMap_cons_none h1, List.filterMap_cons_none h2]
      exact ih
end
section
variable {ct : CT} {X : Cx} {C : Addr} {c x : Str} {e o : Expr} {fe fo : FE} {fas : FA} {kws : List Keyword} {pos apos p : Pos} {k n : Nat} {g : FD} {kwb : KWB} {ks : List Str} {idx : List Nat}
def SK (ct : CT) (X : Cx) (kws : List Keyword) (f : FA) : Prop := ∃ t, PK X kws t ∧ ∀ m F S σ H env ds S' Q, Sim X.K ct m F S H → EnvR X.K ct m F env σ → f env S = some (ds, S') → PostA ct X.K m F H S' ds Q → t σ H Q
theorem sk_nil : SK ct X [] fNil := ⟨_, pk_nil, fun m F S σ H env d S' Q s en h p => by
  cases h
  exact p m F [] H (Ext.refl _ _ _) s rfl⟩
theorem sk_cons {nm : Option Str} {kpos : Pos} (ha : SE ct X e fe) (hr : SK ct X kws fas) : SK ct X (⟨nm, e, kpos⟩ :: kws) (fCons fe fas) := by
  obtain ⟨ta, pa, ra⟩ := ha
  obtain ⟨tb, pb, rb⟩ := hr
  refine ⟨_, pk_cons pa pb, fun m F S σ H env d S' Q s en h p => ?_⟩
  obtain ⟨⟨y, S1⟩, h1, h⟩ := bind_some h
  obtain ⟨⟨ys, S2⟩, h2, h⟩ := bind_some h
  cases h
  refine ra m F S σ H env y S1 _ s en h1 fun m1 F1 v1 H1 x1 s1 r1 => ?_
  refine rb m1 F1 S1 σ H1 env ys S2 _ s1 (en.mono x1) h2 fun m2 F2 v2 H2 x2 s2 r2 => ?_
  exact p m2 F2 (v1 :: v2) H2 (x1.trans x2) s2 ⟨v1, v2, rfl, r1.mono x2, r2⟩
def fMethK (c x : Str) (g : FD) (idx : List Nat) (fo : FE) (fks : FA) : FE := fun env S => (fo env S).bind fun p => (insOf c p.1 p.2).bind fun q => if hasF q.1 x = false then (fks env p.2).bind fun r => g (kwG idx [p.1] r.1) r.2 else none
def fCallK (g : FD) (idx : List Nat) (fks : FA) : FE := fun env S => (fks env S).bind fun r => g (kwG idx [] r.1) r.2
theorem se_fnK (M : Callee X.prog X.w X.K X.mg X.base ct k x n g kwb) (hmem : (ks, idx) ∈ kwb) (hr : RoomG k X.A) (hg : Gl X x) (ha : SK ct X kws fas) (hn : ∀ env S ds S', fas env S = some (ds, S') → ds.length = ks.length)
    (hlen : ∀ zs : List V, zs.length = ks.length → (kwG idx [] zs).length = n) (hall : (backToKw pos (keywordEach kws X.env)).all (·.1.isSome) = true := by rfl) (hks : (backToKw pos (keywordEach kws X.env)).filterMap (·.1) = ks := by rfl) (hdb : (x == ("__debug__" : Str)) = false := by decide)
    (hpl : ((backTo pos (starEach [] X.env)).any (·.1) || (backToKw pos (keywordEach kws X.env)).any (·.1.isNone)) = false := by rfl) : SE ct X (.Call (.Name x p) [] kws pos) (fCallK g idx fas) := by
  obtain ⟨f, fd, ps, h1, h2, bi, fn⟩ := M
  obtain ⟨tb, pb, rb⟩ := ha
  refine ⟨_, pe_callGK (E := fun _ _ _ => False) fn hr hg h1 h2 (bi.2 _ hmem) pb hall hks hdb hpl, fun m F S σ H env d S' Q s en h p => ?_⟩
  obtain ⟨⟨xs, S2⟩, h3, h⟩ := bind_some h
  refine rb m F S σ H env xs S2 _ s en h3 fun m2 F2 us H2 x2 s2 r2 => ?_
  have hl : us.length = ks.length := by rw [← r2.length, hn _ _ _ _ h3]
  exact ⟨hl, hlen us hl, m2, F2, S2, kwG idx [] xs, d, S', s2, Reps.kwG rfl r2, h, p.ext x2⟩
def cRepr : FD
  | [d], S => (toP d).bind fun p => if p.showable = true ∧ p.hasDict = false ∧ p.depth ≤ 50 ∧ p.shown.length ≤ 16777216 then some (.str p.shown, S) else none
  | _, _ => none
variable {env : DEnv} {S : Sto} {P : D → Sto → Prop}
theorem wp_MethK {fks : FA} : R (fMethK c x g idx fo fks env S) P ↔ R (fo env S) fun d S1 => (∃ q, insOf c d S1 = some q ∧ hasF q.1 x = false) ∧ R (fks env S1) fun ds S2 => R (g (kwG idx [d] ds) S2) P := by
  unfold fMethK
  simp only [R_bind]
  refine ⟨fun ⟨d, S1, e, q⟩ => ⟨d, S1, e, ?_⟩, fun ⟨d, S1, e, q⟩ => ⟨d, S1, e, ?_⟩⟩
  · obtain ⟨a, S3, e3, p⟩ := q
    obtain ⟨q1, h1, h2⟩ := bind_some e3
    split at h2
    · rename_i hh
      obtain ⟨⟨ds, S4⟩, h3, h4⟩ := bind_some h2
      exact ⟨⟨q1, h1, hh⟩, ds, S4, h3, a, S3, h4, p⟩
    · cases h2
  · obtain ⟨⟨q1, h1, hh⟩, ds, S4, h3, a, S3, h4, p⟩ := q
    refine ⟨a, S3, ?_, p⟩
    rw [h1]
    show (if hasF q1.1 x = false then _ else _) = _
    rw [if_pos hh, h3]
    exact h4
theorem wp_CallK {fks : FA} : R (fCallK g idx fks env S) P ↔ R (fks env S) fun ds S1 => R (g (kwG idx [] ds) S1) P := by unfold fCallK; simp only [R_bind]
theorem wp_Repr {d : D} : R (cRepr [d] S) P ↔ ∃ p, toP d = some p ∧ (p.showable = true ∧ p.hasDict = false ∧ p.depth ≤ 50 ∧ p.shown.length ≤ 16777216) ∧ P (.str p.shown) S := by
  show R ((toP d).bind _) P ↔ _
  refine ⟨fun ⟨a, S3, e3, p⟩ => ?_, fun ⟨p, e, h, q⟩ => ?_⟩
  · obtain ⟨pd, h1, h2⟩ := bind_some e3
    split at h2
    · rename_i hc
      cases h2
      exact ⟨pd, h1, hc, p⟩
    · cases h2
  · rw [e]
    exact R_cond.mpr ⟨h, q⟩
end
end DL
namespace DL
open PySem PySem.Spec PyProof.Rows L2
section
variable {ct : CT} {X : Cx} {a b e : Expr} {fa fb f : FE} {fas : FA} {env : DEnv} {S : Sto} {P : D → Sto → Prop}
def fDispF (ks : List Str) (fas : FA) : FE := fun env S => (fas env S).bind fun p => if ks.length ≤ 15 ∧ ks.Nodup ∧ p.1.length = ks.length then some (.dct (ks.map Sum.inr) p.1, p.2) else none
def fDIx (fa fb : FE) : FE := fun env S => (fa env S).bind fun p => (fb env p.2).bind fun q => (kvsOf p.1 q.2).bind fun kvs => (toKey q.1).bind fun key => (valA kvs key).map fun d => (d, q.2)
theorem se_dix {pos : Pos} {n : Nat} (hr : RoomG n X.A) (ha : SE ct X a fa) (hb : SE ct X b fb) (hs : NoSl b) : SE ct X (.Subscript a b pos) (fDIx fa fb) := by
  obtain ⟨ta, pa, ra⟩ := ha
  obtain ⟨tb, pb, rb⟩ := hb
  refine ⟨_, pe_dget (hu_of hr.room) pa pb hs, fun m F S σ H env d S' Q s en h p => ?_⟩
  obtain ⟨⟨z, S1⟩, h1, h⟩ := bind_some h
  obtain ⟨⟨y, S2⟩, h2, h⟩ := bind_some h
  obtain ⟨kvs, h4, h⟩ := bind_some h
  obtain ⟨key, h5, h⟩ := bind_some h
  obtain ⟨dv, hv, h6⟩ := map_some h
  cases h6
  refine ra m F S σ H env z S1 _ s en h1 fun m1 F1 v1 H1 x1 s1 r1 => ?_
  refine rb m1 F1 S1 σ H1 env y S2 _ s1 (en.mono x1) h2 fun m2 F2 v2 H2 x2 s2 r2 => ?_
  obtain ⟨w, us, e1, e2, pr⟩ := kvs_at s2 (r1.mono x2) h4
  have ek := r2.key h5
  subst ek
  obtain ⟨v, q1, q2⟩ := (PR.val pr key).1 _ hv
  have g := DGet.k (k := key) e2
  rw [q1] at g
  exact ⟨w, v, e1, g, ((p.ext x1).ext x2).now s2 q2⟩
theorem wp_DispF {ks : List Str} : R (fDispF ks fas env S) P ↔ R (fas env S) fun ds S1 => (ks.length ≤ 15 ∧ ks.Nodup ∧ ds.length = ks.length) ∧ P (.dct (ks.map Sum.inr) ds) S1 := by unfold fDispF; simp only [R_bind, R_cond]
theorem wp_DIx : R (fDIx fa fb env S) P ↔ R (fa env S) fun x S1 => R (fb env S1) fun y S2 => ∃ kvs, kvsOf x S2 = some kvs ∧ ∃ key, toKey y = some key ∧ ∃ d, valA kvs key = some d ∧ P d S2 := by
  unfold fDIx
  simp only [R_bind]
  refine ⟨fun ⟨x, S1, e, y, S2, e2, q⟩ => ⟨x, S1, e, y, S2, e2, ?_⟩, fun ⟨x, S1, e, y, S2, e2, q⟩ => ⟨x, S1, e, y, S2, e2, ?_⟩⟩
  · obtain ⟨d, S3, e3, p⟩ := q
    obtain ⟨kvs, h1, h⟩ := bind_some e3
    obtain ⟨key, h2, h⟩ := bind_some h
    obtain ⟨dv, h3, h4⟩ := map_some h
    cases h4
    exact ⟨kvs, h1, key, h2, _, h3, p⟩
  · obtain ⟨kvs, h1, key, h2, d, h3, p⟩ := q
    exact ⟨d, S2, by rw [h1]; show ((toKey y).bind _) = _; rw [h2]; show ((valA kvs key).map _) = _; rw [h3]; rfl, p⟩
end
end DL
namespace DL
open PySem PySem.Spec PyProof.Rows L2
def gRep : D → D → Sto → Option (D × Sto)
  | .lst ds, .int k, S => if 0 ≤ k ∧ k ≤ 1000 ∧ ds.length ≤ 1000 then some (.lst (List.replicate k.toNat ds).flatten, S) else none
  | _, _, _ => none
theorem wp_rep {ds : List D} {k : Int} {S : Sto} {P : D → Sto → Prop} : R (gRep (.lst ds) (.int k) S) P ↔ (0 ≤ k ∧ k ≤ 1000 ∧ ds.length ≤ 1000) ∧ P (.lst (List.replicate k.toNat ds).flatten) S := R_cond
end DL
namespace DL
open PySem PySem.Spec PyProof.Rows L2
section
variable {X : Cx} {k : Nat} {C p g a dx : Addr} {fs : List (Str × V)} {f : Str} {fd : FuncData} {ps : List Str} {sp : Sp} {E : XK} {e : Expr} {pos : Pos} {ta : TE}
theorem prop_run {pins : List (Addr × Obj)} {σ : L2.St} {H : Hp} {s : Shared} {Q : VK} {b : Bool} {E' : Value → Shared → Prop} (I : Inv X pins σ H s) (ea : H a = some (.ins C dx fs)) (c : Cls X.K C) (hp : PropOf X.K C f p g)
    (F : FnG X.prog X.w X.K X.mg X.base k g fd ps sp) (hr : RoomG (k + 1) X.A) (hb : Binds X.K fd ps []) (h : sp [.ref a] H Q E) : wpAny (model X.prog X.w) X.A (getAttr (.ref a) f b) (EP X pins σ Q) E' s := by
  obtain ⟨mA, O, _⟩ := ins_get I.hok ea
  obtain ⟨od, J, _⟩ := O.look
  obtain ⟨rest, hrec⟩ := hp.rec_
  have J1 := I.tok (s.toks + 1)
  have hl := F.len _ _ _ _ h
  have some_ : (PySem.W.clsIn X.K C).isSome = true := by
    obtain ⟨cd, q, _⟩ := PySem.W.any_some c.hd
    rw [q]; rfl
  have plain := PySem.W.plainGet_of (c.get f)
  refine PySem.W.get_bind I.kIn J plain.1 (PySem.W.findObj_data some_ hp.at_ hp.get hp.tak) plain.2 (wpAny_call (PySem.W.prop_get (s := { s with toks := s.toks + 1 }) I.kIn hrec (codeAny_mono
    (F.run X.A.in1 X.stack { s with toks := s.toks + 1 } H ⟨[.ref a], []⟩ [.ref a] [.ref a] Q E hr.in1 J1.env0.in1 (hb _ [.ref a] J1.kIn hl) (.cons rfl .nil) h) fun r s' q => ?_)))
  obtain ⟨u, rfl, v, H', I3, rv, z⟩ := behind J1 q
  show wpAny _ _ (handedOut u) _ _ _
  rw [PySem.W.handedOut_of (handed_of rv)]
  exact wpAny_pure ⟨v, H', I3, rv, z⟩
theorem pe_propG (he : PE X e ta) (c : Cls X.K C) (hp : PropOf X.K C f p g) (F : FnG X.prog X.w X.K X.mg X.base k g fd ps sp) (hr : RoomG (k + 1) X.A) (hb : Binds X.K fd ps []) (hab : attributeBase e f X.env (eval e X.env) = eval e X.env) : PE X (.Attribute e f pos) (tProp C sp [] E ta) := by
  refine ⟨fun pins s σ H Q I h => attr_of hab (thn (he.run pins s σ H _ I h) fun u s1 ⟨y, H1, I1, ry, a, dx, fs, ex, ea, q⟩ => ?_)⟩
  subst ex
  have ry : u = Value.ref a := ry
  subst ry
  exact prop_run I1 ea c hp F hr hb q
end
def CalleeP (P : Program) (w : World) (K : PySem.W.Frag) (mg : Str → Option Value) (base : Heap) (ct : CT) (k : Nat) (C : Addr) (x : Str) (gd : FD) : Prop :=
  ∃ (j : Nat) (p g : Addr) (fd : FuncData) (ps : List Str), j + 1 ≤ k ∧ PropOf K C x p g ∧ Binds K fd ps [] ∧ FnG P w K mg base j g fd ps (spD K ct 1 gd)
def PropAt (K : PySem.W.Frag) (C : Addr) (x qual : Str) (st : Stmt) (ps : List Str) : Prop := ∃ (p g : Addr) (fd : FuncData), Fun K x qual st g fd ∧ PropOf K C x p g ∧ Binds K fd ps []
theorem CalleeP.mono {P : Program} {w : World} {K : PySem.W.Frag} {mg : Str → Option Value} {base : Heap} {ct : CT} {j k : Nat} {C : Addr} {x : Str} {gd : FD} (c : CalleeP P w K mg base ct j C x gd) (h : j ≤ k) : CalleeP P w K mg base ct k C x gd := by
  obtain ⟨i, p, g, fd, ps, h1, h2⟩ := c
  exact ⟨i, p, g, fd, ps, by omega, h2⟩
theorem calleeP_of {P : Program} {w : World} {K : PySem.W.Frag} {mg : Str → Option Value} {base : Heap} {ct : CT} {C : Addr} {x qual : Str} {st : Stmt} {N ps : List Str} {k : Nat} {g : FS} (d : PropAt K C x qual st ps) (S : FnScope N ps (defScope st)) (hps : ps.length = 1)
    (hbody : ∀ (f : Addr) (cdv : Value) (A : Around) (outer : List Env) (s : Shared) (H : Hp) (E : XK), RoomG k (A.deeper (envOfC qual (defScope st) s.heap.objs.size f cdv)) →
      SSs ct (cxOf CX0 P w K mg base N qual (defScope st) f cdv A outer s H E).nox (defBody st) g) : CalleeP P w K mg base ct (k + 2) C x (runD N.length g) := by
  obtain ⟨p, f, fd, F, h1, h3⟩ := d
  have := def_ok F S (hbody f)
  rw [hps] at this
  exact ⟨k + 1, p, f, fd, ps, Nat.le_refl _, h1, h3, this⟩
section
variable {ct : CT} {X : Cx} {C : Addr} {c x : Str} {a b e o k : Expr} {fe fo fa fb fk : FE} {fas : FA} {pos apos cpos : Pos} {n : Nat} {g : FD} {env : DEnv} {S : Sto} {P : D → Sto → Prop}
def fProp (c : Str) (g : FD) (fe : FE) : FE := fun env S => (fe env S).bind fun p => (insOf c p.1 p.2).bind fun _ => g [p.1] p.2
theorem se_prop (kc : Klass X.K ct c C) (M : CalleeP X.prog X.w X.K X.mg X.base ct n C x g) (hr : RoomG n X.A) (he : SE ct X e fe) (hb : attributeBase e x X.env (eval e X.env) = eval e X.env := by rfl) : SE ct X (.Attribute e x pos) (fProp c g fe) := by
  obtain ⟨j, p0, g0, fd, ps, hj, h1, h2, h3⟩ := M
  obtain ⟨ta, pa, ra⟩ := he
  refine ⟨_, pe_propG (E := fun _ _ _ => False) pa kc.cls h1 h3 (hr.mono hj) h2 hb, fun m F S σ H env d S' Q s en h p => ?_⟩
  obtain ⟨⟨z, S1⟩, q1, h⟩ := bind_some h
  obtain ⟨⟨fs, ds⟩, q2, h⟩ := bind_some h
  refine ra m F S σ H env z S1 _ s en q1 fun m1 F1 v1 H1 x1 s1 r1 => ?_
  obtain ⟨q, dx, vs, e1, e2, e3, e4⟩ := insOf_rep kc s1 r1 q2
  subst e1
  exact ⟨q, dx, _, rfl, e2, rfl, m1, F1, S1, [z], d, S', s1, Reps.mk1 r1, h, p.ext x1⟩
theorem wp_Prop {g : FD} : R (fProp c g fe env S) P ↔ R (fe env S) fun d S1 => (∃ q, insOf c d S1 = some q) ∧ R (g [d] S1) P := by
  unfold fProp
  simp only [R_bind]
  refine ⟨fun ⟨d, S1, e, q⟩ => ⟨d, S1, e, ?_⟩, fun ⟨d, S1, e, q⟩ => ⟨d, S1, e, ?_⟩⟩
  · obtain ⟨y, S3, e3, p⟩ := q
    obtain ⟨q1, h1, h2⟩ := bind_some e3
    exact ⟨⟨q1, h1⟩, y, S3, h2, p⟩
  · obtain ⟨⟨q1, h1⟩, y, S3, h2, p⟩ := q
    exact ⟨y, S3, by rw [h1]; exact h2, p⟩
def fIsC (c : Str) (fe : FE) : FE := fun env S => (fe env S).bind fun p => (insOf c p.1 p.2).map fun _ => (.bl true, p.2)
theorem wp_IsC : R (fIsC c fe env S) P ↔ R (fe env S) fun d S1 => (∃ q, insOf c d S1 = some q) ∧ P (.bl true) S1 := by
  unfold fIsC
  simp only [R_bind]
  refine ⟨fun ⟨d, S1, e, q⟩ => ⟨d, S1, e, ?_⟩, fun ⟨d, S1, e, q⟩ => ⟨d, S1, e, ?_⟩⟩
  · obtain ⟨y, S3, e3, p⟩ := q
    obtain ⟨q1, h1, h2⟩ := map_some e3
    cases h2
    exact ⟨⟨q1, h1⟩, p⟩
  · obtain ⟨⟨q1, h1⟩, p⟩ := q
    exact ⟨_, _, by rw [h1]; rfl, p⟩
def fDGet1 (fd fk : FE) : FE := fun env S => (fd env S).bind fun p => (kvsOf p.1 p.2).bind fun _ => (fk env p.2).bind fun q => (kvsOf p.1 q.2).bind fun kvs => (toKey q.1).map fun x => ((valA kvs x).getD .non, q.2)
def fDIn (neg : Bool) (fk fd : FE) : FE := fun env S => (fk env S).bind fun p => (fd env p.2).bind fun q => (kvsOf q.1 q.2).bind fun kvs => (toKey p.1).map fun x => (.bl (if neg then !(valA kvs x).isSome else (valA kvs x).isSome), q.2)
theorem din_run {m : List Addr} {F H : Hp} {S S' : Sto} {env : DEnv} {d : D} {σ : L2.St} {neg : Bool} {ta tb : TE} {Q : VK}
    (ra : ∀ m F S σ H env d S' Q, Sim X.K ct m F S H → EnvR X.K ct m F env σ → fk env S = some (d, S') → PostE ct X.K m F H S' d Q → ta σ H Q)
    (rb : ∀ m F S σ H env d S' Q, Sim X.K ct m F S H → EnvR X.K ct m F env σ → fo env S = some (d, S') → PostE ct X.K m F H S' d Q → tb σ H Q)
    (s : Sim X.K ct m F S H) (en : EnvR X.K ct m F env σ) (h : fDIn neg fk fo env S = some (d, S')) (p : PostE ct X.K m F H S' d Q) : ta σ H fun y H1 => tb σ H1 fun x H2 => ∃ a o, x = .ref a ∧ DGet H2 a y o ∧ Q (.bl (if neg then !o.isSome else o.isSome)) H2 := by
  obtain ⟨⟨y, S1⟩, h1, h⟩ := bind_some h
  obtain ⟨⟨z, S2⟩, h2, h⟩ := bind_some h
  obtain ⟨kvs, h4, h⟩ := bind_some h
  obtain ⟨key, h5, h6⟩ := map_some h
  cases h6
  refine ra m F S σ H env y S1 _ s en h1 fun m1 F1 v1 H1 x1 s1 r1 => ?_
  refine rb m1 F1 S1 σ H1 env z S2 _ s1 (en.mono x1) h2 fun m2 F2 v2 H2 x2 s2 r2 => ?_
  obtain ⟨w, us, e1, e2, pr⟩ := kvs_at s2 r2 h4
  have ek := (r1.mono x2).key h5
  subst ek
  refine ⟨w, _, e1, DGet.k e2, ?_⟩
  have p2 := (p.ext x1).ext x2
  cases hv : valA kvs key with
  | none =>
    rw [hv] at p2
    rw [(PR.val pr key).2 hv]
    exact p2.now s2 rfl
  | some dv =>
    rw [hv] at p2
    obtain ⟨v, q1, q2⟩ := (PR.val pr key).1 dv hv
    rw [q1]
    exact p2.now s2 rfl
theorem se_din (hr : RoomG n X.A) (hk : SE ct X k fk) (ho : SE ct X o fo) (h1 : behindInMarks .In o = false) : SE ct X (.Compare k [.In] [o] pos) (fDIn false fk fo) := by
  obtain ⟨ta, pa, ra⟩ := hk
  obtain ⟨tb, pb, rb⟩ := ho
  exact ⟨_, pe_cmp (pc_din (hu_of hr.room) pa pb) h1, fun m F S σ H env d S' Q s en h p => din_run (neg := false) ra rb s en h p⟩
theorem wp_DGet1 : R (fDGet1 fo fk env S) P ↔ R (fo env S) fun x S1 => (∃ q, kvsOf x S1 = some q) ∧ R (fk env S1) fun y S2 => ∃ kvs, kvsOf x S2 = some kvs ∧ ∃ key, toKey y = some key ∧ P ((valA kvs key).getD .non) S2 := by
  unfold fDGet1
  simp only [R_bind]
  refine ⟨fun ⟨x, S1, e, q⟩ => ⟨x, S1, e, ?_⟩, fun ⟨x, S1, e, q⟩ => ⟨x, S1, e, ?_⟩⟩
  · obtain ⟨d, S3, e3, p⟩ := q
    obtain ⟨k0, h0, h⟩ := bind_some e3
    obtain ⟨⟨y, S2⟩, h1, h⟩ := bind_some h
    obtain ⟨kvs, h2, h⟩ := bind_some h
    obtain ⟨key, h3, h4⟩ := map_some h
    cases h4
    exact ⟨⟨k0, h0⟩, y, _, h1, kvs, h2, key, h3, p⟩
  · obtain ⟨⟨k0, h0⟩, y, S2, h1, kvs, h2, key, h3, p⟩ := q
    exact ⟨_, S2, by rw [h0]; show ((fk env S1).bind _) = _; rw [h1]; show ((kvsOf x S2).bind _) = _; rw [h2]; show ((toKey y).map _) = _; rw [h3]; rfl, p⟩
theorem wp_DIn {neg : Bool} : R (fDIn neg fk fo env S) P ↔ R (fk env S) fun y S1 => R (fo env S1) fun x S2 => ∃ kvs, kvsOf x S2 = some kvs ∧ ∃ key, toKey y = some key ∧ P (.bl (if neg then !(valA kvs key).isSome else (valA kvs key).isSome)) S2 := by
  unfold fDIn
  simp only [R_bind]
  refine ⟨fun ⟨x, S1, e, y, S2, e2, q⟩ => ⟨x, S1, e, y, S2, e2, ?_⟩, fun ⟨x, S1, e, y, S2, e2, q⟩ => ⟨x, S1, e, y, S2, e2, ?_⟩⟩
  · obtain ⟨d, S3, e3, p⟩ := q
    obtain ⟨kvs, h1, h⟩ := bind_some e3
    obtain ⟨key, h2, h3⟩ := map_some h
    cases h3
    exact ⟨kvs, h1, key, h2, p⟩
  · obtain ⟨kvs, h1, key, h2, p⟩ := q
    exact ⟨_, S2, by rw [h1]; show ((toKey x).map _) = _; rw [h2]; rfl, p⟩
def gUnlD (n : Nat) (gs : FGs) : FG := fun d env S => match d with
  | .lst ds => if ds.length = n then gs ds env S else none
  | _ => none
theorem wp_gUnl {n : Nat} {gs : FGs} {ds : List D} {PG : DEnv → Sto → Prop} : R (gUnlD n gs (.lst ds) env S) PG ↔ ds.length = n ∧ R (gs ds env S) PG := by
  show R (if ds.length = n then gs ds env S else none) PG ↔ _
  by_cases h : ds.length = n
  · rw [if_pos h]; exact ⟨fun p => ⟨h, p⟩, fun p => p.2⟩
  · rw [if_neg h, R_none]; exact ⟨False.elim, fun p => h p.1⟩
def TK (w : World) (K : PySem.W.Frag) (mg : Str → Option Value) (n : Str) (tab : List (Str × Int)) : Prop := ∃ (g : Addr) (es : Array DictEntry) (c : Nat), mg n = some (.ref g) ∧ K.lookup g = some ⟨.type "dict", none, .dict es c, #[]⟩ ∧ TabOk w.params tab es.toList ∧ (g == sysModules) = false
def tabV (tab : List (Str × Int)) : List (Key × V) := tab.map fun p => (Sum.inr p.1, V.int p.2)
def tabD (tab : List (Str × Int)) : List (Key × D) := tab.map fun p => (Sum.inr p.1, D.int p.2)
theorem tab_pairs {Pr : Program} {w : World} : ∀ {tab : List (Str × Int)} {l : List DictEntry}, TabOk w.params tab l → ∃ vs : List (Key × Value), KV (tabV tab) vs ∧ Pairs (mixKind Pr w) l vs ∧ (∀ e ∈ l, ∃ k, (mixKind Pr w).is k e.key = true ∧ e.hash = (mixKind Pr w).hash k) ∧ vs.map (·.1) = tab.map fun p => Sum.inr p.1
  | [], [], _ => ⟨[], .nil, .nil, fun e h => (by cases h), rfl⟩
  | p :: tab, e :: l, h => by
    obtain ⟨⟨t, t', h1, h2, h3⟩, h4⟩ := h
    obtain ⟨vs, a, b, c, d⟩ := tab_pairs (Pr := Pr) h4
    have ik : (mixKind Pr w).is (Sum.inr p.1) e.key = true := by rw [h1]; exact keyIs_str p.1 t
    refine ⟨(Sum.inr p.1, .int p.2 t') :: vs, .cons ⟨rfl, ⟨_, rfl⟩⟩ a, .cons ik h3 b, fun z hz => ?_, by rw [List.map_cons, List.map_cons, d]⟩
    rcases List.mem_cons.mp hz with rfl | hz
    · exact ⟨Sum.inr p.1, ik, h2⟩
    · exact c z hz
  | [], _ :: _, h => h.elim
  | _ :: _, [], h => h.elim
theorem tab_PR {K : PySem.W.Frag} {m : List Addr} {F : Hp} : ∀ tab : List (Str × Int), PR K ct m F (tabD tab) (tabV tab)
  | [] => .nil
  | p :: tab => .cons ⟨rfl, rfl⟩ (tab_PR tab)
def rDictK (K : PySem.W.Frag) (w : World) (tab : List (Str × Int)) : List V → Hp → VK → Prop := fun xs H Q => ∃ (g : Addr) (es : Array DictEntry) (c : Nat), xs = [.ref g] ∧ K.lookup g = some ⟨.type "dict", none, .dict es c, #[]⟩ ∧ TabOk w.params tab es.toList ∧ (g == sysModules) = false ∧ tab.length ≤ 1000 ∧ (tab.map (·.1)).Nodup ∧
  ∀ p, H p = none → Q (.ref p) (upd H p (.dK (tabV tab)))
theorem call_dictK {tab : List (Str × Int)} : CallR X (.type "dict") (rDictK X.K X.w tab) := by
  intro pins s σ H xs us Q I r h
  obtain ⟨g, es, c, rfl, lk, tb, lo, hl, hn, q⟩ := h
  obtain ⟨u, rfl, ru⟩ := vals1 r
  have ru : u = Value.ref g := ru
  subst ru
  obtain ⟨vs, a1, a2, a3, a4⟩ := tab_pairs (Pr := X.prog) tb
  have hz : vs.length ≤ sizeLine := by
    have : vs.length = tab.length := by
      have := congrArg List.length a4
      simpa using this
    rw [this]
    exact Nat.le_trans hl (by decide)
  have dd : s.heap.DictOf (mixKind X.prog X.w) g vs := ⟨_, es, c, I.kIn g _ lk, ⟨rfl, rfl, rfl⟩, rfl, fun e he => a3 e (Array.mem_toList_iff.mpr he), a2, by
    rw [a4]
    rw [show (tab.map fun p => (Sum.inr p.1 : Key)) = (tab.map (·.1)).map Sum.inr by rw [List.map_map]; rfl]
    exact nodup_inr hn⟩
  refine kt_call_dict lo dd hz fun h' d' hs => ?_
  have hm : (s.heap.objs.size == sysModules) = false := beq_eq_false_iff_ne.mpr (Nat.ne_of_gt I.big)
  exact ⟨.ref s.heap.objs.size, upd H s.heap.objs.size (.dK (tabV tab)), I.laid (t' := s.toks) (fun b u e => (hs.2 b (Nat.ne_of_lt (Heap.lt_size e))).trans (Heap.get?_push_of_some _ e)) (Nat.le_refl _)
    (show ObjOk X.prog X.w _ _ _ (.dK (tabV tab)) from ⟨by rw [a1.length]; exact hz, hm, vs, a1, d'⟩), rfl, q _ (I.hok.fresh (Nat.le_refl _))⟩
def fDictK (tab : List (Str × Int)) : FE := fun _ S => some (.ref S.length, S ++ [.dct (tabD tab)])
theorem se_dictK {tab : List (Str × Int)} {p q : Pos} (T : TK X.w X.K X.mg x tab) (hg : Gl X "dict") (hm : X.mg "dict" = none) (hg2 : Gl X x) (hl : tab.length ≤ 1000) (hn : (tab.map (·.1)).Nodup) (hd : (x == ("__debug__" : Str)) = false := by decide)
    (hs : starEach [.Name x q] X.env = (false, eval (.Name x q) X.env) :: starEach [] X.env := by rfl) (hpl : (backTo pos (starEach [] X.env)).any (·.1) = false := by rfl) : SE ct X (.Call (.Name "dict" p) [.Name x q] [] pos) (fDictK tab) := by
  obtain ⟨g, es, c, hmg, lk, tb, lo⟩ := T
  refine ⟨_, pe_callTy (call_dictK (tab := tab)) hg hm (by decide +kernel) (pa_cons (pe_glob (v := .ref g) hg2 hmg rfl hd) pa_nil hs) (by decide) (by decide) hs hpl, fun m F S σ H env d S' Q s en h p => ?_⟩
  cases h
  refine ⟨g, es, c, rfl, lk, tb, lo, hl, hn, fun q hq => ?_⟩
  obtain ⟨s2, x2⟩ := s.fresh hq (o := .dK (tabV tab)) (c := .dct (tabD tab)) ⟨_, rfl, tab_PR tab⟩
  exact p _ _ (.ref q) _ x2 s2 ⟨q, by rw [← s.len]; simp, rfl⟩
theorem wp_DictK {tab : List (Str × Int)} : R (fDictK tab env S) P ↔ P (.ref S.length) (S ++ [.dct (tabD tab)]) := R_some
end
end DL
namespace DL
open PySem PySem.Spec PyProof.Rows L2
def gRepM : D → D → Sto → Option (D × Sto)
  | .lst ds, .int k, S => if 0 ≤ k ∧ k ≤ 2000 ∧ ds.length ≤ 1000 then some (.ref S.length, S ++ [.lst (List.replicate k.toNat ds).flatten]) else none
  | _, _, _ => none
theorem wp_repM {ds : List D} {k : Int} {S : Sto} {P : D → Sto → Prop} : R (gRepM (.lst ds) (.int k) S) P ↔ (0 ≤ k ∧ k ≤ 2000 ∧ ds.length ≤ 1000) ∧ P (.ref S.length) (S ++ [.lst (List.replicate k.toNat ds).flatten]) := R_cond
end DL
set_option maxHeartbeats 6000000
namespace DL
open PySem PySem.Spec
open PyProof.Rows L2
/-- nothing is handled, or an error whose context is None, and that stands as it is -/
def HotP (A : Around) (H : Hp) : Prop := A.handled = none ∨ ∃ (x1 : Addr) (o : Obj) (u : HO) (vs : Array Value), A.handled = some (.ref x1) ∧ H x1 = some (.frz o u) ∧ o.data = .fields vs ∧ vs[2]? = some .none
abbrev HotC (X : Cx) : Prop := HotP X.A X.H_0
theorem HotC.now {X : Cx} {pins : List (Addr × Obj)} {σ : L2.St} {H : Hp} {s : Shared} (c : HotC X) (I : Inv X pins σ H s) : HotP X.A H :=
  c.imp id fun ⟨x1, o, u, vs, h1, h2, h3, h4⟩ => ⟨x1, o, u, vs, h1, I.base.frzs _ _ _ h2, h3, h4⟩
/-- at a heap that stands for H -/
theorem HotP.at {A : Around} {P : Program} {w : World} {H : Hp} {g : Heap} (c : HotP A H) (ok : HOk P w H g) : A.handled = none ∨ ∃ x1, HotX.HotAt A x1 g ∧ H x1 ≠ none :=
  c.imp id fun ⟨x1, o, u, vs, h1, h2, h3, h4⟩ => ⟨x1, ⟨h1, o, vs, (ok _ _ h2).1, h3, h4⟩, by rw [h2]; exact fun k => by cases k⟩
end DL
namespace DL
open PySem PySem.Spec PyProof.Rows L2
def refsB (tl : List Value) : List Value → Bool
  | .ref _ :: r => refsB tl r
  | l => l == tl
structure BaseX (B newId initId : String) (tl : List Value) : Prop where
  facts : ExcBaseFacts B newId initId tl
  pass : ∀ self, refuseLoop self "__setattr__" tl = pure ()
  obj : tl.contains (.type "object") = true
/-- what is written of such a class -/
structure OexB (K : PySem.W.Frag) (C : Addr) : Prop where
  cls : ∃ B newId initId tl nm q N bs bm sn sub ab col dd k0 k1 k2 k3 k5, BaseX B newId initId tl ∧ K.lookup C = some (excClassObj nm q C N bs bm true sn sub ab col dd k0 k1 k2 k3 k5 newId) ∧ refsB tl bm = true
  sa : PySem.W.findIn K (.ref C) "__setattr__" = some (some (.builtin "object.__setattr__"))
  exC : PySem.W.subIn K (.ref C) (.type "BaseException") = some true
  tyC : PySem.W.typeIn K (.ref C) = some (.type "type")
  kC : PySem.W.keepIn K (.ref C) = true
def spI1 (K : PySem.W.Frag) (f : Str) : Sp := fun vs H Q _ => ∃ a C x, vs = [.ref a, x] ∧ OexB K C ∧ PySem.W.findIn K (.ref C) f = some none ∧ H a = some (exo a C none) ∧ ∀ dx, H dx = none → dx ≠ a → Q .non (upd (upd H dx (exd dx [(f, x)])) a (exo a C (some dx)))
def spI2 (K : PySem.W.Frag) (f g : Str) : Sp := fun vs H Q _ => ∃ a C x y, vs = [.ref a, x, y] ∧ OexB K C ∧ PySem.W.findIn K (.ref C) f = some none ∧ PySem.W.findIn K (.ref C) g = some none ∧ H a = some (exo a C none) ∧
  ∀ dx, H dx = none → dx ≠ a → Q .non (upd (upd (upd H dx (exd dx [(f, x)])) a (exo a C (some dx))) dx (exd dx [(g, y), (f, x)]))
end DL
namespace DL
open PySem PySem.Spec PyProof.Rows L2
abbrev Er := Str × List Str × List D
abbrev XD := List D → Sto → Option (Er × Sto)
def ErrR (K : PySem.W.Frag) (ct : CT) (m : List Addr) (F : Hp) (er : Er) (cls : Value) (d : Option Addr) : Prop :=
  ∃ C vs, ct er.1 = some C ∧ cls = .ref C ∧ ((d = none ∧ er.2.1 = []) ∨ ∃ dx, d = some dx ∧ F dx = some (.xd (er.2.1.zip vs))) ∧ er.2.1.length = vs.length ∧ Reps K ct m F er.2.2 vs
def PostX (ct : CT) (K : PySem.W.Frag) (m : List Addr) (F H : Hp) (S' : Sto) (er : Er) (E : XK) : Prop := ∀ m' F' H' cls d, Ext m F H m' F' H' → Sim K ct m' F' S' H' → ErrR K ct m' F' er cls d → E cls d H'
theorem PostX.ext {ct : CT} {K : PySem.W.Frag} {m m1 : List Addr} {F F1 H H1 : Hp} {S' : Sto} {er : Er} {E : XK} (p : PostX ct K m F H S' er E) (e : Ext m F H m1 F1 H1) : PostX ct K m1 F1 H1 S' er E := fun m' F' H' c d x s r => p m' F' H' c d (e.trans x) s r
theorem pe_or {X : Cx} {e : Expr} {t u : TE} (h : PE X e t) (k : PE X e u) : PE X e fun σ H Q => t σ H Q ∨ u σ H Q := ⟨fun pins s σ H Q I q => q.elim (h.run pins s σ H Q I) (k.run pins s σ H Q I)⟩
structure FnX (P : Program) (w : World) (K : PySem.W.Frag) (mg : Str → Option Value) (base : Heap) (k : Nat) (f : Addr) (fd : FuncData) (ps : List Str) (sp : List V → Hp → XK → Prop) : Prop where
  len : ∀ vs H E, sp vs H E → vs.length = ps.length
  run : ∀ (A : Around) (outer : List Env) (s : Shared) (H : Hp) (args : Args) (us : List Value) (vs : List V) (E : XK), RoomG k A → Env0 P w K mg base A outer s H →
    BindsTo s fd args (ps.zip us) → Vals vs us → sp vs H E → codeAny (model P w) A (.call (.ref f) args) (CR (L2N.CX P w) outer P w H s (fun _ _ => False) E) s
theorem FnX.mono {P : Program} {w : World} {K : PySem.W.Frag} {mg : Str → Option Value} {base : Heap} {j k : Nat} {f : Addr} {fd : FuncData} {ps : List Str} {sp : List V → Hp → XK → Prop} (F : FnX P w K mg base j f fd ps sp) (h : j ≤ k) : FnX P w K mg base k f fd ps sp := ⟨F.len, fun A o s H ar us vs E r => F.run A o s H ar us vs E (r.mono h)⟩
def spX (K : PySem.W.Frag) (ct : CT) (n : Nat) (g : XD) : List V → Hp → XK → Prop := fun vs H E => vs.length = n ∧ ∃ m F S ds er S', Sim K ct m F S H ∧ Reps K ct m F ds vs ∧ g ds S = some (er, S') ∧ PostX ct K m F H S' er E
end DL
namespace DL
open PySem PySem.Spec PyProof.Rows L2
/-- what is known of a class of errors whose __init__ keeps its arguments -/
def Raiser (P : Program) (w : World) (K : PySem.W.Frag) (mg : Str → Option Value) (base : Heap) (ct : CT) (k : Nat) (c : Str) (fs : List Str) : Prop :=
  ∃ (C fI : Addr) (fd : FuncData) (ps : List Str), mg c = some (.ref C) ∧ ct c = some C ∧ OexB K C ∧ PySem.W.findIn K (.ref C) "__init__" = some (some (.ref fI)) ∧ PySem.W.typeIn K (.ref fI) = some (.type "function") ∧ Binds K fd ps [] ∧
    ((∃ f, fs = [f] ∧ PySem.W.findIn K (.ref C) f = some none ∧ FnG P w K mg base k fI fd ps (spI1 K f)) ∨ ∃ f g, fs = [g, f] ∧ PySem.W.findIn K (.ref C) f = some none ∧ PySem.W.findIn K (.ref C) g = some none ∧ FnG P w K mg base k fI fd ps (spI2 K f g))
theorem Raiser.mono {P : Program} {w : World} {K : PySem.W.Frag} {mg : Str → Option Value} {base : Heap} {ct : CT} {j k : Nat} {c : Str} {fs : List Str} (r : Raiser P w K mg base ct j c fs) (h : j ≤ k) : Raiser P w K mg base ct k c fs := by
  obtain ⟨C, fI, fd, ps, h1, h2, h3, h4, h5, h6, h7⟩ := r
  refine ⟨C, fI, fd, ps, h1, h2, h3, h4, h5, h6, ?_⟩
  rcases h7 with ⟨f, a, b, c⟩ | ⟨f, g, a, b, c, d⟩
  · exact .inl ⟨f, a, b, c.mono h⟩
  · exact .inr ⟨f, g, a, b, c, d.mono h⟩
end DL
namespace DL
open PySem PySem.Spec PyProof.Rows L2
section
variable {P : Program} {w : World} {K : PySem.W.Frag} {mg : Str → Option Value} {base : Heap} {ct : CT}
def CalleeX (P : Program) (w : World) (K : PySem.W.Frag) (mg : Str → Option Value) (base : Heap) (ct : CT) (k : Nat) (x : Str) (n : Nat) (g : XD) (kwb : KWB := []) : Prop :=
  ∃ (f : Addr) (fd : FuncData) (ps : List Str), mg x = some (.ref f) ∧ PySem.W.keepIn K (.ref f) = true ∧ (Binds K fd ps [] ∧ KwOk K fd ps 0 kwb) ∧ FnX P w K mg base k f fd ps (spX K ct n g)
theorem CalleeX.mono {j k n : Nat} {x : Str} {g : XD} {kwb : KWB} (c : CalleeX P w K mg base ct j x n g kwb) (h : j ≤ k) : CalleeX P w K mg base ct k x n g kwb := by
  obtain ⟨f, fd, ps, h1, h2, h3, h4⟩ := c
  exact ⟨f, fd, ps, h1, h2, h3, h4.mono h⟩
def CalleeMX (P : Program) (w : World) (K : PySem.W.Frag) (mg : Str → Option Value) (base : Heap) (ct : CT) (k : Nat) (C : Addr) (x : Str) (n : Nat) (g : XD) (kwb : KWB := []) : Prop :=
  ∃ (f : Addr) (fd : FuncData) (ps : List Str), Meth K C x f ∧ (Binds K fd ps [] ∧ KwOk K fd ps 1 kwb) ∧ FnX P w K mg base k f fd ps (spX K ct n g)
theorem CalleeMX.mono {C : Addr} {j k n : Nat} {x : Str} {g : XD} {kwb : KWB} (c : CalleeMX P w K mg base ct j C x n g kwb) (h : j ≤ k) : CalleeMX P w K mg base ct k C x n g kwb := by
  obtain ⟨f, fd, ps, h1, h3, h4⟩ := c
  exact ⟨f, fd, ps, h1, h3, h4.mono h⟩
end
end DL
namespace DL
open PySem PySem.Spec PyProof.Rows L2
end DL
namespace DL
open PySem PySem.Spec PyProof.Rows L2
structure RoomQ (k : Nat) (A : Around) : Prop where
  dp : A.depth + 3 * k + 5 < recursionLimit
  un : A.units + 16 * k + 200 < cLine
  gd : A.guards = some []
theorem RoomQ.mono {j k : Nat} {A : Around} (r : RoomQ k A) (h : j ≤ k) : RoomQ j A := ⟨by have := r.dp; omega, by have := r.un; omega, r.gd⟩
theorem RoomQ.deeper {k : Nat} {A : Around} (r : RoomQ (k + 1) A) (env : Env) : RoomQ k (A.deeper env) := ⟨by have := r.dp; show A.depth + 1 + 3 * k + 5 < _; omega, by have := r.un; show A.units + 3 + 16 * k + 200 < _; omega, r.gd⟩
theorem RoomQ.units {k : Nat} {A : Around} (r : RoomQ k A) : A.units + 64 < cLine := by have := r.un; omega
structure FnQ (P : Program) (w : World) (K : PySem.W.Frag) (mg : Str → Option Value) (base : Heap) (k : Nat) (f : Addr) (fd : FuncData) (ps : List Str) (sp : Sp) : Prop where
  len : ∀ vs H Q E, sp vs H Q E → vs.length = ps.length
  run : ∀ (A : Around) (outer : List Env) (s : Shared) (H : Hp) (args : Args) (us : List Value) (vs : List V) (Q : VK) (E : XK), RoomQ k A → HotP A H → Env0 P w K mg base A outer s H →
    BindsTo s fd args (ps.zip us) → Vals vs us → sp vs H Q E → codeAny (model P w) A (.call (.ref f) args) (CR CX0 outer P w H s Q E) s
section
variable {P : Program} {w : World} {K : PySem.W.Frag} {mg : Str → Option Value} {base : Heap} {ct : CT}
def CalleeQ (P : Program) (w : World) (K : PySem.W.Frag) (mg : Str → Option Value) (base : Heap) (ct : CT) (k : Nat) (x : Str) (n : Nat) (g : FD) : Prop :=
  ∃ (f : Addr) (fd : FuncData) (ps : List Str), mg x = some (.ref f) ∧ PySem.W.keepIn K (.ref f) = true ∧ Binds K fd ps [] ∧ FnQ P w K mg base k f fd ps (spD K ct n g)
end
end DL
namespace DL
open PySem PySem.Spec PyProof.Rows L2
end DL
namespace DL
open PySem PySem.Spec PyProof.Rows L2
end DL
namespace DL
open PySem PySem.Spec PyProof.Rows L2
abbrev NgT : List Str := ["_law_act", "_law_gave", "_law_e", "_law_word"]
structure TShape (sg : Scope) (bg : List Stmt) : Prop where
  body : ∃ (p1 p2 p3 p4 q1 q2 q3 r1 r2 r3 r4 r5 r6 r7 r8 r9 r10 r11 r12 r13 r14 u1 u2 u3 u4 : Pos) (k1 k2 k3 j : Nat), bg = [.Try [.Assign [.Name "_law_gave" p1] (.Call (.Name "_law_act" p2) [] [] p3) p4]
    [.ExceptHandler (some (.Tuple [.Name "WrongValue" q1, .Name "NoAnswer" q2] k1 q3)) (some "_law_e") [.Assign [.Name "_law_word" r1] (.Call (.Name "_law_sort" r2) [.Name "_law_e" r3] [] r4) r5,
      .Return (some (.Tuple [.Name "_law_word" r6, .Call (.Name "_law_attribute" r7) [.Name "_law_e" r8, .Name "_law_word" r9] [] r10] k2 r11)) r12] r13] [] [] r14, .Return (some (.Tuple [.Constant (.str "returned") j u1, .Name "_law_gave" u2] k3 u3)) u4]
  n0 : sg.names.lookup ("_law_act" : Str) = some .local
  n1 : sg.names.lookup ("_law_gave" : Str) = some .local
  n2 : sg.names.lookup ("_law_e" : Str) = some .local
  n3 : sg.names.lookup ("_law_word" : Str) = some .local
  g0 : sg.names.lookup ("_law_sort" : Str) = some .globalImplicit
  g1 : sg.names.lookup ("_law_attribute" : Str) = some .globalImplicit
  g2 : sg.names.lookup ("WrongValue" : Str) = some .globalImplicit
  g3 : sg.names.lookup ("NoAnswer" : Str) = some .globalImplicit
  sc : FnScope NgT ["_law_act"] sg
def ErrTab (K : PySem.W.Frag) (mg : Str → Option Value) (ct : CT) (c1 c2 : Addr) (cs : List Str) : Prop := ∀ c ∈ cs, ∃ C, ct c = some C ∧ PySem.W.exmAny K (.ref C) [.ref c1, .ref c2] = some true
def ToldOk (P : Program) (w : World) (K : PySem.W.Frag) (mg : Str → Option Value) (base : Heap) (ct : CT) (k : Nat) (tn : Str) (cs : List Str) (gs ga : FD) : Prop :=
  ∃ (st : Stmt) (g : Addr) (fd : FuncData) (c1 c2 : Addr), Fun K tn tn st g fd ∧ mg tn = some (.ref g) ∧ Binds K fd ["_law_act"] [] ∧ TShape (defScope st) (defBody st) ∧ mg "WrongValue" = some (.ref c1) ∧ mg "NoAnswer" = some (.ref c2) ∧ ErrTab K mg ct c1 c2 cs ∧
    CalleeQ P w K mg base ct k "_law_sort" 1 gs ∧ CalleeQ P w K mg base ct k "_law_attribute" 2 ga
end DL
namespace DL
open PySem PySem.Spec PyProof.Rows L2
end DL
namespace DL
open PySem PySem.Spec PyProof.Rows L2
def RaiserM (P : Program) (w : World) (K : PySem.W.Frag) (mg : Str → Option Value) (base : Heap) (ct : CT) (k : Nat) (c : Str) (fs : List Str) : Prop := ∃ j, j + 1 ≤ k ∧ Raiser P w K mg base ct j c fs
section
variable {P : Program} {w : World} {K : PySem.W.Frag} {mg : Str → Option Value} {base : Heap} {ct : CT} {c : Str} {st : Stmt} {p1 p2 p3 p4 p5 p6 p7 p8 : Pos}
theorem RaiserM.mono {j k : Nat} {fs : List Str} (r : RaiserM P w K mg base ct j c fs) (h : j ≤ k) : RaiserM P w K mg base ct k c fs := by
  obtain ⟨i, h1, h2⟩ := r
  exact ⟨i, by omega, h2⟩
end
theorem CalleeQ.mono {P : Program} {w : World} {K : PySem.W.Frag} {mg : Str → Option Value} {base : Heap} {ct : CT} {j k n : Nat} {x : Str} {g : FD} (c : CalleeQ P w K mg base ct j x n g) (h : j ≤ k) : CalleeQ P w K mg base ct k x n g := by
  obtain ⟨f, fd, ps, h1, h2, h3, h4⟩ := c
  exact ⟨f, fd, ps, h1, h2, h3, h4.len, fun A o s H ar us vs Q E r => h4.run A o s H ar us vs Q E (r.mono h)⟩
theorem ToldOk.mono {P : Program} {w : World} {K : PySem.W.Frag} {mg : Str → Option Value} {base : Heap} {ct : CT} {j k : Nat} {tn : Str} {cs : List Str} {gs ga : FD} (c : ToldOk P w K mg base ct j tn cs gs ga) (h : j ≤ k) : ToldOk P w K mg base ct k tn cs gs ga := by
  obtain ⟨st, g, fd, c1, c2, h1, h2, h3, h4, h5, h6, h7, h8, h9⟩ := c
  exact ⟨st, g, fd, c1, c2, h1, h2, h3, h4, h5, h6, h7, h8.mono h, h9.mono h⟩
end DL
namespace DL
open PySem PySem.Spec PyProof.Rows L2
end DL
namespace DL
open PySem PySem.Spec PyProof.Rows L2
set_option maxHeartbeats 1000000 in
theorem meets_enumerate_new1 {v : Value} {o : Obj} {H : Heap → Prop} (B : Begins v o H) :
    Meets (Builtin.«enumerate.__new__» ⟨[.type "enumerate", v], []⟩) (fun _ R s => H s.heap ∧
      R (.ok (.ret (.ref (s.heap.push o).objs.size))) { s with heap := (s.heap.push o).push { cls := .type "enumerate", data := .fields #[.none, .bool false, .ref s.heap.objs.size, rawInt 0, .none, .none] } }) :=
  .of_wp fun prog w A R s h => by
    obtain ⟨hp, g, d, tk, os⟩ := s; obtain ⟨h1, h⟩ := h
    have hsub := sub_enumerate
    have q1 : ∀ {A' : Around} {E : Value → Shared → Prop} {Q : Value → Shared → Prop}, Q (.ref hp.objs.size) ⟨hp.push o, g, d, tk, os⟩ → wpAny (model prog w) A' (pyIter v) Q E ⟨hp, g, d, tk, os⟩ :=
      fun q => B.iter prog w _ _ ⟨hp, g, d, tk, os⟩ _ h1 q
    wp_walk using q1
    refine wpAny_stack_any fun st => wpAny_pure ?_
    split
    · rename_i c _ _ _ _ _
      cases (c == Value.type "enumerate")
      · wp_walk using q1
        exact ⟨_, rfl, h⟩
      · wp_walk using q1
        exact ⟨_, rfl, h⟩
    · wp_walk using q1
      exact ⟨_, rfl, h⟩
theorem enum_begin1 {prog : Program} {w : World} {A : Around} {E : Value → Shared → Prop} {s : Shared} {v : Value} {o : Obj} {H : Heap → Prop} {Q : Value → Shared → Prop} (B : Begins v o H) (h1 : H s.heap)
    (h : ∀ h', IsEnum h' (s.heap.objs.size + 1) s.heap.objs.size 0 .none → h'.get? s.heap.objs.size = some o → h'.objs.size = s.heap.objs.size + 2 →
      (∀ b o, s.heap.get? b = some o → h'.get? b = some o) → Q (.ref (s.heap.objs.size + 1)) { s with heap := h' }) :
    wpAny (model prog w) A (call (.type "enumerate") [v]) Q E s := by
  refine callType_new F.called_enumerate (by decide) (F.typeCall_enumerate_1 _) (F.newCall_enumerate_1 _) (fun obj => F.args_object_init_2 obj _) F.entry_enumerate_new
    (meets_enumerate_new1 B) ⟨h1, ?_⟩
  have hz : (s.heap.push o).objs.size = s.heap.objs.size + 1 := Heap.size_push ..
  show _ ∧ _
  rw [hz]
  have he : IsEnum ((s.heap.push o).push { cls := .type "enumerate", data := .fields #[.none, .bool false, .ref s.heap.objs.size, rawInt 0, .none, .none] }) (s.heap.objs.size + 1) s.heap.objs.size 0 .none := by
    have := Heap.get?_push_size (s.heap.push o) (o := { cls := .type "enumerate", data := .fields #[.none, .bool false, .ref s.heap.objs.size, rawInt 0, .none, .none] }) rfl
    rw [hz] at this; exact this
  refine ⟨⟨_, he, rfl⟩, h _ he (Heap.get?_push_of_some _ (Heap.get?_push_size _ B.free)) (by rw [Heap.size_push, hz]) fun b o x => Heap.get?_push_of_some _ (Heap.get?_push_of_some _ x)⟩
/-- the tuple at a, each item in a new pair -/
def IteT (K : PySem.W.Frag) (a : Addr) (xs : List V) : It :=
  ⟨fun i H => SqT K H a xs ∧ i < xs.length, fun i H v H' => ∃ T x, v = .ref T ∧ H T = none ∧ H' = upd H T (.tup [.int (i : Nat), x]) ∧ xs[i]? = some x, fun i H => SqT K H a xs ∧ xs.length = i⟩
theorem turn_enumT {P : Program} {w : World} {K : PySem.W.Frag} {elts : List Expr} {kk : Nat} {tpos : Pos} (a e it : Addr) (xs : List V) :
    Turn P w K (.Tuple elts kk tpos) (IteT K a xs) [e, it] e (fun i h => (∃ old, IsEnum h e it ((i : Nat) : Int) old) ∧ h.IsTupleIter it a i ∧ e ≠ it ∧ e ≠ a ∧ a ≠ it) where
  mem := by simp
  obj := fun i h st b hb => by
    obtain ⟨⟨old, he⟩, ⟨o, ho, hc, hd⟩, _⟩ := st
    have e' : b = e ∨ b = it := by simpa using hb
    rcases e' with z | z
    · rw [z]; exact ⟨_, he, fun v q => nomatch q⟩
    · rw [z]; exact ⟨o, ho, fun v q => by rw [hd] at q; cases q⟩
  keep := fun i h h' st k => let ⟨⟨old, he⟩, hi, hne⟩ := st; ⟨⟨old, k e (by simp) _ he⟩, hi.at fun o q => k it (by simp) o q, hne⟩
  item := by
    intro X hP hw hK hc i pins s σ H E I hf st hg
    subst hP hw hK
    obtain ⟨⟨old, he⟩, hit, hne, hea, hai⟩ := st
    obtain ⟨hq, hi⟩ := hg
    obtain ⟨its, rv, p, hz⟩ := I.tuple hq
    have hl := rv.length
    have hel : e < s.heap.objs.size := Heap.lt_size he
    have hil : it < s.heap.objs.size := by obtain ⟨_, q, _⟩ := hit; exact Heap.lt_size q
    refine wpAny_pyNext_enum_itemD (Draws.tuple (A := X.A.in1) (I.ok.hd hc) it a hai its.toArray) he ⟨hit, p⟩ (by simp; omega) hne (by simp [hne, hea]) fun x h' tk hP ho hs' hT hsz hk => ?_
    obtain ⟨y, hy⟩ : ∃ y, xs[i]? = some y := ⟨_, List.getElem?_eq_getElem hi⟩
    obtain ⟨u, hu, ru⟩ := rv.get hy
    have ex : x = u := by
      have hP : its.toArray[i]? = some x := hP
      have : its[i]? = some x := by simpa using hP
      rw [hu] at this
      exact (Option.some.inj this).symm
    subst ex
    refine ⟨_, rfl, wpAny_letOwnedTupleGo_enum (s := { s with heap := h', toks := tk + 1 }) ho fun h'' he' sb => ?_⟩
    have hT2 : h''.get? s.heap.objs.size = some { cls := .type "tuple", data := .seq #[.int i tk, x] } := (sb.2 _ (Nat.ne_of_gt hel)).trans hT
    have new : ObjOk X.prog X.w (upd H s.heap.objs.size (.tup [.int (i : Nat), y])) h'' s.heap.objs.size (.tup [.int (i : Nat), y]) :=
      ⟨by show 2 ≤ sizeLine; decide, [.int i tk, x], .cons ⟨_, rfl⟩ (.cons ru .nil), ⟨_, hT2, rfl, _, rfl⟩⟩
    have I1 : Inv X pins σ (upd H s.heap.objs.size (.tup [.int (i : Nat), y])) { s with heap := h'', toks := tk + 1 } :=
      I.turnedNew (ch := [e, it]) (fun b ob hb q => (sb.2 b (fun z => hb (by simp [z]))).trans (hk b ob (fun z => hb (by simp [z])) (fun z => hb (by simp [z])) q)) hf (Nat.le_refl _) new
    refine ⟨.ref s.heap.objs.size, _, I1, rfl, ⟨_, y, rfl, I.hok.fresh (Nat.le_refl _), rfl, hy⟩, ⟨⟨x, ?_⟩, hs'.1.at fun o q => (sb.2 it (Ne.symm hne)).trans q, hne, hea, hai⟩, fun b hb => ?_⟩
    · have e1 : ((i + 1 : Nat) : Int) = (i : Int) + 1 := by omega
      rw [e1]; exact he'
    · have hb' : b < s.heap.objs.size := by
        have e' : b = e ∨ b = it := by simpa using hb
        rcases e' with z | z
        · rw [z]; exact hel
        · rw [z]; exact hil
      rw [upd_ne (Nat.ne_of_lt hb')]
      exact (hf b hb).1
  done := by
    intro X hP hw hK hc i pins s σ H E I hf st hg
    subst hP hw hK
    obtain ⟨⟨old, he⟩, hit, hne, hea, hai⟩ := st
    obtain ⟨hq, hx⟩ := hg
    obtain ⟨its, rv, p, hz⟩ := I.tuple hq
    obtain ⟨f0, f1, f2, f3, f4, f5⟩ := hf it (by simp)
    have hl := rv.length
    subst hx
    refine wpAny_pyNext_enum_endD (Draws.tuple (A := X.A.in1) (I.ok.hd hc) it a hai its.toArray) he ?_ fun h' eb => ⟨rfl, I.turned (t' := s.toks) (fun b o hb q => eb b o hb q) f0 f1 f3 f4 f5⟩
    exact ⟨by rw [show its.toArray.size = xs.length by simp [hl]]; exact hit, p⟩
  self := fun A i s Q E st h => let ⟨⟨_, he⟩, _⟩ := st; wpAny_pyIter_enum he h
def iEnumT (K : PySem.W.Frag) (ta : TA) : TI := fun σ H R => ta σ H fun vs H1 => ∃ a xs, vs = [.ref a] ∧ SqT K H1 a xs ∧ R (IteT K a xs) H1
theorem pi_enumT {X : Cx} {e : Expr} {ta : TA} {p pos tpos : Pos} {elts : List Expr} {kk : Nat} (hg : Gl X "enumerate") (hm : X.mg "enumerate" = none) (ha : PA X [e] ta) (hs : starEach [e] X.env = [(false, eval e X.env)] := by rfl) :
    PI X (.Tuple elts kk tpos) (.Call (.Name "enumerate" p) [e] [] pos) (iEnumT X.K ta) := by
  refine ⟨fun pins s σ H R I h => ?_⟩
  refine Call_ (ld_blt I hg hm boot_enumerate (PyProof.Rows.callWith_type1 (thn (ha.run pos pins s σ H _ I h) fun us s1 ⟨vs, H1, I1, r1, q1⟩ => ?_) hs rfl))
  obtain ⟨a, xs, ex, hq, q⟩ := q1
  subst ex
  cases r1 with
  | cons r rr =>
    cases rr
    cases r
    obtain ⟨its, rv, p', hz⟩ := I1.tuple hq
    have la : a < s1.heap.objs.size := by obtain ⟨_, q, _⟩ := p'; exact Heap.lt_size q
    refine enum_begin1 (begins_tuple a its.toArray) p' fun h' he hit hsz hk => wpAny_pyIter_enum he ?_
    have I2 : Inv X pins σ H1 { s1 with heap := h' } := I1.kept (t' := s1.toks) hk
    refine ⟨s1.heap.objs.size + 1, [s1.heap.objs.size + 1, s1.heap.objs.size], _, _, H1, rfl, I2, turn_enumT a (s1.heap.objs.size + 1) s1.heap.objs.size xs, ⟨⟨.none, he⟩, ⟨_, hit, rfl, rfl⟩, Nat.succ_ne_self _, Nat.ne_of_gt (Nat.lt_succ_of_lt la), Nat.ne_of_lt la⟩, fun b hb => ?_, q⟩
    have e' : b = s1.heap.objs.size + 1 ∨ b = s1.heap.objs.size := by simpa using hb
    have hle : s1.heap.objs.size ≤ b := by
      rcases e' with z | z
      · rw [z]; exact Nat.le_add_right _ _
      · rw [z]; exact Nat.le_refl _
    exact I1.fpOk hle (I1.hok.fresh hle)
def enumD : Nat → List D → List D
  | _, [] => []
  | i, d :: ds => .tup [.int (i : Nat), d] :: enumD (i + 1) ds
theorem enumD_get : ∀ (ds : List D) (k i : Nat), (enumD k ds)[i]? = (ds[i]?).map fun d => D.tup [.int ((k + i : Nat) : Int), d]
  | [], k, i => by simp [enumD]
  | d :: ds, k, 0 => by simp [enumD]
  | d :: ds, k, i + 1 => by
    have := enumD_get ds (k + 1) i
    simp only [enumD, List.getElem?_cons_succ, this]
    congr 1
    funext d
    congr 4
    omega
theorem enumD_len : ∀ (ds : List D) (k : Nat), (enumD k ds).length = ds.length
  | [], k => rfl
  | d :: ds, k => by simp [enumD, enumD_len ds (k + 1)]
def iEnum (fi : FA) : FA := fun env S => (fi env S).bind fun p => some (enumD 0 p.1, p.2)
section
variable {ct : CT} {X : Cx} {e : Expr} {f : FE} {elts : List Expr} {kk : Nat} {p pos tpos : Pos}
theorem pair_new {K : PySem.W.Frag} {m : List Addr} {F H : Hp} {S : Sto} {i : Nat} {T : Addr} {d : D} {v : V} (s : Sim K ct m F S H) (hT : H T = none) (r : Rep K ct m F d v) :
    ∃ F', Ext m F H m F' (upd H T (.tup [.int (i : Nat), v])) ∧ Sim K ct m F' S (upd H T (.tup [.int (i : Nat), v])) ∧ Rep K ct m F' (.tup [.int (i : Nat), d]) (.ref T) := by
  obtain ⟨s2, x2⟩ := s.frozen hT (.tup [.int (i : Nat), v])
  exact ⟨_, x2, s2, T, _, rfl, SqT.of upd_same, _, _, rfl, rfl, _, _, rfl, r.mono x2, rfl⟩
theorem si_enumT (hg : Gl X "enumerate") (hm : X.mg "enumerate" = none) (h : SE ct X e f) (hs : starEach [e] X.env = [(false, eval e X.env)] := by rfl) : SI ct X (.Tuple elts kk tpos) (.Call (.Name "enumerate" p) [e] [] pos) (iEnum (iTup f)) := by
  obtain ⟨ta, pa, ra⟩ := h
  refine ⟨_, pi_enumT hg hm (pa_cons pa pa_nil hs) hs, fun m F S σ H env items S' R s en h p => ?_⟩
  obtain ⟨⟨its, S0⟩, h0, h⟩ := bind_some h
  cases h
  obtain ⟨⟨z, S1⟩, h1, h⟩ := bind_some h0
  refine ra m F S σ H env z S1 _ s en h1 fun m1 F1 v1 H1 x1 s1 r1 => ?_
  cases z with
  | tup ds =>
    cases h
    obtain ⟨q, vs, e1, e2, e3⟩ := r1
    refine ⟨q, vs, by rw [e1], sqT_mono s1.same e2, p m1 F1 _ H1 x1 s1 fun i m2 F2 S2 H2 x2 s2 => ?_⟩
    have hq : SqT X.K H2 q vs := sqT_mono s2.same (sqT_mono x2.same e2)
    refine ⟨fun d hd => ?_, fun hl => ⟨hq, by rw [enumD_len] at hl; rw [← e3.length]; exact hl⟩⟩
    rw [enumD_get] at hd
    obtain ⟨d', hd', rfl⟩ := map_some hd
    obtain ⟨v, g1, g2⟩ := e3.get hd'
    refine ⟨⟨hq, (List.getElem?_eq_some_iff.mp g1).1⟩, fun x H' y => ?_⟩
    obtain ⟨T, y0, y1, y2, y3, y4⟩ := y
    subst y1 y3
    rw [g1] at y4
    cases y4
    rw [Nat.zero_add]
    exact pair_new s2 y2 (g2.mono0 x2)
  | _ => cases h
end
end DL
namespace DL
open PySem PySem.Spec PyProof.Rows L2
theorem EnvR.mono0 {K : PySem.W.Frag} {ct : CT} {m m' : List Addr} {F F' : Hp} {env : DEnv} {σ : L2.St} (h : EnvR K ct m F env σ) (x : Ext0 m F m' F') : EnvR K ct m' F' env σ :=
  ⟨h.1, fun i d q => let ⟨v, h1, h2⟩ := h.2 i d q; ⟨v, h1, h2.mono0 x⟩⟩
theorem Ext0.refl (m : List Addr) (F : Hp) : Ext0 m F m F := ⟨fun _ _ h => h, Same.refl _⟩
end DL
namespace DL
open PySem PySem.Spec PyProof.Rows L2
def mapO (f : D → Option D) : List D → Option (List D)
  | [] => some []
  | d :: ds => (f d).bind fun e => (mapO f ds).map fun es => e :: es
def thaw (S : Sto) : Nat → D → Option D
  | 0, d => if noRef d = true then some d else none
  | n + 1, .ref k => match S[k]? with
    | some (.lst es) => (mapO (thaw S n) es).map .lst
    | some (.dct kvs) => (mapO (thaw S n) (kvs.map (·.2))).map (.dct (kvs.map (·.1)))
    | some (.ins c fs es) => (mapO (thaw S n) es).map (.obj c fs)
    | _ => none
  | n + 1, .tup ds => (mapO (thaw S n) ds).map .tup
  | n + 1, .lst ds => (mapO (thaw S n) ds).map .lst
  | n + 1, d => if noRef d = true then some d else none
/-- what is handed back, the cells within it as they stand -/
def thawD (S : Sto) (d : D) : Option D := if noRef d = true then some d else thaw S 5 d
def over (F H : Hp) (m : List Addr) : Hp := fun a => if a ∈ m then H a else F a
section
variable {K : PySem.W.Frag} {ct : CT} {m m' : List Addr} {F H : Hp} {S : Sto}
theorem over_same (s : Sim K ct m F S H) (hm : ∀ a ∈ m', a ∈ m) : Same F (over F H m') := fun b o h => by
  unfold over
  by_cases hb : b ∈ m'
  · rw [s.off b (hm b hb)] at h; cases h
  · rw [if_neg hb]; exact h
theorem over_at {a : Addr} (h : a ∈ m') : over F H m' a = H a := if_pos h
theorem mapO_rep {f : D → Option D} {F' : Hp} {m2 : List Addr} (hf : ∀ d v d', Rep K ct m F d v → f d = some d' → Rep K ct m2 F' d' v) : ∀ {ds : List D} {vs : List V} {ds' : List D}, Reps K ct m F ds vs → mapO f ds = some ds' → Reps K ct m2 F' ds' vs
  | [], _, _, h, e => by cases e; exact h
  | d :: ds, _, _, h, e => by
    obtain ⟨v, r, e1, e2, e3⟩ := h
    obtain ⟨d', h1, e⟩ := bind_some e
    obtain ⟨ds', h2, rfl⟩ := map_some e
    exact ⟨v, r, e1, hf d v d' e2 h1, mapO_rep hf e3 h2⟩
theorem dct_rep {kvs : List (Key × D)} {us : List (Key × V)} (h : Paired (fun (p : Key × D) (q : Key × V) => p.1 = q.1 ∧ Rep K ct m F p.2 q.2) kvs us) : Reps K ct m F (kvs.map (·.2)) (us.map (·.2)) ∧ us = (kvs.map (·.1)).zip (us.map (·.2)) ∧ (kvs.map (·.1)).length = (us.map (·.2)).length := by
  induction h with
  | nil => exact ⟨rfl, rfl, rfl⟩
  | @cons p q ps qs hh _ ih =>
    obtain ⟨i1, i2, i3⟩ := ih
    refine ⟨⟨_, _, rfl, hh.2, i1⟩, ?_, by simpa using i3⟩
    obtain ⟨qa, qb⟩ := q
    obtain ⟨pa, pb⟩ := p
    have e1 : pa = qa := hh.1
    subst e1
    exact congrArg ((pa, qb) :: ·) i2
/-- m' : the cells that S tells of, but for those that are left out -/
theorem thaw_rep {S' : Sto} {m2 : List Addr} (s : Sim K ct m F S H) (hm : ∀ a ∈ m', a ∈ m) (hS : ∀ (k : Nat) (c : Cell), S'[k]? = some c → isTab c = none → ∃ a, m[k]? = some a ∧ a ∈ m' ∧ S[k]? = some c) :
    ∀ (n : Nat) (d : D) (v : V) (d' : D), Rep K ct m F d v → thaw S' n d = some d' → Rep K ct m2 (over F H m') d' v := by
  have base : ∀ (d : D) (v : V) (d' : D), Rep K ct m F d v → (if noRef d = true then some d else none) = some d' → Rep K ct m2 (over F H m') d' v := fun d v d' r e => by
    split at e
    · rename_i hn
      cases e
      exact Rep.noref _ _ hn (Rep.mono' (fun _ _ h => h) (over_same s hm) _ _ r)
    · cases e
  intro n
  induction n with
  | zero => exact base
  | succ n ih =>
    intro d v d' r e
    cases d with
    | ref k =>
      obtain ⟨a, h1, rfl⟩ := r
      have e : (match S'[k]? with
        | some (.lst es) => (mapO (thaw S' n) es).map .lst
        | some (.dct kvs) => (mapO (thaw S' n) (kvs.map (·.2))).map (.dct (kvs.map (·.1)))
        | some (.ins c fs es) => (mapO (thaw S' n) es).map (.obj c fs)
        | _ => none) = some d' := e
      split at e
      · rename_i es hk
        obtain ⟨es', h2, rfl⟩ := map_some e
        obtain ⟨a', g1, g2, g3⟩ := hS k _ hk rfl
        rw [h1] at g1; cases g1
        obtain ⟨vs, c1, c2⟩ := s.cell k a _ h1 g3
        exact ⟨a, vs, rfl, by rw [over_at g2]; exact c1, mapO_rep ih c2 h2⟩
      · rename_i kvs hk
        obtain ⟨es', h2, rfl⟩ := map_some e
        obtain ⟨a', g1, g2, g3⟩ := hS k _ hk rfl
        rw [h1] at g1; cases g1
        obtain ⟨us, c1, c2⟩ := s.cell k a _ h1 g3
        obtain ⟨i1, i2, i3⟩ := dct_rep c2
        exact ⟨a, us.map (·.2), rfl, by rw [over_at g2, ← i2]; exact c1, i3, mapO_rep ih i1 h2⟩
      · rename_i c fs es hk
        obtain ⟨es', h2, rfl⟩ := map_some e
        obtain ⟨a', g1, g2, g3⟩ := hS k _ hk rfl
        rw [h1] at g1; cases g1
        obtain ⟨C, dx, vs, c1, c3, c4, c2⟩ := s.cell k a _ h1 g3
        exact ⟨a, C, dx, vs, rfl, c3, by rw [over_at g2]; exact c1, c4, mapO_rep ih c2 h2⟩
      · cases e
    | tup ds =>
      obtain ⟨ds', h2, rfl⟩ := map_some (show (mapO (thaw S' n) ds).map .tup = some d' from e)
      obtain ⟨a, vs, e1, e2, e3⟩ := r
      exact ⟨a, vs, e1, sqT_mono (over_same s hm) e2, mapO_rep ih e3 h2⟩
    | lst ds =>
      obtain ⟨ds', h2, rfl⟩ := map_some (show (mapO (thaw S' n) ds).map .lst = some d' from e)
      obtain ⟨a, vs, e1, e2, e3⟩ := r
      exact ⟨a, vs, e1, over_same s hm _ _ e2, mapO_rep ih e3 h2⟩
    | _ => exact base _ v d' r e
theorem thawD_rep {S' : Sto} {m2 : List Addr} (s : Sim K ct m F S H) (hm : ∀ a ∈ m', a ∈ m) (hS : ∀ (k : Nat) (c : Cell), S'[k]? = some c → isTab c = none → ∃ a, m[k]? = some a ∧ a ∈ m' ∧ S[k]? = some c)
    {d : D} {v : V} {d' : D} (r : Rep K ct m F d v) (e : thawD S' d = some d') : Rep K ct m2 (over F H m') d' v := by
  unfold thawD at e
  split at e
  · rename_i hn
    cases e
    exact Rep.noref _ _ hn (Rep.mono' (fun _ _ h => h) (over_same s hm) _ _ r)
  · exact thaw_rep s hm hS _ _ _ _ r e
end
/-- a def that is handed plain data alone: told over no cells -/
def pureD (g : FD) : FD := fun ds S => if noRefs ds = true then (g ds []).bind fun q => (thawD q.2 q.1).map fun d => (d, S) else none
section
variable {P : Program} {w : World} {K : PySem.W.Frag} {mg : Str → Option Value} {base : Heap} {ct : CT}
theorem pure_ok {k n : Nat} {f : Addr} {fd : FuncData} {ps : List Str} {g : FD} (G : FnG P w K mg base k f fd ps (spD K ct n g)) : FnG P w K mg base k f fd ps (spD K ct n (pureD g)) := by
  refine G.imp fun vs H Q E hs => ?_
  obtain ⟨hl, m, F, S, ds, d', S1, s, reps, hg, post⟩ := hs
  unfold pureD at hg
  split at hg
  case isFalse => cases hg
  rename_i hn
  obtain ⟨⟨d, S2⟩, h1, hg⟩ := bind_some hg
  obtain ⟨d2, h2, e⟩ := map_some hg
  cases e
  refine ⟨hl, [], F, [], ds, d, S2, ⟨s.same, rfl, List.nodup_nil, fun a h => (nomatch h), fun i a c h _ => (by simp at h), fun i a c q h _ _ => (by simp at h)⟩, Reps.noref _ _ hn reps, h1, ?_⟩
  intro m' F' v H' x s' r
  have h2 : thawD S2 d = some d' := h2
  have rr : Rep K ct m (over F' H' m') d' v := thawD_rep s' (fun a h => h) (fun k c hk _ => by
    have hi : k < m'.length := by rw [s'.len]; exact (List.getElem?_eq_some_iff.mp hk).1
    exact ⟨m'[k], List.getElem?_eq_getElem hi, List.getElem_mem hi, hk⟩) r h2
  have out : ∀ a ∈ m, a ∉ m' := fun a ha hm => by
    obtain ⟨o, ho⟩ := s.there ha
    rcases x.new a hm with q | q
    · cases q
    · rw [ho] at q; cases q
  have fo : ∀ a ∈ m, F' a = none := fun a ha => by
    obtain ⟨o, ho⟩ := s.there ha
    cases e : F' a with
    | none => rfl
    | some z =>
      rcases x.fnew a z e with q | q
      · rw [s.off a ha] at q; cases q
      · rw [ho] at q; cases q
  have sm : Same F (over F' H' m') := x.same.trans (over_same s' fun a h => h)
  refine post m (over F' H' m') v H' ⟨fun _ _ h => h, sm, fun b o h _ => x.keep b o h (by simp), fun a h => .inl h, fun b o h => ?_, x.grow⟩ ⟨fun b o h => ?_, s.len, s.nd, fun a ha => ?_, fun i a c h1 h2 => ?_, s.tab⟩ rr
  · unfold over at h
    split at h
    · rename_i hb
      rcases x.new b hb with q | q
      · cases q
      · exact .inr q
    · exact x.fnew b o h
  · unfold over at h
    split at h
    · exact h
    · exact s'.same _ _ h
  · unfold over
    rw [if_neg (out a ha)]
    exact fo a ha
  · have hm : a ∈ m := List.mem_iff_getElem?.mpr ⟨i, h1⟩
    obtain ⟨o, ho⟩ := s.there hm
    have cr := s.cell i a c h1 h2
    rw [x.keep a o ho (by simp), ← ho]
    exact cr.mono' (fun _ _ h => h) sm
theorem Callee.pure {k n : Nat} {x : Str} {g : FD} {kwb : KWB} (c : Callee P w K mg base ct k x n g kwb) : Callee P w K mg base ct k x n (pureD g) kwb := by
  obtain ⟨f, fd, ps, h1, h2, h3, h4⟩ := c
  exact ⟨f, fd, ps, h1, h2, h3, pure_ok h4⟩
end
/-- a def that is handed one cell, ahead of plain data: told over this cell alone -/
def pure1D (g : FD) : FD := fun ds S => match ds with
  | .ref k :: rest => if noRefs rest = true then match S[k]? with
    | some c => if cellFree c = true ∧ isTab c = none then (g (.ref 0 :: rest) [c]).bind fun q => match q.2 with
      | c' :: more => if cellFree c' = true ∧ isTab c' = none then (thawD (.tab "" :: more) q.1).map fun d => (d, S.set k c') else none
      | [] => none
      else none
    | none => none
    else none
  | _ => none
section
variable {P : Program} {w : World} {K : PySem.W.Frag} {mg : Str → Option Value} {base : Heap} {ct : CT}
theorem pure1_ok {k n : Nat} {f : Addr} {fd : FuncData} {ps : List Str} {g : FD} (G : FnG P w K mg base k f fd ps (spD K ct n g)) : FnG P w K mg base k f fd ps (spD K ct n (pure1D g)) := by
  refine G.imp fun vs H Q E hs => ?_
  obtain ⟨hl, m, F, S, ds, d', S1, s, reps, hg, post⟩ := hs
  unfold pure1D at hg
  split at hg
  case h_2 => cases hg
  rename_i kk rest
  split at hg
  case isFalse => cases hg
  rename_i hn
  split at hg
  case h_2 => cases hg
  rename_i c hc
  split at hg
  case isFalse => cases hg
  rename_i hcf
  obtain ⟨⟨d, S2⟩, h1, hg⟩ := bind_some hg
  dsimp only at hg
  split at hg
  case h_2 => cases hg
  rename_i c' more
  split at hg
  case isFalse => cases hg
  rename_i hcf'
  obtain ⟨d2, h2, e⟩ := map_some hg
  cases e
  obtain ⟨v0, vr, rfl, ⟨a, ha, rfl⟩, rr⟩ := reps
  have am : a ∈ m := List.mem_iff_getElem?.mpr ⟨kk, ha⟩
  obtain ⟨o0, hH⟩ := s.there am
  have cr0 := s.cell kk a c ha hc
  refine ⟨hl, [a], F, [c], .ref 0 :: rest, d, c' :: more, ⟨s.same, rfl, by simp, fun b h => ?_, fun i b e h g => ?_, fun i b e q h g h3 => ?_⟩, ⟨_, _, rfl, ⟨a, rfl, rfl⟩, Reps.noref _ _ hn rr⟩, h1, ?_⟩
  · rw [List.mem_singleton.mp h]; exact s.off a am
  · match i, h, g with
    | 0, h, g => cases h; cases g; exact cr0.noref hcf.1
    | i + 1, h, g => simp at h
  · match i, h, g with
    | 0, h, g => cases g; rw [hcf.2] at h3; cases h3
    | i + 1, h, g => simp at h
  intro m' F' v H' x s' r
  have h2 : thawD (.tab "" :: more) d = some d' := h2
  have hm0 : m'[0]? = some a := x.pre 0 a rfl
  have e' : m' = a :: m'.drop 1 := by
    match m', hm0 with
    | b :: t, h => cases h; rfl
  have hd : ∀ b ∈ m'.drop 1, b ∈ m' := fun b h => List.mem_of_mem_drop h
  have na : a ∉ m'.drop 1 := by
    have := s'.nd
    rw [e'] at this
    exact (List.nodup_cons.mp this).1
  have rr : Rep K ct m (over F' H' (m'.drop 1)) d' v := thawD_rep s' hd (fun k c hk ht => by
    match k, hk with
    | 0, hk => cases hk; cases ht
    | k + 1, hk =>
      have hk : more[k]? = some c := hk
      have hi : k + 1 < m'.length := by rw [s'.len]; have := (List.getElem?_eq_some_iff.mp hk).1; simp; omega
      refine ⟨m'[k + 1], List.getElem?_eq_getElem hi, ?_, hk⟩
      refine List.mem_iff_getElem?.mpr ⟨k, ?_⟩
      rw [List.getElem?_drop, Nat.add_comm 1 k, List.getElem?_eq_getElem hi]) r h2
  have out : ∀ b ∈ m, b ∉ m'.drop 1 := fun b hb hm => by
    obtain ⟨o, ho⟩ := s.there hb
    rcases x.new b (hd b hm) with q | q
    · rw [List.mem_singleton.mp q] at hm; exact na hm
    · rw [ho] at q; cases q
  have fo : ∀ b ∈ m, F' b = none := fun b hb => by
    obtain ⟨o, ho⟩ := s.there hb
    cases e : F' b with
    | none => rfl
    | some z =>
      rcases x.fnew b z e with q | q
      · rw [s.off b hb] at q; cases q
      · rw [ho] at q; cases q
  have sm : Same F (over F' H' (m'.drop 1)) := x.same.trans (over_same s' hd)
  refine post m (over F' H' (m'.drop 1)) v H' ⟨fun _ _ h => h, sm, fun b o h hb => x.keep b o h (fun z => hb (by rw [List.mem_singleton.mp z]; exact am)), fun b h => .inl h, fun b o h => ?_, x.grow⟩ ⟨fun b o h => ?_, by rw [List.length_set]; exact s.len, s.nd, fun b hb => ?_, fun i b e h1 h2 => ?_, fun i b e q h1 h2 h3 => ?_⟩ rr
  · unfold over at h
    split at h
    · rename_i hb
      rcases x.new b (hd b hb) with q | q
      · rw [List.mem_singleton.mp q] at hb; exact absurd hb na
      · exact .inr q
    · exact x.fnew b o h
  · unfold over at h
    split at h
    · exact h
    · exact s'.same _ _ h
  · unfold over
    rw [if_neg (out b hb)]
    exact fo b hb
  · by_cases hi : kk = i
    · subst hi
      rw [ha] at h1; cases h1
      rw [List.getElem?_set_self (by rw [← s.len]; exact (List.getElem?_eq_some_iff.mp ha).1)] at h2
      cases h2
      exact ((s'.cell 0 a c' hm0 rfl).noref hcf'.1).mono' (fun _ _ h => h) (over_same s' hd)
    · rw [List.getElem?_set_ne hi] at h2
      have hm : b ∈ m := List.mem_iff_getElem?.mpr ⟨i, h1⟩
      have nb : b ≠ a := fun e => hi (nodup_inj s.nd ha (e ▸ h1))
      obtain ⟨o, ho⟩ := s.there hm
      have cr := s.cell i b e h1 h2
      rw [x.keep b o ho (by simpa using nb), ← ho]
      exact cr.mono' (fun _ _ h => h) sm
  · by_cases hi : kk = i
    · subst hi
      rw [List.getElem?_set_self (by rw [← s.len]; exact (List.getElem?_eq_some_iff.mp ha).1)] at h2
      cases h2
      rw [hcf'.2] at h3; cases h3
    · rw [List.getElem?_set_ne hi] at h2
      exact s.tab i b e q h1 h2 h3
theorem Callee.pure1 {k n : Nat} {x : Str} {g : FD} {kwb : KWB} (c : Callee P w K mg base ct k x n g kwb) : Callee P w K mg base ct k x n (pure1D g) kwb := by
  obtain ⟨f, fd, ps, h1, h2, h3, h4⟩ := c
  exact ⟨f, fd, ps, h1, h2, h3, pure1_ok h4⟩
end
theorem pure_eq {g : FD} {ds : List D} {S S2 : Sto} {d e : D} (hn : noRefs ds = true) (h : g ds [] = some (d, S2)) (ht : thawD S2 d = some e) : pureD g ds S = some (e, S) := by
  unfold pureD
  rw [if_pos hn, h]
  show (thawD S2 d).map _ = _
  rw [ht]
  rfl
theorem thawD_of {S : Sto} {d : D} (h : noRef d = true) : thawD S d = some d := by unfold thawD; rw [if_pos h]
theorem pure1_eq {g : FD} {rest : List D} {S more : Sto} {k : Nat} {c c' : Cell} {d e : D} (hn : noRefs rest = true) (hk : S[k]? = some c) (hc : cellFree c = true ∧ isTab c = none) (h : g (.ref 0 :: rest) [c] = some (d, c' :: more)) (hc' : cellFree c' = true ∧ isTab c' = none) (ht : thawD (.tab "" :: more) d = some e) :
    pure1D g (.ref k :: rest) S = some (e, S.set k c') := by
  show (if noRefs rest = true then match S[k]? with
    | some c => if cellFree c = true ∧ isTab c = none then (g (.ref 0 :: rest) [c]).bind fun q => match q.2 with
      | c' :: more => if cellFree c' = true ∧ isTab c' = none then (thawD (.tab "" :: more) q.1).map fun d => (d, S.set k c') else none
      | [] => none
      else none
    | none => none
    else none) = _
  rw [if_pos hn, hk]
  show (if cellFree c = true ∧ isTab c = none then _ else none) = _
  rw [if_pos hc, h]
  show (if cellFree c' = true ∧ isTab c' = none then _ else none) = _
  rw [if_pos hc', ht]
  rfl
end DL
namespace DL
open PySem PySem.Spec PyProof.Rows L2
theorem walkE {l : PySem.W.OpenLaw} {k : Nat} {q : Program} {loose : List Str} {XP : (Str → Option Value) → Heap → Prop} {YP : World → Heap → Prop} {d : DefRec} {x : Str}
    (hn : l.most = some 63) (hdf : d.params.defaults = []) (hr : Room k callerA)
    (F : ∀ (w : World) (mg : Str → Option Value) (fa : Addr) (h : Heap), YP w h → h.Ns mainGlobals mg → mg d.name = some (.ref fa) →
      ∃ (K : Fr) (fd : FuncData), K.In h ∧ (∀ (z : Shared) (u : Value), BindsTo z fd ⟨[u], []⟩ [(x, u)]) ∧ ∀ base : Heap, K.In base → base.Ns mainGlobals mg → FnG l.prog w K mg base k fa fd [x] (spScr K)) :
    PySem.W.WalkO q loose XP YP l.row.toRowW d [] (fun f vs => PySem.call f vs) := by
  refine Att.attach_call hn hdf fun w s₀ s₁ mg mb fa o pm cd doc a vs ns G Y ho hd hcd hmg hobj hints hlen hg => ?_
  obtain ⟨K, fd, KX, hb, hF⟩ := F w mg fa _ Y G.T.g hmg
  exact lawG KX G.T.g G.T.b G.T.builtins G.T.nolimit hg hobj hints (Nat.le_trans hlen (by decide)) hr hF hb fun H hS => ⟨a, ns, rfl, hS, hlen, fun _ => rfl⟩
end DL
namespace DL
open PySem PySem.Spec PyProof.Rows L2
theorem RoomG.units65 {k : Nat} {A : Around} (r : RoomG k A) : A.units + 65 < cLine := by have := r.room.un; omega
/-- the items of a list, a cell's among them -/
def lstOf (S : Sto) : D → Option (List D)
  | .lst ds => some ds
  | .ref k => match S[k]? with
    | some (.lst ds) => some ds
    | _ => none
  | _ => none
section
variable {ct : CT} {K : PySem.W.Frag}
theorem lst_at {m : List Addr} {F H : Hp} {S : Sto} {d : D} {v : V} {ds : List D} (s : Sim K ct m F S H) (r : Rep K ct m F d v) (h : lstOf S d = some ds) : ∃ a vs, v = .ref a ∧ H a = some (.lst vs) ∧ Reps K ct m F ds vs := by
  cases d with
  | lst es =>
    cases h
    obtain ⟨a, vs, e1, e2, e3⟩ := r
    exact ⟨a, vs, e1, s.same _ _ e2, e3⟩
  | ref k =>
    obtain ⟨a, h1, rfl⟩ := r
    have h : (match S[k]? with
      | some (.lst ds) => some ds
      | _ => none) = some ds := h
    split at h
    · rename_i es hk
      cases h
      obtain ⟨vs, c1, c2⟩ := s.cell k a _ h1 hk
      exact ⟨a, vs, rfl, c1, c2⟩
    · cases h
  | _ => cases h
def gAddX : D → D → Sto → Option (D × Sto)
  | .int i, .int j, S => some (.int (i + j), S)
  | .str x, .str y, S => if x.length + y.length ≤ 16777216 then some (.str (x ++ y), S) else none
  | .tup a, .tup b, S => if a.length + b.length ≤ 1000000 then some (.tup (a ++ b), S) else none
  | x, y, S => (lstOf S x).bind fun a => (lstOf S y).bind fun b => if a.length + b.length ≤ 1000000 then some (.lst (a ++ b), S) else none
def rAddX (K : PySem.W.Frag) : R2 := fun x y H Q => rAddAll x y H Q ∨ rCatA K x y H Q
theorem op_addX {X : Cx} : OpR X (binaryOp .Add) (rAddX X.K) := op_addAll.or op_catA
theorem cat_lists {m : List Addr} {F H : Hp} {S S' : Sto} {x y : V} {dx dy d : D} {Q : VK} (s : Sim K ct m F S H) (rx : Rep K ct m F dx x) (ry : Rep K ct m F dy y)
    (h : ((lstOf S dx).bind fun a => (lstOf S dy).bind fun b => if a.length + b.length ≤ 1000000 then some (D.lst (a ++ b), S) else none) = some (d, S')) (p : PostE ct K m F H S' d Q) : rAddX K x y H Q := by
  obtain ⟨as, h1, h⟩ := bind_some h
  obtain ⟨bs, h2, h⟩ := bind_some h
  split at h
  case isFalse => cases h
  rename_i hl
  cases h
  obtain ⟨a, vs, e1, e2, e3⟩ := lst_at s rx h1
  obtain ⟨b, us, f1, f2, f3⟩ := lst_at s ry h2
  refine .inl (.inr (.inr ⟨a, b, vs, us, e1, f1, e2, f2, by rw [line_eq, ← e3.length, ← f3.length]; omega, fun q hq => ?_⟩))
  obtain ⟨s2, x2⟩ := s.frozen hq (.lst (vs ++ us))
  exact p m _ (.ref q) _ x2 s2 ⟨q, _, rfl, upd_same, (e3.append f3).mono x2⟩
theorem od_addX : OpD ct K (rAddX K) gAddX := by
  intro m F S H x y dx dy d S' Q s rx ry h p
  unfold gAddX at h
  split at h
  · rename_i i j
    cases h
    exact .inl (.inl ⟨i, j, rx, ry, p.now s rfl⟩)
  · rename_i u v
    split at h
    · rename_i hl
      cases h
      exact .inl (.inr (.inl ⟨u, v, rx, ry, by rw [line_eq]; exact hl, p.now s rfl⟩))
    · cases h
  · rename_i as bs
    split at h
    · rename_i hl
      cases h
      obtain ⟨a, vs, e1, e2, e3⟩ := id rx
      obtain ⟨b, us, f1, f2, f3⟩ := id ry
      refine .inr ⟨a, b, vs, us, e1, f1, sqT_mono s.same e2, sqT_mono s.same f2, by rw [line_eq, ← e3.length, ← f3.length]; omega, fun hx => ?_, fun _ hy => ?_, fun _ _ q hq => ?_⟩
      · have : as = [] := List.length_eq_zero_iff.mp (by rw [e3.length, hx]; rfl)
        subst this
        exact p.now s ⟨b, us, rfl, f2, f3⟩
      · have : bs = [] := List.length_eq_zero_iff.mp (by rw [f3.length, hy]; rfl)
        subst this
        rw [List.append_nil] at p
        exact p.now s ⟨a, vs, rfl, e2, e3⟩
      · obtain ⟨s2, x2⟩ := s.frozen hq (.tup (vs ++ us))
        exact p m _ (.ref q) _ x2 s2 ⟨q, _, rfl, SqT.of upd_same, (e3.append f3).mono x2⟩
    · cases h
  · exact cat_lists s rx ry h p
/-- the sum of two lists as a cell -/
def gAddM : D → D → Sto → Option (D × Sto) := fun x y S => (lstOf S x).bind fun a => (lstOf S y).bind fun b => if a.length + b.length ≤ 1000000 then some (.ref S.length, S ++ [.lst (a ++ b)]) else none
def tupI : D → Option (List Int)
  | .tup ds => asInts ds
  | _ => none
theorem tupI_at {m : List Addr} {F H : Hp} {S : Sto} {d : D} {v : V} {ns : List Int} (s : Sim K ct m F S H) (r : Rep K ct m F d v) (h : tupI d = some ns) : ∃ a, v = .ref a ∧ SqT K H a (ns.map V.int) := by
  cases d with
  | tup ds =>
    obtain ⟨a, vs, e1, e2, e3⟩ := r
    have := e3.asInts h
    subst this
    exact ⟨a, e1, sqT_mono s.same e2⟩
  | _ => cases h
def isNoneP : PyData → Bool
  | .none => true
  | _ => false
def rLtDp (K : PySem.W.Frag) : R2 := fun x y H Q => ∃ p q, Dp K H x p ∧ Dp K H y q ∧ PySem.W.alike p q = true ∧ p.depth ≤ 60 ∧ isNoneP p = false ∧ Q (.bl (PySem.W.dataLt p q)) H
theorem op_ltDp {X : Cx} (hu : X.A.units + 64 < cLine) : OpR X (compareOp .Lt) (rLtDp X.K) := fun pins s σ H x y v u Q I rx ry ⟨p, q, hp, hq, al, dp, hn, k⟩ =>
  let ⟨_, r1⟩ := Dp.reads I p x v hp rx
  let ⟨_, r2⟩ := Dp.reads I q y u hq ry
  PySem.W.rcLt_alike p q X.A s v u _ _ r1 r2 al (fun e => by rw [e] at hn; cases hn) (by omega) X.prog X.w X.xe (EP X pins σ Q) ⟨.bl _, H, I, rfl, k⟩
/-- < of lists of alike data -/
def ltDeep (x y : D) : Option D := (toP x).bind fun p => (toP y).bind fun q => if PySem.W.alike p q = true ∧ p.depth ≤ 60 ∧ isNoneP p = false then some (.bl (PySem.W.dataLt p q)) else none
def gLtX : D → D → Sto → Option (D × Sto)
  | .int i, .int j, S => some (.bl (decide (i < j)), S)
  | .lst xs, .lst ys, S => (ltDeep (.lst xs) (.lst ys)).map fun d => (d, S)
  | x, y, S => (tupI x).bind fun ns => (tupI y).bind fun ms => some (.bl (HT.lexLt ns ms), S)
def leL : List Int → List Int → Bool
  | [], _ => true
  | _ :: _, [] => false
  | x :: xs, y :: ys => if x = y then leL xs ys else decide (x ≤ y)
def gLeX : D → D → Sto → Option (D × Sto)
  | .int i, .int j, S => some (.bl (decide (i ≤ j)), S)
  | x, y, S => (tupI x).bind fun ns => (tupI y).bind fun ms => some (.bl (leL ns ms), S)
theorem lexAt_shift {e r : Nat → Bool} {z : Bool} : ∀ (k i : Nat), Ob.lexAt e r z (i + 1) k = Ob.lexAt (fun j => e (j + 1)) (fun j => r (j + 1)) z i k
  | 0, i => rfl
  | k + 1, i => by
    rw [Ob.lexAt_succ, Ob.lexAt_succ, lexAt_shift k (i + 1)]
theorem leL_eq : ∀ ns ms : List Int, Ob.lexAt (fun j => decide (ns.getD j 0 = ms.getD j 0)) (fun j => decide (ns.getD j 0 ≤ ms.getD j 0)) (decide (ns.length ≤ ms.length)) 0 (min ns.length ms.length) = leL ns ms
  | [], ms => by simp [Ob.lexAt, leL]
  | x :: xs, [] => by simp [Ob.lexAt, leL]
  | x :: xs, y :: ys => by
    have ih := leL_eq xs ys
    rw [show min (x :: xs).length (y :: ys).length = min xs.length ys.length + 1 by simp [Nat.succ_min_succ], Ob.lexAt_succ, lexAt_shift]
    simp only [List.getD_cons_zero, List.getD_cons_succ, List.length_cons, Nat.add_le_add_iff_right]
    rw [ih]
    simp only [leL, decide_eq_true_eq]
def rLtX (K : PySem.W.Frag) : R2 := fun x y H Q => rI0 (fun i j => .bl (decide (i < j))) x y H Q ∨ rLtT K x y H Q ∨ rLtDp K x y H Q
def rLeX (K : PySem.W.Frag) : R2 := fun x y H Q => rI0 (fun i j => .bl (decide (i ≤ j))) x y H Q ∨ rLeT K x y H Q
theorem op_ltX {X : Cx} {k : Nat} (hr : RoomG k X.A) : OpR X (compareOp .Lt) (rLtX X.K) := op_lt.or ((op_ltT (Nat.lt_of_le_of_lt (Nat.le_add_right _ 64) hr.units)).or (op_ltDp hr.units))
theorem op_leX {X : Cx} {k : Nat} (hr : RoomG k X.A) : OpR X (compareOp .LtE) (rLeX X.K) := op_le.or (op_leT (Nat.lt_of_le_of_lt (Nat.le_add_right _ 64) hr.units))
theorem od_ltX : OpD ct K (rLtX K) gLtX := by
  intro m F S H x y dx dy d S' Q s rx ry h p
  unfold gLtX at h
  split at h
  · rename_i i j
    cases h
    exact .inl ⟨i, j, rx, ry, p.now s rfl⟩
  · obtain ⟨z, h2, e⟩ := map_some h
    cases e
    unfold ltDeep at h2
    obtain ⟨dp, g1, h2⟩ := bind_some h2
    obtain ⟨dq, g2, h2⟩ := bind_some h2
    split at h2
    case isFalse => cases h2
    rename_i hs
    cases h2
    exact .inr (.inr ⟨dp, dq, Rep.dp s.same _ _ _ rx g1, Rep.dp s.same _ _ _ ry g2, hs.1, hs.2.1, hs.2.2, p.now s rfl⟩)
  · obtain ⟨ns, h1, h⟩ := bind_some h
    obtain ⟨ms, h2, h⟩ := bind_some h
    cases h
    obtain ⟨a, e1, e2⟩ := tupI_at s rx h1
    obtain ⟨b, f1, f2⟩ := tupI_at s ry h2
    exact .inr (.inl ⟨a, b, ns, ms, e1, f1, e2, f2, p.now s rfl⟩)
theorem od_leX : OpD ct K (rLeX K) gLeX := by
  intro m F S H x y dx dy d S' Q s rx ry h p
  unfold gLeX at h
  split at h
  · rename_i i j
    cases h
    exact .inl ⟨i, j, rx, ry, p.now s rfl⟩
  · obtain ⟨ns, h1, h⟩ := bind_some h
    obtain ⟨ms, h2, h⟩ := bind_some h
    cases h
    obtain ⟨a, e1, e2⟩ := tupI_at s rx h1
    obtain ⟨b, f1, f2⟩ := tupI_at s ry h2
    refine .inr ⟨a, b, ns, ms, e1, f1, e2, f2, ?_⟩
    rw [leL_eq]
    exact p.now s rfl
def inDeep (neg : Bool) (x : D) (ds : List D) : Option D := (toP x).bind fun p => (toPs ds).bind fun qs => if SeqAt.shaped p = true ∧ SeqAt.shaped (.list qs) = true then some (.bl (if neg then !qs.any (fun z => PyData.eqv z p) else qs.any fun z => PyData.eqv z p)) else none
def gInX (neg : Bool) : D → D → Sto → Option (D × Sto) := fun x y S => match gInB neg x y S with
  | some r => some r
  | none => match y with
    | .tup ds => (inDeep neg x ds).map fun d => (d, S)
    | y => (lstOf S y).bind fun ds => (inDeep neg x ds).map fun d => (d, S)
def rInDT (K : PySem.W.Frag) (neg : Bool) : R2 := fun x y H Q => ∃ d ds, Dp K H x d ∧ Dp K H y (.tuple ds) ∧ SeqAt.shaped d = true ∧ SeqAt.shaped (.tuple ds) = true ∧ Q (.bl (if neg then !ds.any (fun z => PyData.eqv z d) else ds.any fun z => PyData.eqv z d)) H
theorem op_inDT {X : Cx} (hu : X.A.units + 65 < cLine) : OpR X (compareOp .In) (rInDT X.K false) := fun pins s σ H x y v u Q I rx ry ⟨d, ds, hd, he, sd, se, q⟩ =>
  let ⟨_, r1⟩ := Dp.reads I d x v hd rx
  let ⟨_, r2⟩ := Dp.reads I (.tuple ds) y u he ry
  SeqAt.in_tuple_reads r2 r1 (SeqAt.canLay_of_shaped se) (SeqAt.canLay_of_shaped sd) (room_in_shaped (xs := ds) sd hu) ⟨.bl _, H, I, rfl, q⟩
theorem op_notInDT {X : Cx} (hu : X.A.units + 65 < cLine) : OpR X (compareOp .NotIn) (rInDT X.K true) := fun pins s σ H x y v u Q I rx ry ⟨d, ds, hd, he, sd, se, q⟩ =>
  let ⟨_, r1⟩ := Dp.reads I d x v hd rx
  let ⟨_, r2⟩ := Dp.reads I (.tuple ds) y u he ry
  SeqAt.notIn_tuple_reads r2 r1 (SeqAt.canLay_of_shaped se) (SeqAt.canLay_of_shaped sd) (room_in_shaped (xs := ds) sd hu) ⟨.bl _, H, I, rfl, q⟩
def rInX (K : PySem.W.Frag) : R2 := fun x y H Q => rInAll K x y H Q ∨ rInD K x y H Q ∨ rInDT K false x y H Q
def rNotInX (K : PySem.W.Frag) : R2 := fun x y H Q => rNotInAll K x y H Q ∨ rNotInD K x y H Q ∨ rInDT K true x y H Q
theorem op_inX {X : Cx} {k : Nat} (hr : RoomG k X.A) : OpR X (compareOp .In) (rInX X.K) := op_inAll.or ((op_inD hr.units65).or (op_inDT hr.units65))
theorem op_notInX {X : Cx} {k : Nat} (hr : RoomG k X.A) : OpR X (compareOp .NotIn) (rNotInX X.K) := op_notInAll.or ((op_notInD hr.units65).or (op_notInDT hr.units65))
theorem in_deep {neg : Bool} {m : List Addr} {F H : Hp} {S S' : Sto} {x y : V} {dx dy d : D} {Q : VK} (s : Sim K ct m F S H) (rx : Rep K ct m F dx x) (ry : Rep K ct m F dy y)
    (h : ((lstOf S dy).bind fun ds => (inDeep neg dx ds).map fun d => (d, S)) = some (d, S')) (p : PostE ct K m F H S' d Q) : ∃ dp ds, Dp K H x dp ∧ Dp K H y (.list ds) ∧ SeqAt.shaped dp = true ∧ SeqAt.shaped (.list ds) = true ∧ Q (.bl (if neg then !ds.any (fun z => PyData.eqv z dp) else ds.any fun z => PyData.eqv z dp)) H := by
  obtain ⟨ds, h1, h⟩ := bind_some h
  obtain ⟨z, h2, e⟩ := map_some h
  cases e
  unfold inDeep at h2
  obtain ⟨dp, g1, h2⟩ := bind_some h2
  obtain ⟨qs, g2, h2⟩ := bind_some h2
  split at h2
  case isFalse => cases h2
  rename_i hs
  cases h2
  obtain ⟨a, vs, e1, e2, e3⟩ := lst_at s ry h1
  subst e1
  exact ⟨dp, qs, Rep.dp s.same _ _ _ rx g1, .lst (SqL.of e2) (Reps.dp s.same _ _ _ e3 g2), hs.1, hs.2, p.now s rfl⟩
theorem in_deepT {neg : Bool} {m : List Addr} {F H : Hp} {S S' : Sto} {x y : V} {dx d : D} {ds : List D} {Q : VK} (s : Sim K ct m F S H) (rx : Rep K ct m F dx x) (ry : Rep K ct m F (.tup ds) y)
    (h : ((inDeep neg dx ds).map fun d => (d, S)) = some (d, S')) (p : PostE ct K m F H S' d Q) : rInDT K neg x y H Q := by
  obtain ⟨z, h2, e⟩ := map_some h
  cases e
  unfold inDeep at h2
  obtain ⟨dp, g1, h2⟩ := bind_some h2
  obtain ⟨qs, g2, h2⟩ := bind_some h2
  split at h2
  case isFalse => cases h2
  rename_i hs
  cases h2
  obtain ⟨a, vs, e1, e2, e3⟩ := ry
  subst e1
  exact ⟨dp, qs, Rep.dp s.same _ _ _ rx g1, .tup (sqT_mono s.same e2) (Reps.dp s.same _ _ _ e3 g2), hs.1, hs.2, p.now s rfl⟩
theorem od_inX : OpD ct K (rInX K) (gInX false) := by
  intro m F S H x y dx dy d S' Q s rx ry h p
  unfold gInX at h
  split at h
  · rename_i r hr
    cases h
    exact .inl (od_in m F S H x y dx dy d S' Q s rx ry hr p)
  · split at h
    · exact .inr (.inr (in_deepT (neg := false) s rx ry h p))
    · exact .inr (.inl (in_deep (neg := false) s rx ry h p))
theorem od_notInX : OpD ct K (rNotInX K) (gInX true) := by
  intro m F S H x y dx dy d S' Q s rx ry h p
  unfold gInX at h
  split at h
  · rename_i r hr
    cases h
    exact .inl (od_notIn m F S H x y dx dy d S' Q s rx ry hr p)
  · split at h
    · exact .inr (.inr (in_deepT (neg := true) s rx ry h p))
    · exact .inr (.inl (in_deep (neg := true) s rx ry h p))
end
def gSlX : D → Option Int → Option Int → Sto → Option (D × Sto)
  | .lst ds, lo, hi, S => some (.lst (cutD ds lo hi), S)
  | .scr ns, lo, hi, S => some (.lst ((cutD ns lo hi).map .int), S)
  | .tup ds, lo, hi, S => some (.tup (cutD ds lo hi), S)
  | .str z, lo, hi, S => if z.length ≤ 16777216 then some (.str (cutS z lo hi), S) else none
  | .ref k, lo, hi, S => match S[k]? with
    | some (.lst ds) => some (.lst (cutD ds lo hi), S)
    | _ => none
  | _, _, _, _ => none
def rSlX (K : PySem.W.Frag) : V → Option Int → Option Int → Hp → VK → Prop := fun x lo hi H Q => rSlL K x lo hi H Q ∨ (rSlA K x lo hi H Q ∨ rSlS x lo hi H Q)
def fSlX (fa : FE) (lo hi : FO) : FE := fun env S => (fa env S).bind fun p => (lo env p.2).bind fun q => (hi env q.2).bind fun r => gSlX p.1 q.1 r.1 r.2
section
variable {ct : CT} {X : Cx} {a : Expr} {fa : FE}
theorem sl_allX : SlR X (rSlX X.K) := sl_list.or (sl_tupA.or sl_str)
theorem cut_whole {α : Type} {xs : List α} {lo hi : Option Int} (h : HT.sIx xs.length 0 lo = 0 ∧ HT.sIx xs.length xs.length hi = xs.length) : cutD xs lo hi = xs := by
  unfold cutD
  rw [h.1, h.2]
  simp
theorem se_sliceX {lo hi : Option Expr} {fl fh : FO} {p2 pos : Pos} (he : SE ct X a fa) (hl : SO ct X lo fl) (hh : SO ct X hi fh) : SE ct X (.Subscript a (.Slice lo hi none p2) pos) (fSlX fa fl fh) := by
  obtain ⟨ta, pa, ra⟩ := he
  obtain ⟨tb, pb, rb⟩ := hl
  obtain ⟨tc, pc, rc⟩ := hh
  refine ⟨_, pe_slice sl_allX pa pb pc, fun m F S σ H env d S' Q s en h p => ?_⟩
  obtain ⟨⟨z, S1⟩, h1, h⟩ := bind_some h
  obtain ⟨⟨i, S2⟩, h2, h⟩ := bind_some h
  obtain ⟨⟨j, S3⟩, h3, h⟩ := bind_some h
  refine ra m F S σ H env z S1 _ s en h1 fun m1 F1 v1 H1 x1 s1 r1 => ?_
  refine rb m1 F1 S1 σ H1 env i S2 _ s1 (en.mono x1) h2 fun m2 F2 H2 x2 s2 => ?_
  refine rc m2 F2 S2 σ H2 env j S3 _ s2 ((en.mono x1).mono x2) h3 fun m3 F3 H3 x3 s3 => ?_
  have p3 := ((p.ext x1).ext x2).ext x3
  have r3 := (r1.mono x2).mono x3
  have lists : ∀ (q : Addr) (vs : List V) (ds : List D), v1 = .ref q → H3 q = some (.lst vs) → Reps X.K ct m3 F3 ds vs → d = .lst (cutD ds i j) → S' = S3 → rSlX X.K v1 i j H3 Q := fun q vs ds e1 e2 e3 ed es => by
    subst ed es
    refine .inl ⟨q, vs, e1, SqL.of e2, fun w hw => ?_⟩
    obtain ⟨s4, x4⟩ := s3.frozen hw (.lst (cutV vs i j))
    exact p3 _ _ (.ref w) _ x4 s4 ⟨w, _, rfl, upd_same, (cutD_reps e3 i j).mono x4⟩
  cases z with
  | lst ds =>
    cases h
    obtain ⟨q, vs, e1, e2, e3⟩ := r3
    exact lists q vs ds e1 (s3.same _ _ e2) e3 rfl rfl
  | ref k =>
    have h : (match S3[k]? with
      | some (.lst ds) => some (D.lst (cutD ds i j), S3)
      | _ => none) = some (d, S') := h
    split at h
    · rename_i ds hk
      cases h
      obtain ⟨q, g1, g2⟩ := r3
      obtain ⟨vs, c1, c2⟩ := s3.cell k q _ g1 hk
      exact lists q vs ds g2 c1 c2 rfl rfl
    · cases h
  | scr ns =>
    cases h
    obtain ⟨q, e1, e2⟩ := r3
    refine .inl ⟨q, _, e1, s3.same.seq e2, fun w hw => ?_⟩
    obtain ⟨s4, x4⟩ := s3.frozen hw (.lst (cutV (ns.map V.int) i j))
    refine p3 _ _ (.ref w) _ x4 s4 ⟨w, _, rfl, upd_same, ?_⟩
    have := cutD_reps (K := X.K) (ct := ct) (m := m3) (F := upd F3 w (.lst (cutV (ns.map V.int) i j))) (Reps.ints ns) i j
    have e : cutD (ns.map D.int) i j = (cutD ns i j).map D.int := by
      unfold cutD
      rw [List.length_map, List.map_take, List.map_drop]
    rw [e] at this
    exact this
  | tup ds =>
    cases h
    obtain ⟨q, vs, e1, e2, e3⟩ := r3
    refine .inr (.inl ⟨q, vs, e1, sqT_mono s3.same e2, fun hw => ?_, fun _ w hw => ?_⟩)
    · rw [← e3.length] at hw
      rw [cut_whole hw] at p3
      exact p3.now s3 ⟨q, vs, rfl, e2, e3⟩
    · obtain ⟨s4, x4⟩ := s3.frozen hw (.tup (cutV vs i j))
      exact p3 _ _ (.ref w) _ x4 s4 ⟨w, _, rfl, SqT.of upd_same, (cutD_reps e3 i j).mono x4⟩
  | str z =>
    have h : (if z.length ≤ 16777216 then some (D.str (cutS z i j), S3) else none) = some (d, S') := h
    split at h
    · rename_i hl
      cases h
      exact .inr (.inr ⟨_, r3, by rw [line_eq]; exact hl, p3.now s3 rfl⟩)
    · cases h
  | _ => cases h
end
def asStrs : List D → Option (List Str)
  | [] => some []
  | .str x :: ds => (asStrs ds).map fun r => x :: r
  | _ :: _ => none
def fJoin (fo fe : FE) : FE := fun env S => (fo env S).bind fun p => match p.1 with
  | .str a => (fe env p.2).bind fun q => (lstOf q.2 q.1).bind fun ds => (asStrs ds).bind fun ys => if (ys.map (·.length)).sum + ys.length * a.length ≤ 16777216 then some (.str (Txt.join a ys), q.2) else none
  | _ => none
end DL
namespace PySem.W
open PySem PySem.Calls PyProof.Rows
section
variable {prog : Program} {w : World} {A : Around} {E : Value → Shared → Prop} {s : Shared}
/-- the items of a tuple, gathered -/
theorem collectTup {t : Addr} {us : List Value} {Q : List Value → Shared → Prop} (ht : s.heap.IsTuple t us.toArray)
    (h : Q us { s with heap := (s.heap.push (seqObj "list" #[] 0)).update s.heap.objs.size (Obj.mapSeq (· ++ us.toArray)) }) (hsz : us.length ≤ sizeLine) :
    wpAny (model prog w) A (collect (.ref t)) Q E s := by
  obtain ⟨o, ho, hc, n, hd⟩ := id ht
  unfold collect
  refine wpAny_bind (wpAny_runValue (codeAny_builtin entry_proto_collect' ?_))
  show wpAny _ _ (do again (.builtin "list.__iadd__" ⟨[← newList [], .ref t], []⟩)) _ _ s
  refine wpAny_bind (wpAny_newList (wpAny_pure ⟨Code.quiet_builtin _ (by decide +kernel), codeAny_builtin entry_list_iadd' ?_⟩))
  show wpAny _ _ (Builtin.List.listExtendWith (.ref s.heap.objs.size) (.ref t) (.ref s.heap.objs.size)) _ _ { s with heap := s.heap.push (seqObj "list" #[] 0) }
  unfold Builtin.List.listExtendWith
  have ho' : (s.heap.push (seqObj "list" #[] 0)).get? t = some o := Heap.get?_push_of_some _ ho
  refine wpAny_bind (wpAny_typeOf (T := "tuple") ⟨o, ho', hc⟩ ?_)
  have hty : (Value.type "tuple" == Value.type "tuple") = true := by rfl
  rw [if_pos (by rw [hty]; simp)]
  refine wpAny_bind (listItems_at ho' hd ?_)
  refine wpAny_bind (listItems_at (xs := #[]) (n := 0) (Heap.get?_push_size _ rfl) rfl ?_)
  rw [if_neg (by simp)]
  refine wpAny_bind (listUpdate_at (xs := #[]) (n := 0) (Heap.get?_push_size _ rfl) rfl ?_ (Nat.zero_le _) (by show (#[] ++ us.toArray).size ≤ sizeLine + 1; simp only [Array.size_append, List.size_toArray, List.length_nil]; omega))
  refine wpAny_pure ?_
  show wpAny (model prog w) A (do
      let o ← load s.heap.objs.size
      match o.data with
      | .seq xs _ => pure xs.toList
      | _ => unsupported "internal:collect") Q E { s with heap := (s.heap.push (seqObj "list" #[] 0)).update s.heap.objs.size (Obj.mapSeq (· ++ us.toArray)) }
  refine wpAny_bind (wpAny_load (get?_update_seq (Heap.get?_push_size _ rfl) _) ?_)
  show wpAny _ _ (pure ((#[] : Array Value) ++ us.toArray).toList) Q E _
  rw [show ((#[] : Array Value) ++ us.toArray).toList = us by simp]
  exact wpAny_pure h
theorem sortedTup {β : Type} {R : Value → β → Prop} {enc : β → PyData} {t : Addr} {us : List Value} {bs : List β} {Q : Value → Shared → Prop} (ht : s.heap.IsTuple t us.toArray) (e : EachIs R us bs) (er : EachIs (fun v b => ∃ as, Reads s.heap v (enc b) as) us bs) (hal : AllAlike (bs.map enc)) (hk : Sortable (bs.map enc)) (hL : bs.length ≤ sizeLine)
    (hu : ∀ b, b ∈ bs → A.units + 2 + (enc b).depth < cLine) (h : ∀ out, out.length = bs.length → EachIs R out (bs.mergeSort (dataLe false enc)) → Q (.ref (s.heap.objs.size + 1)) { s with heap := sortedAll s.heap us (List.toArray out) }) :
    wpAny (model prog w) A (call (.builtin "sorted") [.ref t]) Q E s := by
  have hL' : us.length ≤ sizeLine := by rw [e.length]; exact hL
  have er' : EachIs (fun v b => ∃ as, Reads (sortingHeap (copyHeap s.heap us) (s.heap.objs.size + 1) us) v (enc b) as) us bs := er.mono fun _ _ ⟨as, r⟩ => ⟨as, PyProof.Rows.Reads.keeps (fun _ _ => sorting_copy_old) r⟩
  refine call_function_entry_kw (kw := []) kind_sorted plain_sorted entry_sorted (args_sorted1 _) ?_
  unfold Builtin.«sorted»
  refine wpAny_bind (m := checkCount "sorted" 1 1 _) (wpAny_pure ?_)
  refine wpAny_bind (collectTup ht ?_ hL')
  refine wpAny_bind (wpAny_newList ?_ hL')
  have hsz : ((s.heap.push (seqObj "list" #[] 0)).update s.heap.objs.size (Obj.mapSeq (· ++ us.toArray))).objs.size = s.heap.objs.size + 1 := by
    rw [Heap.size_update, size_push']
  show wpAny _ _ _ _ _ { s with heap := copyHeap s.heap us }
  rw [hsz]
  refine wpAny_bind (wpAny_holding (wpAny_call_entry_kw slot_list_sort ⟨_, copyHeap_at s.heap us, rfl⟩ entry_list_sort ?body (args_list_sort _)))
  case body =>
    show wpAny (model prog w) A.in1.in1 (Builtin.«list.sort» ⟨[.ref (s.heap.objs.size + 1)], []⟩) _ _ _
    refine wpAny_mono (list_sort_vals (A := A.in1.in1) (s := { s with heap := copyHeap s.heap us }) (P := fun f s' => f = .done (.ret .none) ∧ Q (.ref (s.heap.objs.size + 1)) s') (copyHeap_at s.heap us) (SortsAt.data (s := { s with heap := sortingHeap (copyHeap s.heap us) (s.heap.objs.size + 1) us }) (each_map (R := fun v d => ∃ as, Reads (sortingHeap (copyHeap s.heap us) (s.heap.objs.size + 1) us) v d as) enc er') hal hk (bound_map hu)) hL' ⟨rfl, h _ (by rw [sortVals_length false rfl]; exact e.length) (sortVals_data false e er' hal)⟩) (fun f s' hf => ?_) fun _ _ e => e
    obtain ⟨rfl, hq⟩ := hf
    exact ⟨_, rfl, wpAny_pure ⟨_, rfl, hq⟩⟩
end
end PySem.W
namespace DL
open PySem PySem.Spec PyProof.Rows L2
def rSortX (K : PySem.W.Frag) : List V → Hp → VK → Prop := fun xs H Q => ∃ (a : Addr) (vs : List V) (ps : List PyData), xs = [.ref a] ∧ (SqL K H a vs ∨ SqT K H a vs) ∧ DpAll K H vs ps ∧ PySem.W.AllAlike ps ∧ PySem.W.Sortable ps ∧ (∀ p ∈ ps, p.depth ≤ 40) ∧ vs.length ≤ 1000000 ∧
  ∀ q, H q = none → Q (.ref q) (upd H q (.lst (((vs.zip ps).mergeSort (PySem.W.dataLe false fun b => b.2)).map (·.1))))
theorem each_rel {vs : List V} {us : List Value} (r : Vals vs us) : ∀ (ps : List PyData), vs.length = ps.length → PySem.W.EachIs (fun u (b : V × PyData) => RelV b.1 u) us (vs.zip ps) := by
  induction r with
  | nil => intro ps h; exact .nil
  | cons hh _ ih =>
    intro ps h
    match ps, h with
    | p :: ps, h => exact .cons hh (ih ps (by simpa using h))
theorem each_reads {hp : Heap} : ∀ {us : List Value} {ps : List PyData} {as : List Addr} (vs : List V), vs.length = ps.length → ReadsAll hp us ps as → PySem.W.EachIs (fun u (b : V × PyData) => ∃ as, Reads hp u b.2 as) us (vs.zip ps)
  | [], [], _, vs, h, r => by
    have : vs = [] := List.length_eq_zero_iff.mp h
    subst this
    exact .nil
  | _ :: us, _ :: ps, _, [], h, r => by cases h
  | u :: us, p :: ps, _, v :: vs, h, r => by
    cases r with
    | cons r1 r2 => exact .cons ⟨_, r1⟩ (each_reads vs (by simpa using h) r2)
theorem DpAll_len {K : PySem.W.Frag} {H : Hp} : ∀ {vs : List V} {ps : List PyData}, DpAll K H vs ps → vs.length = ps.length
  | [], [], _ => rfl
  | _ :: _, _ :: _, h => by
    cases h with
    | cons _ h2 => simp [DpAll_len h2]
  | [], _ :: _, h => by cases h
  | _ :: _, [], h => by cases h
theorem vals_each {us : List Value} {bs : List (V × PyData)} (h : PySem.W.EachIs (fun u (b : V × PyData) => RelV b.1 u) us bs) : Vals (bs.map (·.1)) us := by
  induction h with
  | nil => exact .nil
  | cons hh _ ih => exact .cons hh ih
theorem cr_sortX {X : Cx} {k : Nat} (hr : RoomG k X.A) : CallR X (.builtin "sorted") (rSortX X.K) := by
  intro pins s σ H xs us Q I r h
  obtain ⟨a, vs, ps, rfl, hs, hd, hal, hk, hdep, hlen, q⟩ := h
  rw [Vals.ref1 r]
  have hlp := DpAll_len hd
  have hzl : (vs.zip ps).length = vs.length := by rw [List.length_zip, hlp]; simp
  have hmap : (vs.zip ps).map (fun b => b.2) = ps := List.map_snd_zip (by omega)
  have hu : ∀ b, b ∈ vs.zip ps → X.A.units + 2 + (b.2).depth < cLine := fun b hb => by
    have := hdep b.2 (by rw [← hmap]; exact List.mem_map.mpr ⟨b, hb, rfl⟩)
    have := hr.units
    omega
  have hL : (vs.zip ps).length ≤ sizeLine := by rw [hzl, line_eq]; omega
  have key : ∀ (its : List Value), Vals vs its → ∀ out : List Value, out.length = (vs.zip ps).length → PySem.W.EachIs (fun u (b : V × PyData) => RelV b.1 u) out ((vs.zip ps).mergeSort (PySem.W.dataLe false fun b => b.2)) →
      EP X pins σ Q (.ref (s.heap.objs.size + 1)) { s with heap := sortedAll s.heap its out.toArray } := fun its rv out ho e => by
    obtain ⟨ep, he'⟩ := PyProof.Rows.sortedAll_at s.heap its out.toArray
    have v2 := vals_each e
    have hl2 : (((vs.zip ps).mergeSort (PySem.W.dataLe false fun b => b.2)).map (·.1)).length ≤ sizeLine := by
      rw [v2.length, ho]
      exact hL
    exact ⟨.ref _, upd H (s.heap.objs.size + 1) (.lst (((vs.zip ps).mergeSort (PySem.W.dataLe false fun b => b.2)).map (·.1))), I.laid (t' := s.toks) (fun _ _ => PyProof.Rows.sortedAll_old) (Nat.le_succ _) ⟨hl2, out, ep, v2, he'⟩, rfl, q _ (I.hok.fresh (Nat.le_succ _))⟩
  rcases hs with hs | hs
  · obtain ⟨its, rv, hl, hz⟩ := I.list hs
    obtain ⟨as, hra⟩ := Dp.readsAll I ps _ its hd rv
    exact PySem.W.sorted_data (R := fun u (b : V × PyData) => RelV b.1 u) (enc := fun b => b.2) hl.isList (each_rel rv ps hlp) (each_reads vs hlp hra) (by rw [hmap]; exact hal) (by rw [hmap]; exact hk) hL hu (key its rv)
  · obtain ⟨its, rv, ht, hz⟩ := I.tuple hs
    obtain ⟨as, hra⟩ := Dp.readsAll I ps _ its hd rv
    exact PySem.W.sortedTup (R := fun u (b : V × PyData) => RelV b.1 u) (enc := fun b => b.2) ht (each_rel rv ps hlp) (each_reads vs hlp hra) (by rw [hmap]; exact hal) (by rw [hmap]; exact hk) hL hu (key its rv)
def seqOf (S : Sto) : D → Option (List D)
  | .tup ds => some ds
  | d => lstOf S d
def insB {α : Type} (le : α → α → Bool) (x : α) : List α → List α
  | [] => [x]
  | y :: ys => if le x y = true then x :: y :: ys else y :: insB le x ys
def isort {α : Type} (le : α → α → Bool) : List α → List α
  | [] => []
  | x :: xs => insB le x (isort le xs)
def leI (a b : Int) : Bool := decide (a ≤ b)
def leP (a b : Int × Int) : Bool := decide (a.1 < b.1 ∨ (a.1 = b.1 ∧ a.2 ≤ b.2))
def pairD (p : Int × Int) : D := .tup [.int p.1, .int p.2]
def asPair : D → Option (Int × Int)
  | .tup [.int a, .int b] => some (a, b)
  | _ => none
def asPairs : List D → Option (List (Int × Int))
  | [] => some []
  | d :: ds => (asPair d).bind fun p => (asPairs ds).map fun r => p :: r
def cSorted : FD
  | [d], S => (seqOf S d).bind fun ds => if ds.length ≤ 1000000 then (match asInts ds with
    | some ns => some (.lst ((isort leI ns).map .int), S)
    | none => (asPairs ds).map fun ps => (.lst ((isort leP ps).map pairD), S)) else none
  | _, _ => none
theorem asPair_eq {d : D} {p : Int × Int} (h : asPair d = some p) : d = pairD p := by
  unfold asPair at h
  split at h
  · cases h; rfl
  · cases h
theorem asPairs_eq : ∀ {ds : List D} {ps : List (Int × Int)}, asPairs ds = some ps → ds = ps.map pairD
  | [], _, h => by cases h; rfl
  | d :: ds, _, h => by
    obtain ⟨p, h1, h⟩ := bind_some h
    obtain ⟨r, h2, rfl⟩ := map_some h
    rw [asPair_eq h1, asPairs_eq h2]
    rfl
theorem ins_perm {α : Type} (le : α → α → Bool) (x : α) : ∀ l : List α, (insB le x l).Perm (x :: l)
  | [] => .refl _
  | y :: ys => by
    unfold insB
    split
    · exact .refl _
    · exact ((ins_perm le x ys).cons y).trans (.swap x y ys)
theorem isort_perm {α : Type} (le : α → α → Bool) : ∀ l : List α, (isort le l).Perm l
  | [] => .refl _
  | x :: xs => (ins_perm le x _).trans ((isort_perm le xs).cons x)
theorem ins_sorted {α : Type} {le : α → α → Bool} (h : PySem.W.TotalLe le) (x : α) : ∀ {l : List α}, l.Pairwise (fun a b => le a b = true) → (insB le x l).Pairwise (fun a b => le a b = true)
  | [], _ => by simp [insB]
  | y :: ys, hp => by
    have hp' := List.pairwise_cons.mp hp
    unfold insB
    split
    · rename_i hxy
      refine List.pairwise_cons.mpr ⟨fun z hz => ?_, hp⟩
      rcases List.mem_cons.mp hz with rfl | hz
      · exact hxy
      · exact h.trans _ _ _ hxy (hp'.1 z hz)
    · rename_i hxy
      refine List.pairwise_cons.mpr ⟨fun z hz => ?_, ins_sorted h x hp'.2⟩
      rcases List.mem_cons.mp ((ins_perm le x ys).mem_iff.mp hz) with rfl | hz
      · rcases h.total z y with q | q
        · exact absurd q hxy
        · exact q
      · exact hp'.1 z hz
theorem isort_sorted {α : Type} {le : α → α → Bool} (h : PySem.W.TotalLe le) : ∀ l : List α, (isort le l).Pairwise (fun a b => le a b = true)
  | [] => List.Pairwise.nil
  | x :: xs => ins_sorted h x (isort_sorted h xs)
theorem merge_isort {α : Type} {le : α → α → Bool} (h : PySem.W.TotalLe le) (ha : ∀ a b, le a b = true → le b a = true → a = b) (l : List α) : l.mergeSort le = isort le l := by
  refine (PySem.W.sort_unique h (isort_sorted h l) fun c => ?_).symm
  have hc : ∀ z ∈ l, PySem.W.sameRank le c z = true → z = c := fun z _ hz => by
    unfold PySem.W.sameRank at hz
    simp only [Bool.and_eq_true] at hz
    exact ha z c hz.2 hz.1
  have rep : ∀ m : List α, (m.filter (PySem.W.sameRank le c)) = List.replicate (m.filter (PySem.W.sameRank le c)).length c := fun m => by
    refine List.eq_replicate_iff.mpr ⟨rfl, fun z hz => ?_⟩
    have := (List.mem_filter.mp hz).2
    unfold PySem.W.sameRank at this
    simp only [Bool.and_eq_true] at this
    exact ha z c this.2 this.1
  rw [rep (isort le l), rep l, ((isort_perm le l).filter _).length_eq]
theorem tot_leI : PySem.W.TotalLe leI := ⟨fun a b c => by simp only [leI, decide_eq_true_eq]; omega, fun a b => by simp only [leI, decide_eq_true_eq]; omega⟩
theorem tot_leP : PySem.W.TotalLe leP := ⟨fun a b c => by simp only [leP, decide_eq_true_eq]; omega, fun a b => by simp only [leP, decide_eq_true_eq]; omega⟩
theorem anti_leI (a b : Int) (h : leI a b = true) (g : leI b a = true) : a = b := by simp only [leI, decide_eq_true_eq] at h g; omega
theorem anti_leP (a b : Int × Int) (h : leP a b = true) (g : leP b a = true) : a = b := by
  simp only [leP, decide_eq_true_eq] at h g
  obtain ⟨a1, a2⟩ := a
  obtain ⟨b1, b2⟩ := b
  simp only [Prod.mk.injEq]
  simp only at h g
  omega
section
variable {ct : CT} {K : PySem.W.Frag}
theorem seq_of {m : List Addr} {F H : Hp} {S : Sto} {d : D} {v : V} {ds : List D} (s : Sim K ct m F S H) (r : Rep K ct m F d v) (h : seqOf S d = some ds) : ∃ a vs, v = .ref a ∧ (SqL K H a vs ∨ SqT K H a vs) ∧ Reps K ct m F ds vs := by
  cases d with
  | tup es =>
    cases h
    obtain ⟨a, vs, e1, e2, e3⟩ := r
    exact ⟨a, vs, e1, .inr (sqT_mono s.same e2), e3⟩
  | lst es =>
    obtain ⟨a, vs, e1, e2, e3⟩ := lst_at s r h
    exact ⟨a, vs, e1, .inl (SqL.of e2), e3⟩
  | ref k =>
    obtain ⟨a, vs, e1, e2, e3⟩ := lst_at s r h
    exact ⟨a, vs, e1, .inl (SqL.of e2), e3⟩
  | _ => cases h
def pairP (p : Int × Int) : PyData := .tuple [.int p.1, .int p.2]
theorem toPs_pairP : ∀ ps : List (Int × Int), toPs (ps.map pairD) = some (ps.map pairP)
  | [] => rfl
  | p :: ps => by
    show ((some (pairP p) : Option PyData).bind fun a => (toPs (ps.map pairD)).map fun r => a :: r) = _
    rw [toPs_pairP ps]
    rfl
theorem reps_mem {m : List Addr} {F : Hp} : ∀ {L : List ((Int × Int) × V)}, (∀ e ∈ L, Rep K ct m F (pairD e.1) e.2) → Reps K ct m F (L.map fun e => pairD e.1) (L.map (·.2))
  | [], _ => rfl
  | e :: L, h => ⟨_, _, rfl, h e (List.mem_cons_self ..), reps_mem fun z hz => h z (List.mem_cons_of_mem _ hz)⟩
theorem reps_zip {m : List Addr} {F : Hp} : ∀ {ps : List (Int × Int)} {vs : List V}, Reps K ct m F (ps.map pairD) vs → ∀ e ∈ ps.zip vs, Rep K ct m F (pairD e.1) e.2
  | [], _, _, _, he => by simp at he
  | p :: ps, _, h, e, he => by
    obtain ⟨v, r, rfl, h1, h2⟩ := h
    rcases List.mem_cons.mp (show e ∈ (p, v) :: ps.zip r from he) with rfl | q
    · exact h1
    · exact reps_zip h2 e q
theorem zip_two {α β γ : Type} (f : α → β) (g : α → γ) : ∀ l : List α, (l.map f).zip (l.map g) = l.map fun x => (f x, g x)
  | [] => rfl
  | x :: l => by simp [zip_two f g l]
theorem zip_turn : ∀ {ps : List (Int × Int)} {vs : List V}, ps.length = vs.length → vs.zip (ps.map pairP) = (ps.zip vs).map fun e => (e.2, pairP e.1)
  | [], [], _ => rfl
  | p :: ps, v :: vs, h => by simp [zip_turn (ps := ps) (vs := vs) (by simpa using h)]
  | [], _ :: _, h => by cases h
  | _ :: _, [], h => by cases h
theorem cd_sorted : CallD ct K (rSortX K) cSorted := by
  intro m F S H xs ds0 d S' Q s r h p
  match ds0, h with
  | [d1], h =>
    obtain ⟨v, rfl, rv⟩ := reps1 r
    obtain ⟨ds, h1, h⟩ := bind_some (show (seqOf S d1).bind _ = some (d, S') from h)
    split at h
    case isFalse => cases h
    rename_i hlen
    obtain ⟨a, vs, e1, e2, e3⟩ := seq_of s rv h1
    subst e1
    split at h
    · rename_i ns hns
      cases h
      have hv := e3.asInts hns
      subst hv
      have hz : (ns.map V.int).zip (ns.map PyData.int) = ns.map fun n => (V.int n, PyData.int n) := zip_two _ _ ns
      refine ⟨a, _, ns.map PyData.int, rfl, e2, DpAll_ints ns, PySem.W.AllAlike.of fun _ _ => rfl, PySem.W.Sortable.others fun b => ⟨by simp, by simp⟩, fun q hq => ?_, by rw [List.length_map]; rw [e3.length, List.length_map] at hlen; exact hlen, fun q hq => ?_⟩
      · obtain ⟨n, _, rfl⟩ := List.mem_map.mp hq
        exact Nat.zero_le _
      · have e : (((ns.map V.int).zip (ns.map PyData.int)).mergeSort (PySem.W.dataLe false fun b => b.2)).map (·.1) = (isort leI ns).map V.int := by
          rw [hz, ← PySem.W.sort_maps (r := leI) (fun n => (V.int n, PyData.int n)), List.map_map, merge_isort tot_leI anti_leI]
          · rfl
          · intro x _ y _
            exact (congrFun (congrFun (PySem.W.dataLe_int (fun n : Int => n)) x) y).symm
        rw [e]
        obtain ⟨s2, x2⟩ := s.frozen hq (.lst ((isort leI ns).map V.int))
        exact p m _ (.ref q) _ x2 s2 ⟨q, _, rfl, upd_same, Reps.ints _⟩
    · obtain ⟨ps, h2, e⟩ := map_some h
      cases e
      have hds := asPairs_eq h2
      subst hds
      have hlv : ps.length = vs.length := by rw [← e3.length, List.length_map]
      refine ⟨a, vs, ps.map pairP, rfl, e2, Reps.dp s.same _ _ _ e3 (toPs_pairP ps), PySem.W.AllAlike.of fun _ _ => rfl, PySem.W.Sortable.tuples fun b => ⟨_, _, rfl⟩, fun q hq => ?_, by rw [e3.length] at hlen; exact hlen, fun q hq => ?_⟩
      · obtain ⟨n, _, rfl⟩ := List.mem_map.mp hq
        show max 0 (max 0 0) + 1 ≤ 40
        decide
      · have hz : vs.zip (ps.map pairP) = (ps.zip vs).map fun e => (e.2, pairP e.1) := zip_turn hlv
        have e : ((vs.zip (ps.map pairP)).mergeSort (PySem.W.dataLe false fun b => b.2)).map (·.1) = ((ps.zip vs).mergeSort fun x y => leP x.1 y.1).map (·.2) := by
          rw [hz, ← PySem.W.sort_maps (r := fun (x y : (Int × Int) × V) => leP x.1 y.1) (fun e : (Int × Int) × V => (e.2, pairP e.1)), List.map_map]
          · rfl
          · intro x _ y _
            exact (congrFun (congrFun (PySem.W.dataLe_ii (fun e : (Int × Int) × V => e.1.1) (fun e => e.1.2)) x) y).symm
        have e2' : ((ps.zip vs).mergeSort fun x y => leP x.1 y.1).map (fun z => pairD z.1) = (isort leP ps).map pairD := by
          rw [← merge_isort tot_leP anti_leP, ← List.map_fst_zip (l₁ := ps) (l₂ := vs) (by omega), ← PySem.W.sort_maps (r := fun (x y : (Int × Int) × V) => leP x.1 y.1) Prod.fst (fun _ _ _ _ => rfl), List.map_map]
          · rw [List.map_fst_zip (by omega)]
            rfl
        rw [e]
        have rr := reps_mem (K := K) (ct := ct) (m := m) (F := F) (L := (ps.zip vs).mergeSort fun x y => leP x.1 y.1) fun z hz => reps_zip e3 z ((List.mergeSort_perm _ _).mem_iff.mp hz)
        rw [e2'] at rr
        obtain ⟨s2, x2⟩ := s.frozen hq (.lst (((ps.zip vs).mergeSort fun x y => leP x.1 y.1).map (·.2)))
        exact p m _ (.ref q) _ x2 s2 ⟨q, _, rfl, upd_same, rr.mono x2⟩
  | [], h => cases h
  | _ :: _ :: _, h => cases h
end
end DL
namespace DL
open PySem PySem.Spec PyProof.Rows L2
def fRevT (f : FE) : FE := fun env S => (f env S).bind fun p => match p.1 with
  | .tup ds => some (.tup ds.reverse, p.2)
  | _ => none
section
variable {ct : CT} {X : Cx} {e : Expr} {f : FE}
theorem Reps.reverse {K : PySem.W.Frag} {m : List Addr} {F : Hp} : ∀ {ds : List D} {vs : List V}, Reps K ct m F ds vs → Reps K ct m F ds.reverse vs.reverse
  | [], _, h => by
    have h : _ = _ := h
    subst h
    exact rfl
  | d :: ds, _, h => by
    obtain ⟨v, r, rfl, h1, h2⟩ := h
    rw [List.reverse_cons, List.reverse_cons]
    exact (Reps.reverse h2).snoc h1
end
def fTupR1 (fa : FE) : FE := fun env S => (fa env S).bind fun p => match p.1 with
  | .int n => if okR n = true ∧ n ≤ 16777216 then some (.tup (rangeD 0 n), p.2) else none
  | _ => none
def cListM : FD
  | [d], S => (seqOf S d).map fun ds => (.ref S.length, S ++ [.lst ds])
  | _, _ => none
def cListX : FD
  | [d], S => (seqOf S d).map fun ds => (.lst ds, S)
  | _, _ => none
def cTupleX : FD
  | [d], S => (seqOf S d).map fun ds => (.tup ds, S)
  | _, _ => none
section
variable {ct : CT} {X : Cx} {a : Expr} {fa : FE} {K : PySem.W.Frag}
theorem se_tupR1 {p q pos pos' : Pos} (hc : X.calm = true) (hg : Gl X "tuple") (hm : X.mg "tuple" = none) (hg2 : Gl X "range") (hm2 : X.mg "range" = none) (ha : SE ct X a fa) (na : starEach [a] X.env = (false, eval a X.env) :: starEach [] X.env := by rfl)
    (nb : starEach [.Call (.Name "range" q) [a] [] pos'] X.env = (false, eval (.Call (.Name "range" q) [a] [] pos') X.env) :: starEach [] X.env := by rfl) : SE ct X (.Call (.Name "tuple" p) [.Call (.Name "range" q) [a] [] pos'] [] pos) (fTupR1 fa) := by
  obtain ⟨ta, pa, ra⟩ := ha
  refine ⟨_, pe_tupRg hc hg hm (prg_1 hg2 hm2 pa na) nb, fun m F S σ H env d S' Q s en h p => ?_⟩
  obtain ⟨⟨z, S1⟩, h1, h⟩ := bind_some h
  refine ra m F S σ H env z S1 _ s en h1 fun m1 F1 v1 H1 x1 s1 r1 => ?_
  cases z with
  | int n =>
    have h : (if okR n = true ∧ n ≤ 16777216 then some (D.tup (rangeD 0 n), S1) else none) = some (d, S') := h
    split at h
    · rename_i hn
      cases h
      refine ⟨n, r1, ⟨by decide, by decide, (okR_ok hn.1).1, (okR_ok hn.1).2, ?_⟩, fun q hq => ?_⟩
      · show (n - 0).toNat ≤ 2 ^ 24
        omega
      · obtain ⟨s2, x2⟩ := s1.frozen hq (.tup (rgV 0 n))
        exact p _ _ (.ref q) _ (x1.trans x2) s2 ⟨q, _, rfl, SqT.of upd_same, range_reps 0 n⟩
    · cases h
  | _ => cases h
theorem cd_listX : CallD ct K (fun xs H Q => ∃ p ys, xs = [.ref p] ∧ (SqL K H p ys ∨ SqT K H p ys) ∧ ∀ l, H l = none → Q (.ref l) (upd H l (.lst ys))) cListX := by
  intro m F S H xs ds0 d S' Q s r h p
  match ds0, h with
  | [d1], h =>
    obtain ⟨v, rfl, rv⟩ := reps1 r
    obtain ⟨ds, h1, e⟩ := map_some h
    cases e
    obtain ⟨a, vs, e1, e2, e3⟩ := seq_of s rv h1
    refine ⟨a, vs, by rw [e1], e2, fun q hq => ?_⟩
    obtain ⟨s2, x2⟩ := s.frozen hq (.lst vs)
    exact p _ _ (.ref q) _ x2 s2 ⟨q, _, rfl, upd_same, e3.mono x2⟩
  | [], h => cases h
  | _ :: _ :: _, h => cases h
theorem cd_tupleX : CallD ct K (fun xs H Q => ∃ p ys, xs = [.ref p] ∧ ((SqL K H p ys ∧ ∀ l, H l = none → Q (.ref l) (upd H l (.tup ys))) ∨ (SqT K H p ys ∧ Q (.ref p) H))) cTupleX := by
  intro m F S H xs ds0 d S' Q s r h p
  match ds0, h with
  | [d1], h =>
    obtain ⟨v, rfl, rv⟩ := reps1 r
    obtain ⟨ds, h1, e⟩ := map_some h
    cases e
    have lists : ∀ a vs, v = V.ref a → H a = some (.lst vs) → Reps K ct m F ds vs → ∃ p ys, [v] = [V.ref p] ∧ ((SqL K H p ys ∧ ∀ l, H l = none → Q (.ref l) (upd H l (.tup ys))) ∨ (SqT K H p ys ∧ Q (.ref p) H)) := fun a vs e1 e2 e3 => by
      refine ⟨a, vs, by rw [e1], .inl ⟨SqL.of e2, fun q hq => ?_⟩⟩
      obtain ⟨s2, x2⟩ := s.frozen hq (.tup vs)
      exact p _ _ (.ref q) _ x2 s2 ⟨q, _, rfl, SqT.of upd_same, e3.mono x2⟩
    cases d1 with
    | tup es =>
      cases h1
      obtain ⟨a, vs, e1, e2, e3⟩ := rv
      exact ⟨a, vs, by rw [e1], .inr ⟨sqT_mono s.same e2, p.now s ⟨a, vs, rfl, e2, e3⟩⟩⟩
    | lst es =>
      obtain ⟨a, vs, e1, e2, e3⟩ := lst_at s rv h1
      exact lists a vs e1 e2 e3
    | ref k =>
      obtain ⟨a, vs, e1, e2, e3⟩ := lst_at s rv h1
      exact lists a vs e1 e2 e3
    | _ => cases h1
  | [], h => cases h
  | _ :: _ :: _, h => cases h
end
def sPar3 (i j l : Nat) (fas : FA) : FS := fun env S => (fas env S).bind fun p => match p.1 with
  | [u, v, w] => some (.nx (((env.set i (some u)).set j (some v)).set l (some w)), p.2)
  | _ => none
section
variable {ct : CT} {X : Cx} {o e : Expr} {fo fe : FE}
theorem Reps.erase {K : PySem.W.Frag} {m : List Addr} {F : Hp} : ∀ {ds : List D} {vs : List V} (j : Nat), Reps K ct m F ds vs → Reps K ct m F (ds.eraseIdx j) (vs.eraseIdx j)
  | [], _, j, h => by
    have h : _ = _ := h
    subst h
    exact rfl
  | d :: ds, _, 0, h => by
    obtain ⟨v, r, rfl, h1, h2⟩ := h
    exact h2
  | d :: ds, _, j + 1, h => by
    obtain ⟨v, r, rfl, h1, h2⟩ := h
    exact ⟨v, _, rfl, h1, h2.erase j⟩
end
end DL
namespace DL
open PySem PySem.Spec PyProof.Rows L2
def isSeqD : D → Bool
  | .tup _ => true
  | .lst _ => true
  | _ => false
def cStrX : FD
  | [.int i], S => if i.natAbs.log2 < 1920 then some (.str (toString i), S) else none
  | [.str a], S => some (.str a, S)
  | [d], S => (toP d).bind fun p => if isSeqD d = true ∧ p.showable = true ∧ p.hasDict = false ∧ p.depth ≤ 50 ∧ p.shown.length ≤ 16777216 then some (.str p.shown, S) else none
  | _, _ => none
end DL
namespace DL
open PySem PySem.Spec PyProof.Rows L2
section
variable {S : Sto} {P : D → Sto → Prop} {PA : List D → Sto → Prop} {PS : Fl → Sto → Prop} {env : DEnv} {f fa fb fo fe : FE} {fas : FA}
theorem wp_aXi {i j : Int} : R (gAddX (.int i) (.int j) S) P ↔ P (.int (i + j)) S := R_some
theorem wp_aXs {x y : Str} : R (gAddX (.str x) (.str y) S) P ↔ x.length + y.length ≤ 16777216 ∧ P (.str (x ++ y)) S := R_cond
theorem wp_aXt {a b : List D} : R (gAddX (.tup a) (.tup b) S) P ↔ a.length + b.length ≤ 1000000 ∧ P (.tup (a ++ b)) S := R_cond
theorem wp_aXl {a b : List D} : R (gAddX (.lst a) (.lst b) S) P ↔ a.length + b.length ≤ 1000000 ∧ P (.lst (a ++ b)) S := R_cond
theorem wp_aMl {a b : List D} : R (gAddM (.lst a) (.lst b) S) P ↔ a.length + b.length ≤ 1000000 ∧ P (.ref S.length) (S ++ [.lst (a ++ b)]) := R_cond
theorem wp_ltX {i j : Int} : R (gLtX (.int i) (.int j) S) P ↔ P (.bl (decide (i < j))) S := R_some
theorem wp_leX {i j : Int} : R (gLeX (.int i) (.int j) S) P ↔ P (.bl (decide (i ≤ j))) S := R_some
theorem wp_leX2 {a b c d : Int} : R (gLeX (.tup [.int a, .int b]) (.tup [.int c, .int d]) S) P ↔ P (.bl (leL [a, b] [c, d])) S := R_some
theorem wp_SlX {lo hi : FO} : R (fSlX fa lo hi env S) P ↔ R (fa env S) fun x S1 => R (lo env S1) fun i S2 => R (hi env S2) fun j S3 => R (gSlX x i j S3) P := by unfold fSlX; simp only [R_bind]
theorem wp_sXc {ns : List Int} {lo hi : Option Int} : R (gSlX (.scr ns) lo hi S) P ↔ P (.lst ((cutD ns lo hi).map .int)) S := R_some
theorem wp_sXl {ds : List D} {lo hi : Option Int} : R (gSlX (.lst ds) lo hi S) P ↔ P (.lst (cutD ds lo hi)) S := R_some
theorem wp_sXt {ds : List D} {lo hi : Option Int} : R (gSlX (.tup ds) lo hi S) P ↔ P (.tup (cutD ds lo hi)) S := R_some
theorem wp_sXs {x : Str} {lo hi : Option Int} : R (gSlX (.str x) lo hi S) P ↔ x.length ≤ 16777216 ∧ P (.str (cutS x lo hi)) S := R_cond
theorem wp_RevT : R (fRevT f env S) P ↔ R (f env S) fun d S1 => WTup d fun ds => P (.tup ds.reverse) S1 := by
  unfold fRevT
  simp only [R_bind]
  refine ⟨fun ⟨d, S1, e, q⟩ => ⟨d, S1, e, ?_⟩, fun ⟨d, S1, e, q⟩ => ⟨d, S1, e, ?_⟩⟩
  · cases d <;> first | exact R_some.mp q | exact (R_none.mp q).elim
  · cases d <;> first | exact R_some.mpr q | exact (False.elim q)
theorem wp_sxI {i : Int} : R (cStrX [.int i] S) P ↔ i.natAbs.log2 < 1920 ∧ P (.str (toString i)) S := R_cond
theorem wp_sxS {a : Str} : R (cStrX [.str a] S) P ↔ P (.str a) S := R_some
theorem wp_lxT {ds : List D} : R (cListX [.tup ds] S) P ↔ P (.lst ds) S := R_some
theorem wp_lxL {ds : List D} : R (cListX [.lst ds] S) P ↔ P (.lst ds) S := R_some
theorem wp_txL {ds : List D} : R (cTupleX [.lst ds] S) P ↔ P (.tup ds) S := R_some
theorem wp_txT {ds : List D} : R (cTupleX [.tup ds] S) P ↔ P (.tup ds) S := R_some
theorem wp_lmT {ds : List D} : R (cListM [.tup ds] S) P ↔ P (.ref S.length) (S ++ [.lst ds]) := R_some
theorem wp_lmL {ds : List D} : R (cListM [.lst ds] S) P ↔ P (.ref S.length) (S ++ [.lst ds]) := R_some
theorem wp_Par3 {i j l : Nat} : R (sPar3 i j l fas env S) PS ↔ R (fas env S) fun ds S1 => ∃ u v w, ds = [u, v, w] ∧ PS (.nx (((env.set i (some u)).set j (some v)).set l (some w))) S1 := by
  unfold sPar3
  simp only [R_bind]
  refine ⟨fun ⟨d, S1, e, q⟩ => ⟨d, S1, e, ?_⟩, fun ⟨d, S1, e, q⟩ => ⟨d, S1, e, ?_⟩⟩
  · match d, q with
    | [u, v, w], q => exact ⟨u, v, w, rfl, R_some.mp q⟩
    | [], q => exact (R_none.mp q).elim
    | [_], q => exact (R_none.mp q).elim
    | [_, _], q => exact (R_none.mp q).elim
    | _ :: _ :: _ :: _ :: _, q => exact (R_none.mp q).elim
  · obtain ⟨u, v, w, rfl, q⟩ := q
    exact R_some.mpr q
theorem wp_three {u v w : D} {Q : D → D → D → Prop} : (∃ a b c, [u, v, w] = [a, b, c] ∧ Q a b c) ↔ Q u v w := ⟨fun ⟨a, b, c, e, q⟩ => by cases e; exact q, fun q => ⟨u, v, w, rfl, q⟩⟩
theorem wp_Join : R (fJoin fo fe env S) P ↔ R (fo env S) fun d S1 => WStr d fun a => R (fe env S1) fun x S2 => ∃ ds, lstOf S2 x = some ds ∧ ∃ ys, asStrs ds = some ys ∧ ((ys.map (·.length)).sum + ys.length * a.length ≤ 16777216 ∧ P (.str (Txt.join a ys)) S2) := by
  unfold fJoin
  simp only [R_bind]
  refine ⟨fun ⟨d, S1, e, q⟩ => ⟨d, S1, e, ?_⟩, fun ⟨d, S1, e, q⟩ => ⟨d, S1, e, ?_⟩⟩
  · cases d with
    | str a =>
      obtain ⟨x, S2, e2, q⟩ := R_bind.mp q
      refine ⟨x, S2, e2, ?_⟩
      obtain ⟨r, S3, e3, p⟩ := q
      obtain ⟨ds, h1, e3⟩ := bind_some e3
      obtain ⟨ys, h2, e3⟩ := bind_some e3
      split at e3
      case isFalse => cases e3
      rename_i hl
      cases e3
      exact ⟨ds, h1, ys, h2, hl, p⟩
    | _ => exact (R_none.mp q).elim
  · cases d with
    | str a =>
      obtain ⟨x, S2, e2, ds, h1, ys, h2, hl, p⟩ := q
      refine R_bind.mpr ⟨x, S2, e2, .str (Txt.join a ys), S2, ?_, p⟩
      show (lstOf S2 x).bind _ = _
      rw [h1]
      show (asStrs ds).bind _ = _
      rw [h2]
      exact if_pos hl
    | _ => exact (False.elim q)
/-- pairs in a list of pairs -/
theorem eqv_pairP (p q : Int × Int) : PyData.eqv (pairP p) (pairP q) = decide (p = q) := by
  obtain ⟨a, b⟩ := p
  obtain ⟨c, d⟩ := q
  show (PyData.eqvAll [.int a, .int b] [.int c, .int d]) = _
  rw [Bool.eq_iff_iff]
  simp [PyData.eqvAll, PyData.eqv, Prod.ext_iff]
theorem lay_pairP : ∀ ps : List (Int × Int), PyData.canLayAll0 (ps.map pairP) = true
  | [] => rfl
  | p :: ps => by
    show ((true && (true && true)) && PyData.canLayAll0 (ps.map pairP)) = true
    rw [lay_pairP ps]
    rfl
theorem dep_pairP : ∀ ps : List (Int × Int), PyData.depthAll (ps.map pairP) ≤ 1
  | [] => Nat.zero_le _
  | p :: ps => by
    show max (PyData.depth (pairP p)) (PyData.depthAll (ps.map pairP)) ≤ 1
    exact Nat.max_le.mpr ⟨Nat.le_refl _, dep_pairP ps⟩
theorem sh_pairs (ps : List (Int × Int)) : SeqAt.shaped (.list (ps.map pairP)) = true := by
  unfold SeqAt.shaped
  rw [show PyData.canLay0 (.list (ps.map pairP)) = PyData.canLayAll0 (ps.map pairP) from rfl, lay_pairP]
  have := dep_pairP ps
  have e : PyData.depth (.list (ps.map pairP)) = PyData.depthAll (ps.map pairP) + 1 := rfl
  simp only [e, Bool.true_and, decide_eq_true_eq]
  omega
theorem sh_pair (p : Int × Int) : SeqAt.shaped (pairP p) = true := rfl
theorem eqvAll_pairs : ∀ ps qs : List (Int × Int), PyData.eqvAll (ps.map pairP) (qs.map pairP) = decide (ps = qs)
  | [], [] => rfl
  | [], _ :: _ => rfl
  | _ :: _, [] => rfl
  | p :: ps, q :: qs => by
    show (PyData.eqv (pairP p) (pairP q) && PyData.eqvAll (ps.map pairP) (qs.map pairP)) = _
    rw [eqv_pairP, eqvAll_pairs ps qs]
    simp [Bool.decide_and]
theorem gInB_pairs (neg : Bool) (p : Int × Int) (ds : List D) (S : Sto) : gInB neg (pairD p) (.lst ds) S = none := by
  show inSeq neg (pairD p) ds S = none
  unfold inSeq
  rw [if_neg]
  intro h
  exact absurd h.1 (by simp [pairD, flatD])
theorem in_pairs (neg : Bool) (p : Int × Int) (ps : List (Int × Int)) (S : Sto) : gInX neg (pairD p) (.lst (ps.map pairD)) S = some (.bl (if neg then !decide (p ∈ ps) else decide (p ∈ ps)), S) := by
  unfold gInX
  rw [gInB_pairs]
  show (inDeep neg (pairD p) (ps.map pairD)).map _ = _
  unfold inDeep
  rw [toPs_pairP]
  show ((if SeqAt.shaped (pairP p) = true ∧ SeqAt.shaped (.list (ps.map pairP)) = true then some (D.bl (if neg then !(ps.map pairP).any (fun z => PyData.eqv z (pairP p)) else (ps.map pairP).any fun z => PyData.eqv z (pairP p))) else none).map fun d => (d, S)) = _
  rw [if_pos ⟨sh_pair p, sh_pairs ps⟩]
  have e : ((ps.map pairP).any fun z => PyData.eqv z (pairP p)) = decide (p ∈ ps) := by
    rw [List.any_map]
    rw [Bool.eq_iff_iff]
    simp only [List.any_eq_true, Function.comp, eqv_pairP, decide_eq_true_eq]
    exact ⟨fun ⟨x, h1, h2⟩ => h2 ▸ h1, fun h => ⟨p, h, rfl⟩⟩
  rw [e]
  rfl
theorem sortedT_ints (ns : List Int) (S : Sto) (h : ns.length ≤ 1000000) : cSorted [.tup (ns.map D.int)] S = some (.lst ((isort leI ns).map .int), S) := by
  have e : asInts (ns.map D.int) = some ns := by
    induction ns with
    | nil => rfl
    | cons n ns ih =>
      show (asInts (ns.map D.int)).map _ = _
      rw [ih (by simp at h; omega)]
      rfl
  show (if (ns.map D.int).length ≤ 1000000 then (match asInts (ns.map D.int) with
    | some ns => some (D.lst ((isort leI ns).map .int), S)
    | none => (asPairs (ns.map D.int)).map fun ps => (.lst ((isort leP ps).map pairD), S)) else none) = _
  rw [if_pos (by rw [List.length_map]; exact h), e]
end
end DL
namespace DL
open PySem PySem.Spec PyProof.Rows L2
inductive Tk
  | go
open Tk
def Qr {α : Type} (t : Tk) (o : Option (α × Sto)) (P : Tk → α → Sto → Prop) : Prop := R o (P t)
def QI (t : Tk) (b : Bool) (A B : Tk → Prop) : Prop := if b = true then A t else B t
def QFl (P : Tk → Fl → Sto → Prop) (f2 : FS) (t : Tk) (fl : Fl) (S : Sto) : Prop := PFl (P t) f2 fl S
def QBk (I : Tk → DEnv → Sto → Prop) (P : Tk → Fl → Sto → Prop) (t : Tk) (fl : Fl) (S : Sto) : Prop := PBk (I t) (P t) fl S
def QRun (P : Tk → D → Sto → Prop) (t : Tk) (fl : Fl) (S : Sto) : Prop := PRun (P t) fl S
theorem qi_t {A B : Tk → Prop} : QI go true A B ↔ A go := Iff.rfl
theorem qi_f {A B : Tk → Prop} : QI go false A B ↔ B go := Iff.rfl
theorem qi_mk {b : Bool} {A B : Tk → Prop} (h : b = true → A go) (g : b = false → B go) : QI go b A B := by
  cases b
  · exact g rfl
  · exact h rfl
theorem qi_dec {c : Prop} [Decidable c] {A B : Tk → Prop} (h : c → A go) (g : ¬ c → B go) : QI go (decide c) A B := qi_mk (fun e => h (of_decide_eq_true e)) fun e => g (of_decide_eq_false e)
theorem qi_ndec {c : Prop} [Decidable c] {A B : Tk → Prop} (h : ¬ c → A go) (g : c → B go) : QI go (!decide c) A B := qi_mk (fun e => h (by simpa using e)) fun e => g (by simpa using e)
theorem Qr_iff {α : Type} {o : Option (α × Sto)} {P : α → Sto → Prop} : R o P ↔ Qr go o fun _ => P := Iff.rfl
theorem q_pfl_nx {PS : Tk → Fl → Sto → Prop} {f2 : FS} {S : Sto} {e : DEnv} : QFl PS f2 go (.nx e) S ↔ Qr go (f2 e S) PS := Iff.rfl
theorem q_pfl_rt {PS : Tk → Fl → Sto → Prop} {f2 : FS} {S : Sto} {d : D} : QFl PS f2 go (.rt d) S ↔ PS go (.rt d) S := Iff.rfl
theorem q_pfl_bk {PS : Tk → Fl → Sto → Prop} {f2 : FS} {S : Sto} {e : DEnv} : QFl PS f2 go (.bk e) S ↔ PS go (.bk e) S := Iff.rfl
theorem q_pfl_ct {PS : Tk → Fl → Sto → Prop} {f2 : FS} {S : Sto} {e : DEnv} : QFl PS f2 go (.ct e) S ↔ PS go (.ct e) S := Iff.rfl
theorem q_run_rt {P : Tk → D → Sto → Prop} {S : Sto} {d : D} : QRun P go (.rt d) S ↔ P go d S := Iff.rfl
theorem q_run_nx {P : Tk → D → Sto → Prop} {S : Sto} {e : DEnv} : QRun P go (.nx e) S ↔ P go .non S := Iff.rfl
theorem q_bk_nx {I : Tk → DEnv → Sto → Prop} {PS : Tk → Fl → Sto → Prop} {S : Sto} {e : DEnv} : QBk I PS go (.nx e) S ↔ I go e S := Iff.rfl
theorem q_bk_ct {I : Tk → DEnv → Sto → Prop} {PS : Tk → Fl → Sto → Prop} {S : Sto} {e : DEnv} : QBk I PS go (.ct e) S ↔ I go e S := Iff.rfl
theorem q_bk_bk {I : Tk → DEnv → Sto → Prop} {PS : Tk → Fl → Sto → Prop} {S : Sto} {e : DEnv} : QBk I PS go (.bk e) S ↔ PS go (.nx e) S := Iff.rfl
theorem q_bk_rt {I : Tk → DEnv → Sto → Prop} {PS : Tk → Fl → Sto → Prop} {S : Sto} {d : D} : QBk I PS go (.rt d) S ↔ PS go (.rt d) S := Iff.rfl
section
variable {α β : Type} {env : DEnv} {S S1 : Sto} {f1 f2 : FS} {t u : FT} {f fa fb fc fo fe fv fk fx : FE} {fas : FA} {P : Tk → D → Sto → Prop} {PA : Tk → List D → Sto → Prop} {PT : Tk → Bool → Sto → Prop} {PS : Tk → Fl → Sto → Prop} {PG : Tk → DEnv → Sto → Prop}
theorem q_R_some {a : α} {P : Tk → α → Sto → Prop} : Qr go (some (a, S)) P ↔ P go a S := R_some
theorem q_R_none {P : Tk → α → Sto → Prop} : Qr go (none : Option (α × Sto)) P ↔ False := R_none
theorem q_R_cond {c : Prop} [Decidable c] {a : α} {P : Tk → α → Sto → Prop} : Qr go (if c then some (a, S) else none) P ↔ c ∧ P go a S := R_cond
theorem q_var0 {d : D} {r : DEnv} : Qr go (fVar 0 (some d :: r) S) P ↔ P go d S := wp_var0
theorem q_varS {n : Nat} {x : Option D} {r : DEnv} : Qr go (fVar (n + 1) (x :: r) S) P ↔ Qr go (fVar n r S) P := wp_varS
theorem q_C {d : D} : Qr go (fC d env S) P ↔ P go d S := wp_C
theorem q_Bin {g : D → D → Sto → Option (D × Sto)} : Qr go (fBin g fa fb env S) P ↔ Qr go (fa env S) fun tk x S1 => Qr tk (fb env S1) fun tk y S2 => Qr tk (g x y S2) P := wp_Bin
theorem q_neg : Qr go (fUn gNeg fa env S) P ↔ Qr go (fa env S) fun tk x S1 => WI x fun i => P tk (.int (-i)) S1 := wp_neg
theorem q_nil : Qr go (fNil env S) PA ↔ PA go [] S := wp_nil
theorem q_cons : Qr go (fCons f fas env S) PA ↔ Qr go (f env S) fun tk d S1 => Qr tk (fas env S1) fun tk ds S2 => PA tk (d :: ds) S2 := wp_cons
theorem q_tup : Qr go (fTup fas env S) P ↔ Qr go (fas env S) fun tk ds S1 => ds.length ≤ 1000 ∧ P tk (.tup ds) S1 := wp_tup
theorem q_lst : Qr go (fLst fas env S) P ↔ Qr go (fas env S) fun tk ds S1 => ds.length ≤ 1000 ∧ P tk (.lst ds) S1 := wp_lst
theorem q_lstM : Qr go (fLstM fas env S) P ↔ Qr go (fas env S) fun tk ds S1 => ds.length ≤ 1000 ∧ P tk (.ref S1.length) (S1 ++ [.lst ds]) := wp_lstM
theorem q_Call {g : FD} : Qr go (fCall g fas env S) P ↔ Qr go (fas env S) fun tk ds S1 => Qr tk (g ds S1) P := wp_Call
theorem q_And : Qr go (fAnd fa fb env S) P ↔ Qr go (fa env S) fun tk d S1 => WB d fun b => QI tk b (fun tk => Qr tk (fb env S1) P) (fun tk => P tk (.bl false) S1) := wp_And
theorem q_Or : Qr go (fOr fa fb env S) P ↔ Qr go (fa env S) fun tk d S1 => WB d fun b => QI tk b (fun tk => P tk (.bl true) S1) (fun tk => Qr tk (fb env S1) P) := wp_Or
theorem q_Not : Qr go (fNot fa env S) P ↔ Qr go (fa env S) fun tk d S1 => WB d fun b => P tk (.bl (!b)) S1 := wp_Not
theorem q_Test : Qr go (fTest f env S) PT ↔ Qr go (f env S) fun tk d S1 => WB d fun b => PT tk b S1 := wp_Test
theorem q_tAnd : Qr go (tAndD t u env S) PT ↔ Qr go (t env S) fun tk b S1 => QI tk b (fun tk => Qr tk (u env S1) PT) (fun tk => PT tk false S1) := wp_tAnd
theorem q_tOr : Qr go (tOrD t u env S) PT ↔ Qr go (t env S) fun tk b S1 => QI tk b (fun tk => PT tk true S1) (fun tk => Qr tk (u env S1) PT) := wp_tOr
theorem q_tNot : Qr go (tNotD t env S) PT ↔ Qr go (t env S) fun tk b S1 => PT tk (!b) S1 := wp_tNot
theorem q_If : Qr go (fIf t fa fb env S) P ↔ Qr go (t env S) fun tk b S1 => QI tk b (fun tk => Qr tk (fa env S1) P) (fun tk => Qr tk (fb env S1) P) := wp_If
theorem q_Chain {g g' : D → D → Sto → Option (D × Sto)} : Qr go (fChain g g' fa fb fc env S) P ↔ Qr go (fa env S) fun tk x S1 => Qr tk (fb env S1) fun tk y S2 => Qr tk (g x y S2) fun tk z S3 => WB z fun b => QI tk b (fun tk => Qr tk (fc env S3) fun tk w S4 => Qr tk (g' y w S4) P) (fun tk => P tk (.bl false) S3) := wp_Chain
theorem q_Skip : Qr go (sSkip env S) PS ↔ PS go (.nx env) S := wp_Skip
theorem q_Break : Qr go (sBreak env S) PS ↔ PS go (.bk env) S := wp_Break
theorem q_Cont : Qr go (sCont env S) PS ↔ PS go (.ct env) S := wp_Cont
theorem q_Never : Qr go (sNever env S) PS ↔ False := wp_Never
theorem q_fNever : Qr go (fNever env S) P ↔ False := wp_fNever
theorem q_Seq : Qr go (sSeq f1 f2 env S) PS ↔ Qr go (f1 env S) (QFl PS f2) := wp_Seq
theorem q_Expr : Qr go (sExpr f env S) PS ↔ Qr go (f env S) fun tk _ S1 => PS tk (.nx env) S1 := wp_Expr
theorem q_Ret : Qr go (sRet f env S) PS ↔ Qr go (f env S) fun tk d S1 => PS tk (.rt d) S1 := wp_Ret
theorem q_sIf : Qr go (sIf t f1 f2 env S) PS ↔ Qr go (t env S) fun tk b S1 => QI tk b (fun tk => Qr tk (f1 env S1) PS) (fun tk => Qr tk (f2 env S1) PS) := wp_sIf
theorem q_Asg {g : FG} : Qr go (sAsg f g env S) PS ↔ Qr go (f env S) fun tk d S1 => Qr tk (g d env S1) fun tk e S2 => PS tk (.nx e) S2 := wp_Asg
theorem q_N {i : Nat} {d : D} : Qr go (gN i d env S) PG ↔ PG go (env.set i (some d)) S := wp_N
theorem q_gNil : Qr go (gNil [] env S) PG ↔ PG go env S := wp_gNil
theorem q_gCons {g : FG} {gs : FGs} {d : D} {ds : List D} : Qr go (gCons g gs (d :: ds) env S) PG ↔ Qr go (g d env S) fun tk e S1 => Qr tk (gs ds e S1) PG := wp_gCons
theorem q_gTup {n : Nat} {gs : FGs} {ds : List D} : Qr go (gTup n gs (.tup ds) env S) PG ↔ ds.length = n ∧ Qr go (gs ds env S) PG := wp_gTup
theorem q_gSub {g : D → D → D → Sto → Option Sto} {d : D} : Qr go (gSub g fa fb d env S) PG ↔ Qr go (fa env S) fun tk x S1 => Qr tk (fb env S1) fun tk y S2 => RU (g x y d S2) (PG tk env) := wp_gSub
theorem q_Par {i j : Nat} : Qr go (sPar i j fas env S) PS ↔ Qr go (fas env S) fun tk ds S1 => ∃ v w, ds = [v, w] ∧ PS tk (.nx ((env.set i (some v)).set j (some w))) S1 := wp_Par
theorem q_Run {n : Nat} {g : FS} {ds : List D} : Qr go (runD n g ds S) P ↔ Qr go (g (ds.map some ++ List.replicate (n - ds.length) none) S) (QRun P) := wp_Run
theorem q_For {fi : FA} {g : FG} : Qr go (sFor fi g f1 env S) PS ↔ Qr go (fi env S) fun tk xs S1 => Qr tk (forD g f1 xs env S1) PS := wp_For
theorem q_iLst : Qr go (iLst f env S) PA ↔ Qr go (f env S) fun tk d S1 => WLst d fun ds => PA tk ds S1 := wp_iLst
theorem q_iTup : Qr go (iTup f env S) PA ↔ Qr go (f env S) fun tk d S1 => WTup d fun ds => PA tk ds S1 := wp_iTup
theorem q_iR1 : Qr go (iRange1 fas env S) PA ↔ Qr go (fas env S) fun tk ds S1 => ∃ j, ds = [.int j] ∧ okR j = true ∧ PA tk (rangeD 0 j) S1 := wp_iR1
theorem q_iR2 : Qr go (iRange2 fas env S) PA ↔ Qr go (fas env S) fun tk ds S1 => ∃ i j, ds = [.int i, .int j] ∧ (okR i = true ∧ okR j = true) ∧ PA tk (rangeD i j) S1 := wp_iR2
theorem q_add {i j : Int} : Qr go (gAdd (.int i) (.int j) S) P ↔ P go (.int (i + j)) S := wp_add
theorem q_addL {a b : List D} : Qr go (gAdd (.lst a) (.lst b) S) P ↔ a.length + b.length ≤ 16777216 ∧ P go (.lst (a ++ b)) S := wp_addL
theorem q_addS {a b : Str} : Qr go (gAdd (.str a) (.str b) S) P ↔ a.length + b.length ≤ 16777216 ∧ P go (.str (a ++ b)) S := wp_addS
theorem q_I0 {k : Int → Int → D} {i j : Int} : Qr go (gI0 k (.int i) (.int j) S) P ↔ P go (k i j) S := wp_I0
theorem q_mul {i j : Int} : Qr go (gI (fun i j => smallI i && smallI j) (fun i j => .int (i * j)) (.int i) (.int j) S) P ↔ (smallI i = true ∧ smallI j = true) ∧ P go (.int (i * j)) S := wp_mul
theorem q_fdiv {i j : Int} : Qr go (gI (fun _ j => decide (0 < j) && decide (j.natAbs.log2 < 9000)) (fun i j => .int (i / j)) (.int i) (.int j) S) P ↔ (0 < j ∧ lgI j) ∧ P go (.int (i / j)) S := wp_fdiv
theorem q_mod {i j : Int} : Qr go (gI (fun _ j => decide (0 < j)) (fun i j => .int (i % j)) (.int i) (.int j) S) P ↔ 0 < j ∧ P go (.int (i % j)) S := wp_mod
theorem q_eqI {i j : Int} : Qr go (gEq (.int i) (.int j) S) P ↔ P go (.bl (decide (i = j))) S := wp_eqI
theorem q_eqS {i j : Str} : Qr go (gEq (.str i) (.str j) S) P ↔ P go (.bl (decide (i = j))) S := wp_eqS
theorem q_eqB {i j : Bool} : Qr go (gEq (.bl i) (.bl j) S) P ↔ P go (.bl (decide (i = j))) S := wp_eqB
theorem q_neI {i j : Int} : Qr go (gNe (.int i) (.int j) S) P ↔ P go (.bl (!decide (i = j))) S := wp_neI
theorem q_neS {i j : Str} : Qr go (gNe (.str i) (.str j) S) P ↔ P go (.bl (!decide (i = j))) S := wp_neS
theorem q_neB {i j : Bool} : Qr go (gNe (.bl i) (.bl j) S) P ↔ P go (.bl (!decide (i = j))) S := wp_neB
theorem q_isN {x : D} : Qr go (gIsN x .non S) P ↔ P go (.bl (isNonD x)) S := wp_isN
theorem q_notN {x : D} : Qr go (gNotN x .non S) P ↔ P go (.bl (!isNonD x)) S := wp_notN
theorem q_isi {T : String} : Qr go (fIsi T f env S) P ↔ Qr go (f env S) fun tk d S1 => ∃ b, isiT T d = some b ∧ P tk (.bl b) S1 := wp_isi
theorem q_abs {i : Int} : Qr go (cAbs [.int i] S) P ↔ P go (.int (if i < 0 then -i else i)) S := wp_abs
theorem q_max2 {i j : Int} : Qr go (cMax2 [.int i, .int j] S) P ↔ P go (.int (if j > i then j else i)) S := wp_max2
theorem q_min2 {i j : Int} : Qr go (cMin2 [.int i, .int j] S) P ↔ P go (.int (if j < i then j else i)) S := wp_min2
theorem q_maxT {i j : Int} : Qr go (cMaxT [.tup [.int i, .int j]] S) P ↔ P go (.int (if j > i then j else i)) S := wp_maxT
theorem q_intI {i : Int} : Qr go (cInt [.int i] S) P ↔ P go (.int i) S := wp_intI
theorem q_intB {i : Bool} : Qr go (cInt [.bl i] S) P ↔ P go (.int (if i then 1 else 0)) S := wp_intB
theorem q_lenS {x : Str} : Qr go (cLen [.str x] S) P ↔ x.length ≤ 16777216 ∧ P go (.int x.length) S := wp_lenS
theorem q_lenT {x : List D} : Qr go (cLen [.tup x] S) P ↔ P go (.int x.length) S := wp_lenT
theorem q_lenL {x : List D} : Qr go (cLen [.lst x] S) P ↔ P go (.int x.length) S := wp_lenL
theorem q_lenC {x : List Int} : Qr go (cLen [.scr x] S) P ↔ P go (.int x.length) S := wp_lenC
theorem q_divmod {i j : Int} : Qr go (cDivmod [.int i, .int j] S) P ↔ (0 < j ∧ lgI j) ∧ P go (.tup [.int (i / j), .int (i % j)]) S := wp_divmod
theorem q_listL {x : List D} : Qr go (cList [.lst x] S) P ↔ P go (.lst x) S := wp_listL
theorem q_listT {x : List D} : Qr go (cList [.tup x] S) P ↔ P go (.lst x) S := wp_listT
theorem q_tupL {x : List D} : Qr go (cTuple [.lst x] S) P ↔ P go (.tup x) S := wp_tupL
theorem q_tupT {x : List D} : Qr go (cTuple [.tup x] S) P ↔ P go (.tup x) S := wp_tupT
theorem q_KIn {neg : Bool} {tab : List (Str × Int)} : Qr go (fKIn neg tab f env S) P ↔ Qr go (f env S) fun tk d S1 => ∃ s, d = .str s ∧ P tk (.bl (if neg then !(tab.lookup s).isSome else (tab.lookup s).isSome)) S1 := wp_KIn
theorem q_Fld {c x : Str} : Qr go (fFld c x f env S) P ↔ Qr go (f env S) fun tk d S1 => ∃ q, insOf c d S1 = some q ∧ ∃ v, getF q.1 q.2 x = some v ∧ P tk v S1 := wp_Fld
theorem q_Meth {c x : Str} {g : FD} : Qr go (fMeth c x g fo fas env S) P ↔ Qr go (fo env S) fun tk d S1 => (∃ q, insOf c d S1 = some q ∧ hasF q.1 x = false) ∧ Qr tk (fas env S1) fun tk ds S2 => Qr tk (g (d :: ds) S2) P := wp_Meth
theorem q_MakeF {c : Str} {fs : List Str} {g' : List D → Option (List D)} {dds : List D} : Qr go (fMakeF c fs g' dds fas env S) P ↔ Qr go (fas env S) fun tk ds S1 => ∃ vals, g' (ds ++ dds) = some vals ∧ P tk (.obj c fs vals) S1 := wp_MakeF
end
section
variable {α β : Type} {env : DEnv} {S S1 : Sto} {f1 f2 : FS} {t u : FT} {f fa fb fc fo fe fv fk fx : FE} {fas : FA} {P : Tk → D → Sto → Prop} {PA : Tk → List D → Sto → Prop} {PT : Tk → Bool → Sto → Prop} {PS : Tk → Fl → Sto → Prop} {PG : Tk → DEnv → Sto → Prop}
theorem q_sFld {c x : Str} : Qr go (sFldD c x fo fv env S) PS ↔ Qr go (fv env S) fun tk v S1 => Qr tk (fo env S1) fun tk d S2 => ∃ i, d = .ref i ∧ ∃ c' fs ds, S2[i]? = some (.ins c' fs ds) ∧ (c' = c ∧ fs.length < 900) ∧ PS tk (.nx env) (S2.set i (.ins c (putN fs x) (putD fs ds x v))) := wp_sFld
theorem q_KIx {tab : List (Str × Int)} : Qr go (fKIx tab f env S) P ↔ Qr go (f env S) fun tk d S1 => ∃ s, d = .str s ∧ ∃ v, tab.lookup s = some v ∧ P tk (.int v) S1 := wp_KIx
theorem q_inT {neg : Bool} {k : Str} {ds : List D} : Qr go (gInB neg (.str k) (.tup ds) S) P ↔ ds.all flatD = true ∧ P go (.bl (if neg then !ds.any (fun z => eqF z (.str k)) else ds.any (fun z => eqF z (.str k)))) S := wp_inT
theorem q_inL {neg : Bool} {k : Str} {ds : List D} : Qr go (gInB neg (.str k) (.lst ds) S) P ↔ ds.all flatD = true ∧ P go (.bl (if neg then !ds.any (fun z => eqF z (.str k)) else ds.any (fun z => eqF z (.str k)))) S := wp_inL
theorem q_inS {neg : Bool} {k y : Str} : Qr go (gInB neg (.str k) (.str y) S) P ↔ P go (.bl (if neg then !(!(Builtin.Str.occurrences y k 0 y.length 1).isEmpty) else !(Builtin.Str.occurrences y k 0 y.length 1).isEmpty)) S := wp_inS
theorem q_ixL {i : Int} {ds : List D} : Qr go (gIx (.lst ds) (.int i) S) P ↔ ∃ d, L2.atI ds i = some d ∧ P go d S := wp_ixL
theorem q_ixT {i : Int} {ds : List D} : Qr go (gIx (.tup ds) (.int i) S) P ↔ ∃ d, L2.atI ds i = some d ∧ P go d S := wp_ixT
theorem q_ixC {i : Int} {ns : List Int} : Qr go (gIx (.scr ns) (.int i) S) P ↔ ∃ d, L2.atI ns i = some d ∧ P go (.int d) S := wp_ixC
theorem q_Lc {fi : FA} {g : FG} {vs : List Nat} : Qr go (fLc fi g t f vs env S) P ↔ Qr go (fi env S) fun tk xs S1 => xs.length ≤ 1000000 ∧ Qr tk (lcD g t f (wipeD env vs) xs S1) fun tk ds S2 => P tk (.lst ds) S2 := wp_Lc
theorem q_Yes : Qr go (tYesD env S) PT ↔ PT go true S := wp_Yes
theorem q_Sl {lo hi : FO} : Qr go (fSl fa lo hi env S) P ↔ Qr go (fa env S) fun tk x S1 => Qr tk (lo env S1) fun tk i S2 => Qr tk (hi env S2) fun tk j S3 => Qr tk (gSl x i j S3) P := wp_Sl
theorem q_oNone {Q : Tk → Option Int → Sto → Prop} : Qr go (oNone env S) Q ↔ Q go none S := wp_oNone
theorem q_oSome {Q : Tk → Option Int → Sto → Prop} : Qr go (oSome f env S) Q ↔ Qr go (f env S) fun tk d S1 => WI d fun i => Q tk (some i) S1 := wp_oSome
theorem q_slC {ns : List Int} {lo hi : Option Int} : Qr go (gSl (.scr ns) lo hi S) P ↔ P go (.lst ((cutD ns lo hi).map .int)) S := wp_slC
theorem q_slL {ds : List D} {lo hi : Option Int} : Qr go (gSl (.lst ds) lo hi S) P ↔ P go (.lst (cutD ds lo hi)) S := wp_slL
theorem q_slS {x : Str} {lo hi : Option Int} : Qr go (gSl (.str x) lo hi S) P ↔ x.length ≤ 16777216 ∧ P go (.str (cutS x lo hi)) S := wp_slS
end
section
variable {ct : CT} {X : Cx} {C : Addr} {c x : Str} {e o : Expr} {fe fo : FE} {fas : FA} {kws : List Keyword} {pos apos p : Pos} {k n : Nat} {g : FD} {kwb : KWB} {ks : List Str} {idx : List Nat}
variable {env : DEnv} {S : Sto} {P : Tk → D → Sto → Prop}
theorem q_MethK {fks : FA} : Qr go (fMethK c x g idx fo fks env S) P ↔ Qr go (fo env S) fun tk d S1 => (∃ q, insOf c d S1 = some q ∧ hasF q.1 x = false) ∧ Qr tk (fks env S1) fun tk ds S2 => Qr tk (g (kwG idx [d] ds) S2) P := wp_MethK
theorem q_CallK {fks : FA} : Qr go (fCallK g idx fks env S) P ↔ Qr go (fks env S) fun tk ds S1 => Qr tk (g (kwG idx [] ds) S1) P := wp_CallK
theorem q_Repr {d : D} : Qr go (cRepr [d] S) P ↔ ∃ p, toP d = some p ∧ (p.showable = true ∧ p.hasDict = false ∧ p.depth ≤ 50 ∧ p.shown.length ≤ 16777216) ∧ P go (.str p.shown) S := wp_Repr
end
section
variable {ct : CT} {X : Cx} {a b e : Expr} {fa fb f : FE} {fas : FA} {env : DEnv} {S : Sto} {P : Tk → D → Sto → Prop}
theorem q_DispF {ks : List Str} : Qr go (fDispF ks fas env S) P ↔ Qr go (fas env S) fun tk ds S1 => (ks.length ≤ 15 ∧ ks.Nodup ∧ ds.length = ks.length) ∧ P tk (.dct (ks.map Sum.inr) ds) S1 := wp_DispF
theorem q_DIx : Qr go (fDIx fa fb env S) P ↔ Qr go (fa env S) fun tk x S1 => Qr tk (fb env S1) fun tk y S2 => ∃ kvs, kvsOf x S2 = some kvs ∧ ∃ key, toKey y = some key ∧ ∃ d, valA kvs key = some d ∧ P tk d S2 := wp_DIx
end
theorem q_rep {ds : List D} {k : Int} {S : Sto} {P : Tk → D → Sto → Prop} : Qr go (gRep (.lst ds) (.int k) S) P ↔ (0 ≤ k ∧ k ≤ 1000 ∧ ds.length ≤ 1000) ∧ P go (.lst (List.replicate k.toNat ds).flatten) S := wp_rep
section
variable {ct : CT} {X : Cx} {C : Addr} {c x : Str} {a b e o k : Expr} {fe fo fa fb fk : FE} {fas : FA} {pos apos cpos : Pos} {n : Nat} {g : FD} {env : DEnv} {S : Sto} {P : Tk → D → Sto → Prop}
theorem q_Prop {g : FD} : Qr go (fProp c g fe env S) P ↔ Qr go (fe env S) fun tk d S1 => (∃ q, insOf c d S1 = some q) ∧ Qr tk (g [d] S1) P := wp_Prop
theorem q_IsC : Qr go (fIsC c fe env S) P ↔ Qr go (fe env S) fun tk d S1 => (∃ q, insOf c d S1 = some q) ∧ P tk (.bl true) S1 := wp_IsC
theorem q_DGet1 : Qr go (fDGet1 fo fk env S) P ↔ Qr go (fo env S) fun tk x S1 => (∃ q, kvsOf x S1 = some q) ∧ Qr tk (fk env S1) fun tk y S2 => ∃ kvs, kvsOf x S2 = some kvs ∧ ∃ key, toKey y = some key ∧ P tk ((valA kvs key).getD .non) S2 := wp_DGet1
theorem q_DIn {neg : Bool} : Qr go (fDIn neg fk fo env S) P ↔ Qr go (fk env S) fun tk y S1 => Qr tk (fo env S1) fun tk x S2 => ∃ kvs, kvsOf x S2 = some kvs ∧ ∃ key, toKey y = some key ∧ P tk (.bl (if neg then !(valA kvs key).isSome else (valA kvs key).isSome)) S2 := wp_DIn
theorem q_gUnl {n : Nat} {gs : FGs} {ds : List D} {PG : Tk → DEnv → Sto → Prop} : Qr go (gUnlD n gs (.lst ds) env S) PG ↔ ds.length = n ∧ Qr go (gs ds env S) PG := wp_gUnl
theorem q_DictK {tab : List (Str × Int)} : Qr go (fDictK tab env S) P ↔ P go (.ref S.length) (S ++ [.dct (tabD tab)]) := wp_DictK
end
theorem q_repM {ds : List D} {k : Int} {S : Sto} {P : Tk → D → Sto → Prop} : Qr go (gRepM (.lst ds) (.int k) S) P ↔ (0 ≤ k ∧ k ≤ 2000 ∧ ds.length ≤ 1000) ∧ P go (.ref S.length) (S ++ [.lst (List.replicate k.toNat ds).flatten]) := wp_repM
section
variable {S : Sto} {P : Tk → D → Sto → Prop} {PA : Tk → List D → Sto → Prop} {PS : Tk → Fl → Sto → Prop} {env : DEnv} {f fa fb fo fe : FE} {fas : FA}
theorem q_aXi {i j : Int} : Qr go (gAddX (.int i) (.int j) S) P ↔ P go (.int (i + j)) S := wp_aXi
theorem q_aXs {x y : Str} : Qr go (gAddX (.str x) (.str y) S) P ↔ x.length + y.length ≤ 16777216 ∧ P go (.str (x ++ y)) S := wp_aXs
theorem q_aXt {a b : List D} : Qr go (gAddX (.tup a) (.tup b) S) P ↔ a.length + b.length ≤ 1000000 ∧ P go (.tup (a ++ b)) S := wp_aXt
theorem q_aXl {a b : List D} : Qr go (gAddX (.lst a) (.lst b) S) P ↔ a.length + b.length ≤ 1000000 ∧ P go (.lst (a ++ b)) S := wp_aXl
theorem q_aMl {a b : List D} : Qr go (gAddM (.lst a) (.lst b) S) P ↔ a.length + b.length ≤ 1000000 ∧ P go (.ref S.length) (S ++ [.lst (a ++ b)]) := wp_aMl
theorem q_ltX {i j : Int} : Qr go (gLtX (.int i) (.int j) S) P ↔ P go (.bl (decide (i < j))) S := wp_ltX
theorem q_leX {i j : Int} : Qr go (gLeX (.int i) (.int j) S) P ↔ P go (.bl (decide (i ≤ j))) S := wp_leX
theorem q_leX2 {a b c d : Int} : Qr go (gLeX (.tup [.int a, .int b]) (.tup [.int c, .int d]) S) P ↔ P go (.bl (leL [a, b] [c, d])) S := wp_leX2
theorem q_SlX {lo hi : FO} : Qr go (fSlX fa lo hi env S) P ↔ Qr go (fa env S) fun tk x S1 => Qr tk (lo env S1) fun tk i S2 => Qr tk (hi env S2) fun tk j S3 => Qr tk (gSlX x i j S3) P := wp_SlX
theorem q_sXc {ns : List Int} {lo hi : Option Int} : Qr go (gSlX (.scr ns) lo hi S) P ↔ P go (.lst ((cutD ns lo hi).map .int)) S := wp_sXc
theorem q_sXl {ds : List D} {lo hi : Option Int} : Qr go (gSlX (.lst ds) lo hi S) P ↔ P go (.lst (cutD ds lo hi)) S := wp_sXl
theorem q_sXt {ds : List D} {lo hi : Option Int} : Qr go (gSlX (.tup ds) lo hi S) P ↔ P go (.tup (cutD ds lo hi)) S := wp_sXt
theorem q_sXs {x : Str} {lo hi : Option Int} : Qr go (gSlX (.str x) lo hi S) P ↔ x.length ≤ 16777216 ∧ P go (.str (cutS x lo hi)) S := wp_sXs
theorem q_RevT : Qr go (fRevT f env S) P ↔ Qr go (f env S) fun tk d S1 => WTup d fun ds => P tk (.tup ds.reverse) S1 := wp_RevT
theorem q_sxI {i : Int} : Qr go (cStrX [.int i] S) P ↔ i.natAbs.log2 < 1920 ∧ P go (.str (toString i)) S := wp_sxI
theorem q_sxS {a : Str} : Qr go (cStrX [.str a] S) P ↔ P go (.str a) S := wp_sxS
theorem q_lxT {ds : List D} : Qr go (cListX [.tup ds] S) P ↔ P go (.lst ds) S := wp_lxT
theorem q_lxL {ds : List D} : Qr go (cListX [.lst ds] S) P ↔ P go (.lst ds) S := wp_lxL
theorem q_txL {ds : List D} : Qr go (cTupleX [.lst ds] S) P ↔ P go (.tup ds) S := wp_txL
theorem q_txT {ds : List D} : Qr go (cTupleX [.tup ds] S) P ↔ P go (.tup ds) S := wp_txT
theorem q_lmT {ds : List D} : Qr go (cListM [.tup ds] S) P ↔ P go (.ref S.length) (S ++ [.lst ds]) := wp_lmT
theorem q_lmL {ds : List D} : Qr go (cListM [.lst ds] S) P ↔ P go (.ref S.length) (S ++ [.lst ds]) := wp_lmL
theorem q_Par3 {i j l : Nat} : Qr go (sPar3 i j l fas env S) PS ↔ Qr go (fas env S) fun tk ds S1 => ∃ u v w, ds = [u, v, w] ∧ PS tk (.nx (((env.set i (some u)).set j (some v)).set l (some w))) S1 := wp_Par3
theorem q_Join : Qr go (fJoin fo fe env S) P ↔ Qr go (fo env S) fun tk d S1 => WStr d fun a => Qr tk (fe env S1) fun tk x S2 => ∃ ds, lstOf S2 x = some ds ∧ ∃ ys, asStrs ds = some ys ∧ ((ys.map (·.length)).sum + ys.length * a.length ≤ 16777216 ∧ P tk (.str (Txt.join a ys)) S2) := wp_Join
end
end DL
namespace DL
open PySem PySem.Spec PyProof.Rows L2
open Tk
/-- an environment as it was, but for some places -/
def frm : List Nat → DEnv → DEnv → Prop
  | [], e0, e => e = e0
  | j :: js, e0, e => ∃ a, frm js (e0.set j a) e
theorem frm_refl : ∀ (js : List Nat) (e : DEnv), frm js e e
  | [], e => rfl
  | j :: js, e => ⟨(e[j]?).getD none, by
    have h : e.set j ((e[j]?).getD none) = e := by
      refine List.ext_getElem? fun i => ?_
      by_cases hj : i = j
      · subst hj
        by_cases hl : i < e.length
        · rw [List.getElem?_set_self hl, List.getElem?_eq_getElem hl]
          rfl
        · rw [List.getElem?_eq_none (by rw [List.length_set]; omega), List.getElem?_eq_none (by omega)]
      · rw [List.getElem?_set_ne (fun e => hj e.symm)]
    rw [h]
    exact frm_refl js e⟩
section
variable {α β : Type} {env : DEnv} {S S1 : Sto} {f1 f2 : FS} {t u : FT} {f fa fb fc : FE} {fas : FA}
theorem q_imp {o : Option (α × Sto)} {P P' : Tk → α → Sto → Prop} (h : Qr go o P) (hp : ∀ a S, P go a S → P' go a S) : Qr go o P' := R.imp h hp
theorem q_of {o : Option (α × Sto)} {P : Tk → α → Sto → Prop} {a : α} (h : o = some (a, S)) (p : P go a S) : Qr go o P := ⟨a, S, h, p⟩
theorem q_for {P : Tk → Fl → Sto → Prop} {g : FG} {body : FS} {items : List D} (js : List Nat) (J : Nat → Sto → Prop) (h0 : J 0 S)
    (hs : ∀ i d env' S', items[i]? = some d → frm js env env' → J i S' → Qr go (g d env' S') fun tk env1 S1 => Qr tk (body env1 S1) (QBk (fun _ e S2 => frm js env e ∧ J (i + 1) S2) P))
    (hd : ∀ env' S', frm js env env' → J items.length S' → P go (.nx env') S') : Qr go (forD g body items env S) P :=
  r_forD (P := P go) (fun i e S' => frm js env e ∧ J i S') ⟨frm_refl js env, h0⟩ (fun i d e S' hi hj => hs i d e S' hi hj.1 hj.2) fun e S' hj => hd e S' hj.1 hj.2
/-- a loop whose turns change values -/
theorem q_forE {P : Tk → Fl → Sto → Prop} {g : FG} {body : FS} {items : List D} (js : List Nat) (J : Nat → DEnv → Sto → Prop) (h0 : J 0 env S)
    (hs : ∀ i d env' S', items[i]? = some d → frm js env env' → J i env' S' → Qr go (g d env' S') fun tk env1 S1 => Qr tk (body env1 S1) (QBk (fun _ e S2 => frm js env e ∧ J (i + 1) e S2) P))
    (hd : ∀ env' S', frm js env env' → J items.length env' S' → P go (.nx env') S') : Qr go (forD g body items env S) P :=
  r_forD (P := P go) (fun i e S' => frm js env e ∧ J i e S') ⟨frm_refl js env, h0⟩ (fun i d e S' hi hj => hs i d e S' hi hj.1 hj.2) fun e S' hj => hd e S' hj.1 hj.2
/-- a loop whose turns keep one word -/
theorem q_forM {P : Tk → Fl → Sto → Prop} {g : FG} {body : FS} {items : List D} (js : List Nat) (J : Sto → Prop) (h0 : J S)
    (hs : ∀ d ∈ items, ∀ env' S', frm js env env' → J S' → Qr go (g d env' S') fun tk env1 S1 => Qr tk (body env1 S1) (QBk (fun _ e S2 => frm js env e ∧ J S2) P))
    (hd : ∀ env' S', frm js env env' → J S' → P go (.nx env') S') : Qr go (forD g body items env S) P :=
  q_for js (fun _ => J) h0 (fun i d e S' hi hf hj => hs d (List.mem_of_getElem? hi) e S' hf hj) hd
end
def JB (o : Option (D × Sto)) (S : Sto) (X : Prop) : Prop := ∃ b, o = some (.bl b, S) ∧ (b = true ↔ X)
def JT (o : Option (Bool × Sto)) (S : Sto) (X : Prop) : Prop := ∃ b, o = some (b, S) ∧ (b = true ↔ X)
section
variable {env : DEnv} {S : Sto} {f fa fb : FE} {t u : FT} {X Y : Prop}
theorem JB.of_q {o : Option (D × Sto)} (h : Qr go o fun _ d S' => S' = S ∧ ∃ b, d = .bl b ∧ (b = true ↔ X)) : JB o S X := by
  obtain ⟨d, S', e, rfl, b, rfl, hb⟩ := h
  exact ⟨b, e, hb⟩
theorem JB.tf {o : Option (D × Sto)} {P : Tk → D → Sto → Prop} (h : JB o S X) (k : X → P go (.bl true) S) (g : ¬ X → P go (.bl false) S) : Qr go o P := by
  obtain ⟨b, h1, h2⟩ := h
  cases b with
  | true => exact ⟨_, _, h1, k (h2.mp rfl)⟩
  | false => exact ⟨_, _, h1, g fun x => by cases h2.mpr x⟩
theorem JB.mk {b : Bool} {o : Option (D × Sto)} (h : o = some (.bl b, S)) (hx : b = true ↔ X) : JB o S X := ⟨b, h, hx⟩
theorem JB.call {g : FD} {fas : FA} {ds : List D} (h : fas env S = some (ds, S)) (k : JB (g ds S) S X) : JB (fCall g fas env S) S X := let ⟨b, h1, h2⟩ := k; ⟨b, call_of h h1, h2⟩
theorem JT.or (h : JT (t env S) S X) (g : ¬ X → JT (u env S) S Y) : JT (tOrD t u env S) S (X ∨ Y) := by
  obtain ⟨b, h1, h2⟩ := h
  rw [JT, or_of h1]
  cases b with
  | true => exact ⟨true, rfl, ⟨fun _ => Or.inl (h2.mp rfl), fun _ => rfl⟩⟩
  | false =>
    have nx : ¬ X := fun x => by cases h2.mpr x
    obtain ⟨c, h3, h4⟩ := g nx
    exact ⟨c, h3, h4.trans ⟨Or.inr, fun h => h.resolve_left nx⟩⟩
theorem JT.and (h : JT (t env S) S X) (g : X → JT (u env S) S Y) : JT (tAndD t u env S) S (X ∧ Y) := by
  obtain ⟨b, h1, h2⟩ := h
  rw [JT, and_of h1]
  cases b with
  | false => exact ⟨false, rfl, ⟨fun h => (by cases h), fun h => h2.mpr h.1⟩⟩
  | true =>
    have x : X := h2.mp rfl
    obtain ⟨c, h3, h4⟩ := g x
    exact ⟨c, h3, h4.trans ⟨fun y => ⟨x, y⟩, fun h => h.2⟩⟩
theorem JB.or (h : JB (fa env S) S X) (g : ¬ X → JB (fb env S) S Y) : JB (fOr fa fb env S) S (X ∨ Y) := by
  obtain ⟨b, h1, h2⟩ := h
  rw [JB, vor_of h1]
  cases b with
  | true => exact ⟨true, rfl, ⟨fun _ => Or.inl (h2.mp rfl), fun _ => rfl⟩⟩
  | false =>
    have nx : ¬ X := fun x => by cases h2.mpr x
    obtain ⟨c, h3, h4⟩ := g nx
    exact ⟨c, h3, h4.trans ⟨Or.inr, fun h => h.resolve_left nx⟩⟩
theorem JB.and (h : JB (fa env S) S X) (g : X → JB (fb env S) S Y) : JB (fAnd fa fb env S) S (X ∧ Y) := by
  obtain ⟨b, h1, h2⟩ := h
  rw [JB, vand_of h1]
  cases b with
  | false => exact ⟨false, rfl, ⟨fun h => (by cases h), fun h => h2.mpr h.1⟩⟩
  | true =>
    have x : X := h2.mp rfl
    obtain ⟨c, h3, h4⟩ := g x
    exact ⟨c, h3, h4.trans ⟨fun y => ⟨x, y⟩, fun h => h.2⟩⟩
/-- a run that tells a truth: by a return, or further on -/
def JF (o : Option (Fl × Sto)) (S : Sto) (X : Prop) : Prop := ∃ b, o = some (.rt (.bl b), S) ∧ (b = true ↔ X)
theorem JF.run {n : Nat} {g : FS} {ds : List D} (h : JF (g (ds.map some ++ List.replicate (n - ds.length) none) S) S X) : JB (runD n g ds S) S X := let ⟨b, h1, h2⟩ := h; ⟨b, run_of h1, h2⟩
theorem JF.ret (h : JB (f env S) S X) : JF (sRet f env S) S X := let ⟨b, h1, h2⟩ := h; ⟨b, ret_of h1, h2⟩
theorem JF.nx {f1 f2 : FS} {env' : DEnv} (h : f1 env S = some (.nx env', S)) (k : JF (f2 env' S) S X) : JF (sSeq f1 f2 env S) S X := by
  rw [JF, seq_nx h]; exact k
theorem JF.rt {f1 f2 : FS} (h : JF (f1 env S) S X) : JF (sSeq f1 f2 env S) S X := let ⟨b, h1, h2⟩ := h; ⟨b, seq_rt h1, h2⟩
end
section
variable {env : DEnv} {S : Sto} {P : Tk → D → Sto → Prop} {f fa fb fo fe : FE}
theorem q_pow {i j : Int} : Qr go (gPow (.int i) (.int j) S) P ↔ (0 ≤ j ∧ j ≤ 1000000 ∧ i.natAbs < 18446744073709551616) ∧ P go (.int (i ^ j.toNat)) S := by
  have e : ((decide (0 ≤ j) && decide (j ≤ 1000000) && decide (i.natAbs < 18446744073709551616)) = true) ↔ (0 ≤ j ∧ j ≤ 1000000 ∧ i.natAbs < 18446744073709551616) := by simp [and_assoc]
  rw [← e]
  exact R_cond
theorem q_p40 : Qr go (gPow (.int 10) (.int 40) S) P ↔ P go (.int 10000000000000000000000000000000000000000) S := by
  rw [q_pow]
  exact ⟨fun h => h.2, fun h => ⟨⟨by decide, by decide, by decide⟩, h⟩⟩
theorem appQ {i : Nat} {ds0 : List D} (ho : fo env S = some (.ref i, S)) (hi : S[i]? = some (.lst ds0)) (he : Qr go (fe env S) fun tk v S2 => ∃ ds, S2[i]? = some (.lst ds) ∧ ds.length ≤ 1000000 ∧ P tk .non (S2.set i (.lst (ds ++ [v])))) : Qr go (fAppend fo fe env S) P := by
  obtain ⟨v, S2, e, ds, h1, h2, p⟩ := he
  refine ⟨_, _, ?_, p⟩
  show ((fo env S).bind _) = _
  rw [ho]
  show (match S[i]? with | some (.lst _) => (fe env S).bind _ | _ => none) = _
  rw [hi]
  show ((fe env S).bind _) = _
  rw [e]
  show (match S2[i]? with | some (.lst ds) => if ds.length ≤ 1000000 then some (D.non, S2.set i (.lst (ds ++ [v]))) else none | _ => none) = _
  rw [h1]
  exact if_pos h2
end
end DL
namespace DL
open PySem PySem.Spec PyProof.Rows L2
def fStar (f : FE) (fas : FA) : FA := fun env S => (f env S).bind fun p => match p.1 with
  | .tup ds => (fas env p.2).bind fun q => some (ds ++ q.1, q.2)
  | .lst ds => (fas env p.2).bind fun q => some (ds ++ q.1, q.2)
  | _ => none
def zipD : List D → List D → List D
  | a :: as, b :: bs => .tup [a, b] :: zipD as bs
  | _, _ => []
def iZip (f g : FE) : FA := fun env S => (f env S).bind fun p => (g env p.2).bind fun q => match p.1, q.1 with
  | .tup a, .tup b => some (zipD a b, q.2)
  | .lst a, .lst b => some (zipD a b, q.2)
  | _, _ => none
def tIfD (ga fa fb : FT) : FT := fun env S => (ga env S).bind fun p => if p.1 = true then fa env p.2 else fb env p.2
open Tk
section
variable {env : DEnv} {S : Sto} {f g : FE} {fas : FA} {ga fa fb : FT}
theorem q_tIf {P : Tk → Bool → Sto → Prop} : Qr go (tIfD ga fa fb env S) P ↔ Qr go (ga env S) fun tk b S1 => QI tk b (fun tk => Qr tk (fa env S1) P) (fun tk => Qr tk (fb env S1) P) := by
  show R ((ga env S).bind _) (P go) ↔ _
  rw [R_bind]
  simp only [R_ite]
  exact Iff.rfl
def WSeq : D → (List D → Prop) → Prop
  | .tup ds, P => P ds
  | .lst ds, P => P ds
  | _, _ => False
def WZip : D → D → (List D → Prop) → Prop
  | .tup a, .tup b, P => P (zipD a b)
  | .lst a, .lst b, P => P (zipD a b)
  | _, _, _ => False
theorem wseq_t {ds : List D} {P : List D → Prop} : WSeq (.tup ds) P ↔ P ds := Iff.rfl
theorem wseq_l {ds : List D} {P : List D → Prop} : WSeq (.lst ds) P ↔ P ds := Iff.rfl
theorem wzip_t {a b : List D} {P : List D → Prop} : WZip (.tup a) (.tup b) P ↔ P (zipD a b) := Iff.rfl
theorem wzip_l {a b : List D} {P : List D → Prop} : WZip (.lst a) (.lst b) P ↔ P (zipD a b) := Iff.rfl
theorem q_star {P : Tk → List D → Sto → Prop} : Qr go (fStar f fas env S) P ↔ Qr go (f env S) fun tk x S1 => WSeq x fun ds => Qr tk (fas env S1) fun tk ys S2 => P tk (ds ++ ys) S2 := by
  show R ((f env S).bind _) (P go) ↔ _
  rw [R_bind]
  refine ⟨fun ⟨d, S1, e, q⟩ => ⟨d, S1, e, ?_⟩, fun ⟨d, S1, e, q⟩ => ⟨d, S1, e, ?_⟩⟩
  · cases d <;> first | exact (R_none.mp q).elim | (obtain ⟨ys, S2, h1, p⟩ := R_bind.mp q; exact ⟨ys, S2, h1, R_some.mp p⟩)
  · cases d <;> first | exact q.elim | (obtain ⟨ys, S2, h1, p⟩ := q; exact R_bind.mpr ⟨ys, S2, h1, R_some.mpr p⟩)
theorem q_zip {P : Tk → List D → Sto → Prop} : Qr go (iZip f g env S) P ↔ Qr go (f env S) fun tk x S1 => Qr tk (g env S1) fun tk y S2 => WZip x y fun items => P tk items S2 := by
  show R ((f env S).bind _) (P go) ↔ _
  rw [R_bind]
  refine ⟨fun ⟨d, S1, e, q⟩ => ⟨d, S1, e, ?_⟩, fun ⟨d, S1, e, q⟩ => ⟨d, S1, e, ?_⟩⟩
  · obtain ⟨d', S2, e', q⟩ := R_bind.mp q
    refine ⟨d', S2, e', ?_⟩
    cases d <;> cases d' <;> first | exact (R_none.mp q).elim | exact R_some.mp q
  · obtain ⟨d', S2, e', q⟩ := q
    refine R_bind.mpr ⟨d', S2, e', ?_⟩
    cases d <;> cases d' <;> first | exact False.elim q | exact R_some.mpr q
end
end DL
namespace DL
open PySem PySem.Spec PyProof.Rows L2
def gNilB (neg : Bool) : D → D → Sto → Option (D × Sto)
  | .lst ds, .lst [], S => some (.bl (if neg then !ds.isEmpty else ds.isEmpty), S)
  | _, _, _ => none
def iZipTL (f g : FE) : FA := fun env S => (f env S).bind fun p => (g env p.2).bind fun q => match p.1, q.1 with
  | .tup a, .lst b => some (zipD a b, q.2)
  | _, _ => none
def iSeq (f : FE) : FA := fun env S => (f env S).bind fun p => match p.1 with
  | .lst ds => some (ds, p.2)
  | .tup ds => some (ds, p.2)
  | _ => none
open Tk
def WZipM : D → D → (List D → Prop) → Prop
  | .tup a, .lst b, P => P (zipD a b)
  | _, _, _ => False
theorem wzip_m {a b : List D} {P : List D → Prop} : WZipM (.tup a) (.lst b) P ↔ P (zipD a b) := Iff.rfl
theorem q_zipM {env : DEnv} {S : Sto} {f g : FE} {P : Tk → List D → Sto → Prop} : Qr go (iZipTL f g env S) P ↔ Qr go (f env S) fun tk x S1 => Qr tk (g env S1) fun tk y S2 => WZipM x y fun items => P tk items S2 := by
  show R ((f env S).bind _) (P go) ↔ _
  rw [R_bind]
  refine ⟨fun ⟨d, S1, e, q⟩ => ⟨d, S1, e, ?_⟩, fun ⟨d, S1, e, q⟩ => ⟨d, S1, e, ?_⟩⟩
  · obtain ⟨d', S2, e', q⟩ := R_bind.mp q
    refine ⟨d', S2, e', ?_⟩
    cases d <;> cases d' <;> first | exact (R_none.mp q).elim | exact R_some.mp q
  · obtain ⟨d', S2, e', q⟩ := q
    refine R_bind.mpr ⟨d', S2, e', ?_⟩
    cases d <;> cases d' <;> first | exact False.elim q | exact R_some.mpr q
theorem q_nil0 {neg : Bool} {ds : List D} {S : Sto} {P : Tk → D → Sto → Prop} : Qr go (gNilB neg (.lst ds) (.lst []) S) P ↔ P go (.bl (if neg then !ds.isEmpty else ds.isEmpty)) S := R_some
theorem q_iSeq {env : DEnv} {S : Sto} {f : FE} {P : Tk → List D → Sto → Prop} : Qr go (iSeq f env S) P ↔ Qr go (f env S) fun tk x S1 => WSeq x fun ds => P tk ds S1 := by
  show R ((f env S).bind _) (P go) ↔ _
  rw [R_bind]
  refine ⟨fun ⟨d, S1, e, q⟩ => ⟨d, S1, e, ?_⟩, fun ⟨d, S1, e, q⟩ => ⟨d, S1, e, ?_⟩⟩
  · cases d <;> first | exact (R_none.mp q).elim | exact R_some.mp q
  · cases d <;> first | exact False.elim q | exact R_some.mpr q
theorem q_ListR1 {env : DEnv} {S : Sto} {f : FE} {P : Tk → D → Sto → Prop} : Qr go (fListR1 f env S) P ↔ Qr go (f env S) fun tk x S1 => WI x fun i => (okR i = true ∧ i ≤ 16777216) ∧ P tk (.lst (rangeD 0 i)) S1 := by
  show R ((f env S).bind _) (P go) ↔ _
  rw [R_bind]
  refine ⟨fun ⟨d, S1, e, q⟩ => ⟨d, S1, e, ?_⟩, fun ⟨d, S1, e, q⟩ => ⟨d, S1, e, ?_⟩⟩
  · cases d <;> first | exact (R_none.mp q).elim | exact R_cond.mp q
  · cases d <;> first | exact False.elim q | exact R_cond.mpr q
theorem q_TupR1 {env : DEnv} {S : Sto} {f : FE} {P : Tk → D → Sto → Prop} : Qr go (fTupR1 f env S) P ↔ Qr go (f env S) fun tk x S1 => WI x fun i => (okR i = true ∧ i ≤ 16777216) ∧ P tk (.tup (rangeD 0 i)) S1 := by
  show R ((f env S).bind _) (P go) ↔ _
  rw [R_bind]
  refine ⟨fun ⟨d, S1, e, q⟩ => ⟨d, S1, e, ?_⟩, fun ⟨d, S1, e, q⟩ => ⟨d, S1, e, ?_⟩⟩
  · cases d <;> first | exact (R_none.mp q).elim | exact R_cond.mp q
  · cases d <;> first | exact False.elim q | exact R_cond.mpr q
theorem callee_none {P : Program} {w : World} {K : PySem.W.Frag} {mg : Str → Option Value} {base : Heap} {ct : CT} {k n : Nat} {x : Str} {st : Stmt} {ps : List Str} {kwb : KWB} (d : DefAt K mg x st ps kwb) : Callee P w K mg base ct k x n (fun _ _ => none) kwb := by
  obtain ⟨f, fd, F, h1, h3⟩ := d
  have no : ∀ {vs : List V} {H : Hp} {Q : VK} {E : XK}, spD K ct n (fun _ _ => none) vs H Q E → False := fun h => by
    obtain ⟨_, m, F, S, ds, d, S', _, _, hg, _⟩ := h
    cases hg
  exact ⟨f, fd, ps, h1, F.kp, h3, ⟨fun vs H Q E h => (no h).elim, fun A outer s H args us vs Q E hr e0 hb hv h => (no h).elim⟩⟩
end DL
namespace DL
open PySem PySem.Spec PyProof.Rows L2
def gRepT : D → D → Sto → Option (D × Sto)
  | .tup ds, .int k, S => if 0 ≤ k ∧ k ≤ 1000 ∧ ds.length ≤ 1000 ∧ 0 < ds.length then some (.tup (List.replicate k.toNat ds).flatten, S) else none
  | _, _, _ => none
section
variable {ct : CT} {K : PySem.W.Frag}
theorem wp_repT {ds : List D} {k : Int} {S : Sto} {P : D → Sto → Prop} : R (gRepT (.tup ds) (.int k) S) P ↔ (0 ≤ k ∧ k ≤ 1000 ∧ ds.length ≤ 1000 ∧ 0 < ds.length) ∧ P (.tup (List.replicate k.toNat ds).flatten) S := R_cond
open Tk
theorem q_repT {ds : List D} {k : Int} {S : Sto} {P : Tk → D → Sto → Prop} : Qr go (gRepT (.tup ds) (.int k) S) P ↔ (0 ≤ k ∧ k ≤ 1000 ∧ ds.length ≤ 1000 ∧ 0 < ds.length) ∧ P go (.tup (List.replicate k.toNat ds).flatten) S := wp_repT
end
end DL
namespace DL
open PySem PySem.Spec PyProof.Rows L2
end DL
namespace DL
open PySem PySem.Spec PyProof.Rows L2
end DL
namespace DL
open PySem PySem.Spec PyProof.Rows L2
open Tk
def rangeC (i c : Int) (n : Nat) : List D := (List.range n).map fun (k : Nat) => D.int (i + (k : Int) * c)
def okC (i j c : Int) : Bool := decide (0 < c) && decide (c < 1073741824) && Builtin.Range.small i j c
def iRange3 (fas : FA) : FA := fun env S => (fas env S).bind fun p => match p.1 with
  | [.int i, .int j, .int c] => if okC i j c = true then some (rangeC i c (Builtin.Range.rangeSize i j c).toNat, p.2) else none
  | _ => none
theorem q_iR3 {fas : FA} {env : DEnv} {S : Sto} {PA : Tk → List D → Sto → Prop} : Qr go (iRange3 fas env S) PA ↔ Qr go (fas env S) fun tk ds S1 => ∃ i j c, ds = [.int i, .int j, .int c] ∧ okC i j c = true ∧ PA tk (rangeC i c (Builtin.Range.rangeSize i j c).toNat) S1 := by
  constructor
  · rintro ⟨ds, S1, e, p⟩
    obtain ⟨⟨zs, S2⟩, h1, h⟩ := bind_some e
    refine ⟨zs, S2, h1, ?_⟩
    dsimp only at h
    split at h
    · split at h
      · rename_i hc
        cases h
        exact ⟨_, _, _, rfl, hc, p⟩
      · cases h
    · cases h
  · rintro ⟨ds, S1, e, i, j, c, rfl, hc, p⟩
    refine ⟨_, _, ?_, p⟩
    show ((fas env S).bind _) = _
    rw [e]
    show (if okC i j c = true then _ else none) = _
    rw [if_pos hc]
end DL
namespace DL
open PySem PySem.Spec PyProof.Rows L2
open Tk
def forRD (g : FG) (body : FS) (z : D) : Nat → Nat → FS
  | 0, _, _, _ => none
  | n + 1, i, env, S => (lstOf S z).bind fun ds => match ds[i]? with
    | none => some (.nx env, S)
    | some x => (g x env S).bind fun p => (body p.1 p.2).bind fun q => match q.1 with
      | .nx env' => forRD g body z n (i + 1) env' q.2
      | .ct env' => forRD g body z n (i + 1) env' q.2
      | .bk env' => some (.nx env', q.2)
      | .rt d => some (.rt d, q.2)
@[irreducible] def bigN : Nat := 99999
def sForR (f : FE) (g : FG) (body : FS) : FS := fun env S => (f env S).bind fun p => forRD g body p.1 (bigN + 1) 0 env p.2
section
variable {env : DEnv} {S : Sto}
theorem wp_sForR {f : FE} {g : FG} {b : FS} {PS : Fl → Sto → Prop} : R (sForR f g b env S) PS ↔ R (f env S) fun z S1 => R (forRD g b z (bigN + 1) 0 env S1) PS := by
  unfold sForR
  simp only [R_bind]
theorem q_sForR {f : FE} {g : FG} {b : FS} {PS : Tk → Fl → Sto → Prop} : Qr go (sForR f g b env S) PS ↔ Qr go (f env S) fun tk z S1 => Qr tk (forRD g b z (bigN + 1) 0 env S1) PS := wp_sForR
end
end DL
namespace DL
open PySem PySem.Spec PyProof.Rows L2
open Tk
end DL
namespace DL
open PySem PySem.Spec PyProof.Rows L2
open Tk
end DL
namespace DL
open PySem PySem.Spec PyProof.Rows L2
open Tk
def fChain3 (g g' g2 : D → D → Sto → Option (D × Sto)) (fa fb fc fd : FE) : FE := fun env S => (fa env S).bind fun p => (fb env p.2).bind fun q => (g p.1 q.1 q.2).bind fun z => match z.1 with
  | .bl true => (fc env z.2).bind fun w => (g' q.1 w.1 w.2).bind fun z2 => match z2.1 with
    | .bl true => (fd env z2.2).bind fun v => g2 w.1 v.1 v.2
    | .bl false => some (.bl false, z2.2)
    | _ => none
  | .bl false => some (.bl false, z.2)
  | _ => none
theorem wp_Chain3 {P : D → Sto → Prop} {fa fb fc fd : FE} {env : DEnv} {S : Sto} {g g' g2 : D → D → Sto → Option (D × Sto)} : R (fChain3 g g' g2 fa fb fc fd env S) P ↔ R (fa env S) fun x S1 => R (fb env S1) fun y S2 => R (g x y S2) fun z S3 => WB z fun b => if b = true then R (fc env S3) fun w S4 => R (g' y w S4) fun z2 S5 => WB z2 fun b2 => if b2 = true then R (fd env S5) fun v S6 => R (g2 w v S6) P else P (.bl false) S5 else P (.bl false) S3 := by
  unfold fChain3
  simp only [R_bind]
  refine ⟨fun ⟨x, S1, e, y, S2, e2, z, S3, e3, q⟩ => ⟨x, S1, e, y, S2, e2, z, S3, e3, ?_⟩, fun ⟨x, S1, e, y, S2, e2, z, S3, e3, q⟩ => ⟨x, S1, e, y, S2, e2, z, S3, e3, ?_⟩⟩
  · cases z <;> first | exact (R_none.mp q).elim | skip
    rename_i b
    cases b
    · exact R_some.mp q
    · obtain ⟨w, S4, e4, q⟩ := R_bind.mp q
      obtain ⟨z2, S5, e5, q⟩ := R_bind.mp q
      refine ⟨w, S4, e4, z2, S5, e5, ?_⟩
      cases z2 <;> first | exact (R_none.mp q).elim | skip
      rename_i b2
      cases b2
      · exact R_some.mp q
      · exact R_bind.mp q
  · cases z <;> first | exact q.elim | skip
    rename_i b
    cases b
    · exact R_some.mpr q
    · obtain ⟨w, S4, e4, z2, S5, e5, q⟩ := q
      refine R_bind.mpr ⟨w, S4, e4, R_bind.mpr ⟨z2, S5, e5, ?_⟩⟩
      cases z2 <;> first | exact q.elim | skip
      rename_i b2
      cases b2
      · exact R_some.mpr q
      · exact R_bind.mpr q
theorem q_Chain3 {P : Tk → D → Sto → Prop} {fa fb fc fd : FE} {env : DEnv} {S : Sto} {g g' g2 : D → D → Sto → Option (D × Sto)} : Qr go (fChain3 g g' g2 fa fb fc fd env S) P ↔ Qr go (fa env S) fun tk x S1 => Qr tk (fb env S1) fun tk y S2 => Qr tk (g x y S2) fun tk z S3 => WB z fun b => QI tk b (fun tk => Qr tk (fc env S3) fun tk w S4 => Qr tk (g' y w S4) fun tk z2 S5 => WB z2 fun b2 => QI tk b2 (fun tk => Qr tk (fd env S5) fun tk v S6 => Qr tk (g2 w v S6) P) (fun tk => P tk (.bl false) S5)) (fun tk => P tk (.bl false) S3) := wp_Chain3
theorem q_iEnum {fi : FA} {env : DEnv} {S : Sto} {P : Tk → List D → Sto → Prop} : Qr go (iEnum fi env S) P ↔ Qr go (fi env S) fun tk ds S1 => P tk (enumD 0 ds) S1 := by
  show R ((fi env S).bind _) _ ↔ R (fi env S) _
  simp only [R_bind, R_some]
end DL
namespace DL
open PySem PySem.Spec PyProof.Rows L2
open Tk
structure OwnC (K : PySem.W.Frag) (C : Addr) : Prop where
  ne : PySem.W.findIn K (.ref C) "__ne__" = some (some (.builtin "object.__ne__"))
  fm : PySem.W.findIn K (.ref C) "__format__" = some (some (.builtin "object.__format__"))
  ob : PySem.W.mroIn K C (.type "object") = some true
  co : PySem.W.kitCls K (.type "NoneType") (.ref C) = some false
theorem nf_type {K : PySem.W.Frag} {C : Addr} {T : String} (h : (fastBuiltinMro T).map (fun l => l.all (fun v => match v with | .type _ => true | _ => false)) = some true) : PySem.W.notFirst K C (.type T) = true := by
  obtain ⟨l, h, hl⟩ := Option.map_eq_some_iff.mp h
  have : l.contains (.ref C) = false := by
    rw [List.contains_eq_any_beq, List.any_eq_false]
    intro v hv e
    have hv := List.all_eq_true.mp hl v hv
    have e := beq_iff_eq.mp e
    subst e
    cases hv
  show (Value.type T == Value.ref C || ((fastBuiltinMro T).map (·.contains (.ref C)) == some false)) = true
  rw [h, Option.map_some, this, Bool.or_eq_true_iff]
  exact Or.inr rfl
end DL
namespace DL
open PySem PySem.Spec PyProof.Rows L2
open Tk
def tyOk (c : Str) : D → Sto → Bool
  | .non, _ | .bl _, _ | .int _, _ | .str _, _ | .tup _, _ | .lst _, _ | .dct _ _, _ => true
  | .obj c' _ _, _ => decide (c' = c)
  | .ref i, S => match S[i]? with
    | some (.lst _) => true
    | some (.ins c' _ _) => decide (c' = c)
    | _ => false
  | _, _ => false
end DL
namespace DL
open PySem PySem.Spec PyProof.Rows L2
open Tk
end DL
namespace DL
open PySem PySem.Spec PyProof.Rows L2
open Tk
theorem kit_type {K : PySem.W.Frag} {C : Addr} {T : String} (o : OwnC K C) (h : (fastBuiltinMro T).map (fun l => l.all (fun v => match v with | .type _ => true | _ => false)) = some true) : PySem.W.kitOne K (.type T) (.ref C) = some false := by
  have nf := nf_type (K := K) (C := C) h
  have e : PySem.W.subIn K (.type T) (.ref C) = some false := by
    rcases Bool.or_eq_true_iff.mp nf with e | e
    · exact absurd (beq_iff_eq.mp e) (by simp)
    · exact beq_iff_eq.mp e
  have co := o.co
  unfold PySem.W.kitOne
  rw [if_neg (by simp)]
  unfold PySem.W.kitCls at co ⊢
  dsimp only at co ⊢
  split at co
  · rename_i z
    rw [if_pos z, e]
  · cases co
theorem tyx_seqT {K : PySem.W.Frag} {H : Hp} {q : Addr} {xs : List V} (h : SqT K H q xs) : TyX K H (.ref q) (.type "tuple") := by
  rcases h with (h | ⟨o, h⟩) | ⟨o, its, n, h, hc, _⟩
  · exact .base (.tup h)
  · exact .fTuple h
  · exact .kTuple h hc
def isV (C : Addr) (H : Hp) (v : V) : Prop := ∃ a dx fs, v = .ref a ∧ H a = some (.ins C dx fs)
def mroB (T : String) : Prop := (fastBuiltinMro T).map (fun l => l.all (fun v => match v with | .type _ => true | _ => false)) = some true
def rIsC2 (K : PySem.W.Frag) (C : Addr) : List V → Hp → VK → Prop := fun xs H Q => ∃ x, xs = [x, .ref C] ∧ ((isV C H x ∧ Q (.bl true) H) ∨ ∃ T, TyX K H x (.type T) ∧ mroB T ∧ Q (.bl false) H)
theorem call_isC2 {X : Cx} {C : Addr} (o : OwnC X.K C) (c : C8.InsC X.K C) : CallR X (.builtin "isinstance") (rIsC2 X.K C) := by
  intro pins s σ H xs us Q I r h
  obtain ⟨x, rfl, h⟩ := h
  rcases h with ⟨⟨a, dx, fs, rfl, ha⟩, q⟩ | ⟨T, tx, hm, q⟩
  · exact C8.call_isC c pins s σ H _ us Q I r ⟨a, dx, fs, rfl, ha, q⟩
  · exact call_isi pins s σ H _ us Q I r ⟨x, .ref C, _, .ref C, false, rfl, .own C, tx, kit_type o hm, q⟩
def fIsC2 (c : Str) (fe : FE) : FE := fun env S => (fe env S).bind fun p => if tyOk c p.1 p.2 = true then some (.bl (insOf c p.1 p.2).isSome, p.2) else none
section
variable {ct : CT} {X : Cx} {C : Addr} {c x : Str} {e : Expr} {fe : FE} {pos : Pos}
theorem ty_or {m : List Addr} {F H : Hp} {S : Sto} {d : D} {v : V} (kc : Klass X.K ct c C) (s : Sim X.K ct m F S H) (r : Rep X.K ct m F d v) (h : tyOk c d S = true) : ((insOf c d S).isSome = true ∧ isV C H v) ∨ ((insOf c d S).isSome = false ∧ ∃ T, TyX X.K H v (.type T) ∧ mroB T) := by
  have obj : ∀ q : List Str × List D, insOf c d S = some q → ((insOf c d S).isSome = true ∧ isV C H v) ∨ ((insOf c d S).isSome = false ∧ ∃ T, TyX X.K H v (.type T) ∧ mroB T) := fun q hq => by
    obtain ⟨a, dx, vs, rfl, e2, _⟩ := insOf_rep kc s r (fs := q.1) (ds := q.2) hq
    rw [hq]
    exact Or.inl ⟨rfl, a, dx, _, rfl, e2⟩
  cases d with
  | non => cases (show v = .non from r); exact Or.inr ⟨rfl, "NoneType", .base .non, by unfold mroB; kernel_rfl⟩
  | bl b => cases (show v = .bl b from r); exact Or.inr ⟨rfl, "bool", .base (.bl b), by unfold mroB; kernel_rfl⟩
  | int i => cases (show v = .int i from r); exact Or.inr ⟨rfl, "int", .base (.int i), by unfold mroB; kernel_rfl⟩
  | str z => cases (show v = .str z from r); exact Or.inr ⟨rfl, "str", .base (.str z), by unfold mroB; kernel_rfl⟩
  | tup ds =>
    obtain ⟨a, vs, rfl, e, _⟩ := r
    exact Or.inr ⟨rfl, "tuple", tyx_seqT (sqT_mono s.same e), by unfold mroB; kernel_rfl⟩
  | lst ds =>
    obtain ⟨a, vs, rfl, e, _⟩ := r
    exact Or.inr ⟨rfl, "list", .base (.lst (s.same _ _ e)), by unfold mroB; kernel_rfl⟩
  | dct ks ds =>
    obtain ⟨a, vs, rfl, e, _⟩ := r
    exact Or.inr ⟨rfl, "dict", .base (.dK (s.same _ _ e)), by unfold mroB; kernel_rfl⟩
  | obj c' fs ds =>
    have h : decide (c' = c) = true := h
    refine obj (fs, ds) ?_
    show (if c' = c then some (fs, ds) else none) = _
    rw [if_pos (of_decide_eq_true h)]
  | ref i =>
    unfold tyOk at h
    dsimp only at h
    cases hc : S[i]? with
    | none => rw [hc] at h; cases h
    | some cell =>
      rw [hc] at h
      cases cell with
      | lst ds =>
        obtain ⟨q, vs, e1, e2, _⟩ := lst_at s r (ds := ds) (by show (match S[i]? with | some (.lst ds) => some ds | _ => none) = _; rw [hc])
        subst e1
        refine Or.inr ⟨?_, "list", .base (.lst e2), by unfold mroB; kernel_rfl⟩
        show (match S[i]? with | some (.ins c' fs ds) => if c' = c then some (fs, ds) else none | _ => none : Option (List Str × List D)).isSome = false
        rw [hc]
        rfl
      | ins c' fs ds =>
        refine obj (fs, ds) ?_
        show (match S[i]? with | some (.ins c' fs ds) => if c' = c then some (fs, ds) else none | _ => none) = _
        rw [hc]
        exact if_pos (of_decide_eq_true h)
      | _ => cases h
  | _ => cases h
theorem se_isC2 {p q : Pos} (kc : Klass X.K ct c C) (o : OwnC X.K C) (ic : C8.InsC X.K C) (hg : Gl X "isinstance") (hm : X.mg "isinstance" = none) (he : SE ct X e fe) (hg2 : Gl X x) (hm2 : X.mg x = some (.ref C)) (hd2 : (x == ("__debug__" : Str)) = false := by decide)
    (hs : starEach [e, .Name x q] X.env = (false, eval e X.env) :: starEach [.Name x q] X.env := by rfl) (hs2 : starEach [.Name x q] X.env = (false, eval (.Name x q) X.env) :: starEach [] X.env := by rfl)
    (hpl : (backTo pos (starEach [.Name x q] X.env)).any (·.1) = false := by rfl) : SE ct X (.Call (.Name "isinstance" p) [e, .Name x q] [] pos) (fIsC2 c fe) := by
  obtain ⟨ta, pa, ra⟩ := he
  refine ⟨_, pe_callB (id := "isinstance") (call_isC2 o ic) hg hm (by decide +kernel) (pa_cons pa (pa_cons (pe_glob (v := .ref C) hg2 hm2 rfl hd2) pa_nil hs2) hs) (by decide) (by decide) hs hpl, fun m F S σ H env d S' Q s en h p => ?_⟩
  obtain ⟨⟨z, S1⟩, h1, h⟩ := bind_some h
  by_cases ht : tyOk c z S1 = true
  case neg => rw [if_neg ht] at h; cases h
  rw [if_pos ht] at h
  injection h with h
  injection h with h4 h5
  subst h4 h5
  refine ra m F S σ H env z _ _ s en h1 fun m1 F1 v1 H1 x1 s1 r1 => ?_
  have p1 := p.ext x1
  rcases ty_or kc s1 r1 ht with ⟨hi, hv⟩ | ⟨hi, T, tx, hm⟩
  · rw [hi] at p1
    exact ⟨v1, rfl, Or.inl ⟨hv, p1.now s1 rfl⟩⟩
  · rw [hi] at p1
    exact ⟨v1, rfl, Or.inr ⟨T, tx, hm, p1.now s1 rfl⟩⟩
end
def CalleeO (P : Program) (w : World) (K : PySem.W.Frag) (mg : Str → Option Value) (base : Heap) (ct : CT) (k : Nat) (C : Addr) (x : Str) (n : Nat) (g : FD) : Prop := ∃ j, j + 3 ≤ k ∧ CalleeM P w K mg base ct j C x n g
section
variable {P : Program} {w : World} {K : PySem.W.Frag} {mg : Str → Option Value} {base : Heap} {ct : CT} {C : Addr} {x c : Str} {j k n : Nat} {g : FD}
theorem CalleeO.mono (M : CalleeO P w K mg base ct j C x n g) (h : j ≤ k) : CalleeO P w K mg base ct k C x n g := by
  obtain ⟨i, h1, h2⟩ := M
  exact ⟨i, by omega, h2⟩
theorem CalleeM.own (M : CalleeM P w K mg base ct k C x n g) : CalleeO P w K mg base ct (k + 3) C x n g := ⟨k, Nat.le_refl _, M⟩
end
end DL
namespace DL
open PySem PySem.Spec PyProof.Rows L2
def spC (K : PySem.W.Frag) (ct : CT) (C : Addr) (n : Nat) (g : FD) : Sp := fun vs H Q E => ∃ ws, vs = .ref C :: ws ∧ spD K ct n g ws H Q E
def CalleeC (P : Program) (w : World) (K : PySem.W.Frag) (mg : Str → Option Value) (base : Heap) (ct : CT) (k : Nat) (C : Addr) (x : Str) (n : Nat) (g : FD) (kwb : KWB := []) : Prop :=
  ∃ (mc : Value) (p f : Addr) (fd : FuncData) (ps : List Str), ClX.CRead K C mc ∧ ClX.CMet K C mc x p f ∧ (Binds K fd ps [] ∧ KwOk K fd ps 1 kwb) ∧ FnG P w K mg base k f fd ps (spC K ct C n g)
def ClsAt (K : PySem.W.Frag) (C : Addr) (x qual : Str) (st : Stmt) (ps : List Str) (kwb : KWB := []) : Prop :=
  ∃ (mc : Value) (p f : Addr) (fd : FuncData), Fun K x qual st f fd ∧ (ClX.CRead K C mc ∧ ClX.CMet K C mc x p f) ∧ Binds K fd ps [] ∧ KwOk K fd ps 1 kwb
def MakerK (P : Program) (w : World) (K : PySem.W.Frag) (mg : Str → Option Value) (base : Heap) (ct : CT) (k : Nat) (x : Str) (n : Nat) (g : FD) (kwb : KWB) : Prop :=
  ∃ j, j + 1 ≤ k ∧ ∃ (C f : Addr) (fd : FuncData) (ps : List Str), mg x = some (.ref C) ∧ ct x = some C ∧ Mk K C f ∧ KwOk K fd ps 1 kwb ∧ FnG P w K mg base j f fd ps (spD K ct n g)
def MakerFK (P : Program) (w : World) (K : PySem.W.Frag) (mg : Str → Option Value) (base : Heap) (ct : CT) (k : Nat) (x : Str) (fs : List Str) (n : Nat) (g' : List D → Option (List D)) (kwb : KWB) : Prop :=
  ∃ g, MakerK P w K mg base ct k x n g kwb ∧ MkSpec x fs g g'
section
variable {P : Program} {w : World} {K : PySem.W.Frag} {mg : Str → Option Value} {base : Heap} {ct : CT} {C : Addr}
theorem CalleeC.mono {j k n : Nat} {x : Str} {g : FD} {kwb : KWB} (c : CalleeC P w K mg base ct j C x n g kwb) (h : j ≤ k) : CalleeC P w K mg base ct k C x n g kwb := by
  obtain ⟨mc, p, f, fd, ps, h1, h2, h3, h4⟩ := c
  exact ⟨mc, p, f, fd, ps, h1, h2, h3, h4.mono h⟩
theorem MakerFK.mono {j k n : Nat} {x : Str} {fs : List Str} {g : List D → Option (List D)} {kwb : KWB} (c : MakerFK P w K mg base ct j x fs n g kwb) (h : j ≤ k) : MakerFK P w K mg base ct k x fs n g kwb := by
  obtain ⟨g0, ⟨i, h1, h2⟩, h3⟩ := c
  exact ⟨g0, ⟨i, by omega, h2⟩, h3⟩
end
end DL
namespace DL
open PySem PySem.Spec PyProof.Rows L2
end DL
namespace DL
open PySem PySem.Spec PyProof.Rows L2
end DL
namespace DL
open PySem PySem.Spec PyProof.Rows L2
end DL
namespace DL
open PySem PySem.Spec PyProof.Rows L2
def CalleeCX (P : Program) (w : World) (K : PySem.W.Frag) (mg : Str → Option Value) (base : Heap) (ct : CT) (k : Nat) (c : Str) (C : Addr) (x : Str) (n : Nat) (g : XD) (kwb : KWB := []) : Prop :=
  ct c = some C ∧ ∃ (mc : Value) (p f : Addr) (fd : FuncData) (ps : List Str), ClX.CRead K C mc ∧ ClX.CMet K C mc x p f ∧ (Binds K fd ps [] ∧ KwOk K fd ps 1 kwb) ∧ FnX P w K mg base k f fd ps (spX K ct n g)
section
variable {P : Program} {w : World} {K : PySem.W.Frag} {mg : Str → Option Value} {base : Heap} {ct : CT} {C : Addr}
theorem CalleeCX.mono {c : Str} {j k n : Nat} {x : Str} {g : XD} {kwb : KWB} (h0 : CalleeCX P w K mg base ct j c C x n g kwb) (h : j ≤ k) : CalleeCX P w K mg base ct k c C x n g kwb := by
  obtain ⟨hc, mc, p, f, fd, ps, h1, h2, h3, h4⟩ := h0
  exact ⟨hc, mc, p, f, fd, ps, h1, h2, h3, h4.mono h⟩
end
end DL
namespace DL
open PySem PySem.Spec PyProof.Rows L2
def IniterX (P : Program) (w : World) (K : PySem.W.Frag) (mg : Str → Option Value) (base : Heap) (ct : CT) (k : Nat) (x : Str) (dvs : List V) (n : Nat) (g : XD) (kwb : KWB := []) : Prop :=
  ∃ (C f : Addr) (fd : FuncData) (ps : List Str), mg x = some (.ref C) ∧ ct x = some C ∧ Mk K C f ∧ ((∀ j, j ≤ dvs.length → ∃ ds, Vals (dvs.drop j) ds ∧ Binds K fd ps ds) ∧ KwOk K fd ps 1 kwb) ∧ FnX P w K mg base k f fd ps (spX K ct n g)
/-- with room for the machine's own step -/
def MakerX (P : Program) (w : World) (K : PySem.W.Frag) (mg : Str → Option Value) (base : Heap) (ct : CT) (k : Nat) (x : Str) (dvs : List V) (n : Nat) (g : XD) (kwb : KWB := []) : Prop := ∃ j, j + 1 ≤ k ∧ IniterX P w K mg base ct j x dvs n g kwb
section
variable {P : Program} {w : World} {K : PySem.W.Frag} {mg : Str → Option Value} {base : Heap} {ct : CT} {C : Addr}
theorem MakerX.mono {j k n : Nat} {x : Str} {dvs : List V} {g : XD} {kwb : KWB} (c : MakerX P w K mg base ct j x dvs n g kwb) (h : j ≤ k) : MakerX P w K mg base ct k x dvs n g kwb := by
  obtain ⟨i, h1, h2⟩ := c
  exact ⟨i, by omega, h2⟩
end
end DL
namespace DL
open PySem PySem.Spec PyProof.Rows L2
end DL
namespace DL
open PySem PySem.Spec PyProof.Rows L2
open CwR
open Tk
end DL
namespace DL
open PySem PySem.Spec PyProof.Rows L2
open Tk
end DL
namespace DL
open PySem PySem.Spec L2 Builtin Builtin.ObjectAttr PySem.HandSPX
end DL
namespace DL
open PySem PySem.Spec PyProof.Rows L2
def ErrMk (P : Program) (w : World) (K : PySem.W.Frag) (mg : Str → Option Value) (base : Heap) (ct : CT) (k : Nat) (c : Str) (fs : List Str) (kwb : KWB) : Prop :=
  ∃ (j : Nat) (C fI : Addr) (fd : FuncData) (ps : List Str), j + 1 ≤ k ∧ mg c = some (.ref C) ∧ ct c = some C ∧ OexB K C ∧ PySem.W.findIn K (.ref C) "__init__" = some (some (.ref fI)) ∧ PySem.W.typeIn K (.ref fI) = some (.type "function") ∧ Binds K fd ps [] ∧ (∀ q ∈ kwb, KBn K fd ps 1 q.1 (kwG q.2) (kwG q.2)) ∧
    ((∃ f, fs = [f] ∧ PySem.W.findIn K (.ref C) f = some none ∧ FnG P w K mg base j fI fd ps (spI1 K f)) ∨ ∃ f g, fs = [g, f] ∧ PySem.W.findIn K (.ref C) f = some none ∧ PySem.W.findIn K (.ref C) g = some none ∧ FnG P w K mg base j fI fd ps (spI2 K f g))
theorem ErrMk.mono {P : Program} {w : World} {K : PySem.W.Frag} {mg : Str → Option Value} {base : Heap} {ct : CT} {i k : Nat} {c : Str} {fs : List Str} {kwb : KWB} (r : ErrMk P w K mg base ct i c fs kwb) (h : i ≤ k) : ErrMk P w K mg base ct k c fs kwb := by
  obtain ⟨j, C, fI, fd, ps, h0, r⟩ := r
  exact ⟨j, C, fI, fd, ps, Nat.le_trans h0 h, r⟩
end DL
namespace DL
open PySem PySem.Spec PyProof.Rows L2
mutual
/-- v reads as d, and no dict in it is the table of modules -/
inductive RdM (h : Heap) : Value → PyData → Prop
  | non : RdM h .none .none
  | bl (b : Bool) : RdM h (.bool b) (.bool b)
  | int (i : Int) (t : Tok) : RdM h (.int i t) (.int i)
  | str (x : Str) (t : Tok) : RdM h (.str x t) (.str x)
  | lst {a : Addr} {o : Obj} {l : List Value} {n : Nat} {xs : List PyData} (e1 : h.get? a = some o) (e2 : o.cls = .type "list") (e3 : o.data = .seq l.toArray n) (r : RdMs h l xs) : RdM h (.ref a) (.list xs)
  | tup {a : Addr} {o : Obj} {l : List Value} {n : Nat} {xs : List PyData} (e1 : h.get? a = some o) (e2 : o.cls = .type "tuple") (e3 : o.data = .seq l.toArray n) (r : RdMs h l xs) : RdM h (.ref a) (.tuple xs)
  | dct {a : Addr} {o : Obj} {es : Array DictEntry} {n : Nat} {ds : List (PyData × PyData)} (e1 : h.get? a = some o) (e2 : o.cls = .type "dict") (e3 : o.data = .dict es n) (e4 : (a == sysModules) = false)
      (r1 : RdMs h (es.toList.map fun z => z.key) (ds.map fun z => z.1)) (r2 : RdMs h (es.toList.map fun z => z.val) (ds.map fun z => z.2)) : RdM h (.ref a) (.dict ds)
inductive RdMs (h : Heap) : List Value → List PyData → Prop
  | nil : RdMs h [] []
  | cons {v : Value} {l : List Value} {d : PyData} {ds : List PyData} (r : RdM h v d) (rs : RdMs h l ds) : RdMs h (v :: l) (d :: ds)
end
mutual
theorem RdM.reads {h : Heap} : ∀ {v : Value} {d : PyData}, RdM h v d → ∃ as, Reads h v d as
  | _, _, .non => ⟨_, .none⟩
  | _, _, .bl b => ⟨_, .bool b⟩
  | _, _, .int i t => ⟨_, .int i t⟩
  | _, _, .str x t => ⟨_, .str x t⟩
  | _, _, .lst e1 e2 e3 r => by
    obtain ⟨as, q⟩ := r.reads
    exact ⟨_, .list e1 e2 e3 q⟩
  | _, _, .tup e1 e2 e3 r => by
    obtain ⟨as, q⟩ := r.reads
    exact ⟨_, .tuple e1 e2 e3 q⟩
  | _, _, .dct e1 e2 e3 e4 r1 r2 => by
    obtain ⟨as, q⟩ := r1.reads
    obtain ⟨bs, q2⟩ := r2.reads
    exact ⟨_, .dict e1 e2 e3 q q2⟩
theorem RdMs.reads {h : Heap} : ∀ {l : List Value} {ds : List PyData}, RdMs h l ds → ∃ as, ReadsAll h l ds as
  | _, _, .nil => ⟨_, .nil⟩
  | _, _, .cons r rs => by
    obtain ⟨as, q⟩ := r.reads
    obtain ⟨bs, q2⟩ := rs.reads
    exact ⟨_, .cons q q2⟩
end
end DL
namespace DL
open PySem PySem.Spec PyProof.Rows L2
end DL
namespace DL
open PySem PySem.Spec PyProof.Rows L2 Builtin Builtin.List
end DL
namespace DL
open PySem PySem.Spec PyProof.Rows L2
structure RoomN (k : Nat) (A : Around) : Prop where
  dp : A.depth + 3 * k + 5 < recursionLimit
  un : A.units + 16 * k + 200 < cLine
theorem RoomN.mono {j k : Nat} {A : Around} (r : RoomN k A) (h : j ≤ k) : RoomN j A := ⟨by have := r.dp; omega, by have := r.un; omega⟩
theorem RoomN.deeper {k : Nat} {A : Around} (r : RoomN (k + 1) A) (env : Env) : RoomN k (A.deeper env) := ⟨by have := r.dp; show A.depth + 1 + 3 * k + 5 < _; omega, by have := r.un; show A.units + 3 + 16 * k + 200 < _; omega⟩
theorem RoomN.in1 {k : Nat} {A : Around} (r : RoomN (k + 1) A) : RoomN k A.in1 := ⟨by have := r.dp; show A.depth + 3 * k + 5 < _; omega, by have := r.un; show A.units + 1 + 16 * k + 200 < _; omega⟩
theorem RoomQ.n {k : Nat} {A : Around} (r : RoomQ k A) : RoomN k A := ⟨r.dp, r.un⟩
structure FnN (P : Program) (w : World) (K : PySem.W.Frag) (mg : Str → Option Value) (base : Heap) (k : Nat) (f : Addr) (fd : FuncData) (ps : List Str) (sp : Sp) : Prop where
  len : ∀ vs H Q E, sp vs H Q E → vs.length = ps.length
  run : ∀ (A : Around) (outer : List Env) (s : Shared) (H : Hp) (args : Args) (us : List Value) (vs : List V) (Q : VK) (E : XK), RoomN k A → HotP A H → Env0 P w K mg base A outer s H →
    BindsTo s fd args (ps.zip us) → Vals vs us → sp vs H Q E → codeAny (model P w) A (.call (.ref f) args) (CR CX0 outer P w H s Q E) s
section
variable {P : Program} {w : World} {K : PySem.W.Frag} {mg : Str → Option Value} {base : Heap} {ct : CT}
theorem FnN.mono {f : Addr} {fd : FuncData} {ps : List Str} {sp : Sp} {j k : Nat} (F : FnN P w K mg base j f fd ps sp) (h : j ≤ k) : FnN P w K mg base k f fd ps sp := ⟨F.len, fun A o s H ar us vs Q E r => F.run A o s H ar us vs Q E (r.mono h)⟩
def CalleeMN (P : Program) (w : World) (K : PySem.W.Frag) (mg : Str → Option Value) (base : Heap) (ct : CT) (k : Nat) (C : Addr) (x : Str) (n : Nat) (g : FD) : Prop :=
  ∃ (f : Addr) (fd : FuncData) (ps : List Str), Meth K C x f ∧ Binds K fd ps [] ∧ FnN P w K mg base k f fd ps (spD K ct n g)
theorem CalleeMN.mono {j k n : Nat} {C : Addr} {x : Str} {g : FD} (c : CalleeMN P w K mg base ct j C x n g) (h : j ≤ k) : CalleeMN P w K mg base ct k C x n g := by
  obtain ⟨f, fd, ps, h1, h3, h4⟩ := c
  exact ⟨f, fd, ps, h1, h3, h4.mono h⟩
end
def CalleeON (P : Program) (w : World) (K : PySem.W.Frag) (mg : Str → Option Value) (base : Heap) (ct : CT) (k : Nat) (C : Addr) (x : Str) (n : Nat) (g : FD) : Prop := ∃ j, j + 3 ≤ k ∧ CalleeMN P w K mg base ct j C x n g
section
variable {ct : CT} {X : Cx} {C : Addr} {c : Str} {g : FD} {n k : Nat} {e : Expr} {fe : FE} {pos : Pos}
theorem CalleeON.mono {P : Program} {w : World} {K : PySem.W.Frag} {mg : Str → Option Value} {base : Heap} {j : Nat} {x : Str} (r : CalleeON P w K mg base ct j C x n g) (h : j ≤ k) : CalleeON P w K mg base ct k C x n g := by
  obtain ⟨i, h1, h2⟩ := r
  exact ⟨i, Nat.le_trans h1 h, h2⟩
theorem CalleeMN.own {P : Program} {w : World} {K : PySem.W.Frag} {mg : Str → Option Value} {base : Heap} {j : Nat} {x : Str} (r : CalleeMN P w K mg base ct j C x n g) : CalleeON P w K mg base ct (j + 3) C x n g := ⟨j, Nat.le_refl _, r⟩
end
end DL
namespace DL
open PySem PySem.Spec PyProof.Rows L2
end DL
namespace DL
open PySem PySem.Spec PyProof.Rows L2
end DL
namespace DL
open PySem PySem.Spec PyProof.Rows L2
section
variable {P : Program} {w : World} {A : Around} {E : Value → Shared → Prop} {s : Shared}
abbrev setNew (w : World) : Obj := { cls := .type "set", dict := none, data := .set #[] 0 (.fresh 0 0 (!w.params.followText "set-order")) }
end
end DL
namespace DL
open PySem PySem.Spec PyProof.Rows L2
abbrev Pr := Int × Int
def ltP (a b : Pr) : Prop := a.1 < b.1 ∨ (a.1 = b.1 ∧ a.2 < b.2)
def ddp : List Pr → List Pr
  | [] => []
  | a :: l => if a ∈ l then ddp l else a :: ddp l
theorem mem_ddp {x : Pr} : ∀ {l : List Pr}, x ∈ ddp l ↔ x ∈ l
  | [] => Iff.rfl
  | a :: l => by
    unfold ddp
    split
    · rename_i h
      rw [mem_ddp (l := l), List.mem_cons]
      exact ⟨.inr, fun q => q.elim (fun e => e ▸ h) id⟩
    · rw [List.mem_cons, List.mem_cons, mem_ddp (l := l)]
theorem nodup_ddp : ∀ l : List Pr, (ddp l).Nodup
  | [] => List.nodup_nil
  | a :: l => by
    unfold ddp
    split
    · exact nodup_ddp l
    · rename_i h
      exact List.nodup_cons.mpr ⟨fun q => h (mem_ddp.mp q), nodup_ddp l⟩
theorem leP_iff {a b : Pr} : leP a b = true ↔ ltP a b ∨ a = b := by
  unfold leP ltP
  rw [decide_eq_true_eq, Prod.ext_iff]
  omega
theorem strict_of {l : List Pr} (h : l.Pairwise fun a b => leP a b = true) (n : l.Nodup) : l.Pairwise ltP := by
  induction l with
  | nil => exact .nil
  | cons a l ih =>
    obtain ⟨h1, h2⟩ := List.pairwise_cons.mp h
    obtain ⟨n1, n2⟩ := List.nodup_cons.mp n
    refine List.pairwise_cons.mpr ⟨fun b hb => ?_, ih h2 n2⟩
    rcases leP_iff.mp (h1 b hb) with q | q
    · exact q
    · exact absurd (q ▸ hb) n1
theorem strict_uniq : ∀ {l k : List Pr}, l.Pairwise ltP → k.Pairwise ltP → (∀ x, x ∈ l ↔ x ∈ k) → l = k
  | [], [], _, _, _ => rfl
  | [], b :: k, _, _, h => absurd ((h b).mpr (List.mem_cons_self ..)) (List.not_mem_nil)
  | a :: l, [], _, _, h => absurd ((h a).mp (List.mem_cons_self ..)) (List.not_mem_nil)
  | a :: l, b :: k, h1, h2, h => by
    obtain ⟨p1, p2⟩ := List.pairwise_cons.mp h1
    obtain ⟨q1, q2⟩ := List.pairwise_cons.mp h2
    have e : a = b := by
      rcases List.mem_cons.mp ((h a).mp (List.mem_cons_self ..)) with e | e
      · exact e
      · rcases List.mem_cons.mp ((h b).mpr (List.mem_cons_self ..)) with f | f
        · exact f.symm
        · have x1 := q1 a e
          have x2 := p1 b f
          unfold ltP at x1 x2
          omega
    subst e
    have ir : ∀ x, x ∈ l → x ≠ a := fun x hx e => by
      have := p1 x hx
      rw [e] at this
      unfold ltP at this
      omega
    have ir2 : ∀ x, x ∈ k → x ≠ a := fun x hx e => by
      have := q1 x hx
      rw [e] at this
      unfold ltP at this
      omega
    rw [strict_uniq p2 q2 fun x => ⟨fun hx => ?_, fun hx => ?_⟩]
    · rcases List.mem_cons.mp ((h x).mp (List.mem_cons_of_mem _ hx)) with e | e
      · exact absurd e (ir x hx)
      · exact e
    · rcases List.mem_cons.mp ((h x).mpr (List.mem_cons_of_mem _ hx)) with e | e
      · exact absurd e (ir2 x hx)
      · exact e
theorem total_leP : PySem.W.TotalLe leP := ⟨fun a b c h1 h2 => by
    rw [leP_iff] at *
    unfold ltP at *
    rw [Prod.ext_iff] at *
    omega, fun a b => by
    rw [leP_iff, leP_iff]
    unfold ltP
    rw [Prod.ext_iff, Prod.ext_iff]
    omega⟩
/-- the pairs of ps, each once, ascending -/
def setP (ps : List Pr) : List Pr := isort leP (ddp ps)
theorem setP_strict (ps : List Pr) : (setP ps).Pairwise ltP := strict_of (isort_sorted total_leP _) ((isort_perm leP (ddp ps)).nodup_iff.mpr (nodup_ddp ps))
theorem mem_setP {x : Pr} {ps : List Pr} : x ∈ setP ps ↔ x ∈ ps := ((isort_perm leP (ddp ps)).mem_iff).trans mem_ddp
abbrev t2I (p : Pr) : List Int := [p.1, p.2]
def inB (p : Pr) : Bool := decide (0 ≤ p.1 ∧ p.1 < 64 ∧ 0 ≤ p.2 ∧ p.2 < 64)
theorem code_le {a b : Pr} (ha : inB a = true) (hb : inB b = true) (h : TS.code 64 (t2I a) ≤ TS.code 64 (t2I b)) : leP a b = true := by
  have ha := of_decide_eq_true ha
  have hb := of_decide_eq_true hb
  rw [leP_iff]
  by_cases e : a = b
  · exact .inr e
  · refine .inl ?_
    have := pair_lt (x := a.1) (y := a.2) (x' := b.1) (y' := b.2) h (fun z => e (by injection z with z1 z2; injection z2 with z2 _; exact Prod.ext z1 z2)) ⟨ha.1, ha.2.1⟩ ⟨ha.2.2.1, ha.2.2.2⟩ ⟨hb.1, hb.2.1⟩ ⟨hb.2.2.1, hb.2.2.2⟩
    exact this
theorem set_list {ps : List Pr} {ks L L' : List (Addr × List Int)} (hb : ps.all inB = true) (hk : ks.map (fun q => q.2) = ps.map t2I) (h1 : ∀ p ∈ L, p ∈ ks) (h2 : ∀ p ∈ ks, p.2 ∈ L.map fun q => q.2) (pm : L'.Perm L) (nd : (L'.map fun q => q.2).Nodup) (pw : L'.Pairwise fun q r => TS.code 64 q.2 ≤ TS.code 64 r.2) :
    L'.map (fun q => q.2) = (setP ps).map t2I := by
  have ex : ∀ q ∈ L', ∃ p ∈ ps, q.2 = t2I p := fun q hq => by
    have : q.2 ∈ ps.map t2I := by
      rw [← hk]
      exact List.mem_map_of_mem (h1 q (pm.mem_iff.mp hq))
    obtain ⟨p, hp, e⟩ := List.mem_map.mp this
    exact ⟨p, hp, e.symm⟩
  obtain ⟨qs, e⟩ : ∃ qs : List Pr, L'.map (fun q => q.2) = qs.map t2I := by
    clear pm nd pw h2
    induction L' with
    | nil => exact ⟨[], rfl⟩
    | cons q l ih =>
      obtain ⟨p, _, e⟩ := ex q (List.mem_cons_self ..)
      obtain ⟨qs, e2⟩ := ih fun r hr => ex r (List.mem_cons_of_mem _ hr)
      exact ⟨p :: qs, by rw [List.map_cons, List.map_cons, e, e2]⟩
  rw [e]
  congr 1
  have inj : ∀ {a b : Pr}, t2I a = t2I b → a = b := fun {a b} z => by
    injection z with z1 z2
    injection z2 with z2 _
    exact Prod.ext z1 z2
  have mem1 : ∀ x, x ∈ qs ↔ x ∈ ps := fun x => by
    constructor
    · intro hx
      have : t2I x ∈ L'.map fun q => q.2 := by rw [e]; exact List.mem_map_of_mem hx
      obtain ⟨q, hq, eq_⟩ := List.mem_map.mp this
      obtain ⟨p, hp, ep⟩ := ex q hq
      rw [inj (eq_.symm.trans ep)]
      exact hp
    · intro hx
      have : t2I x ∈ ks.map fun q => q.2 := by rw [hk]; exact List.mem_map_of_mem hx
      obtain ⟨q, hq, eq_⟩ := List.mem_map.mp this
      have q2 := h2 q hq
      obtain ⟨r, hr, er⟩ := List.mem_map.mp q2
      have : t2I x ∈ L'.map fun q => q.2 := List.mem_map.mpr ⟨r, pm.mem_iff.mpr hr, er.trans eq_⟩
      rw [e] at this
      obtain ⟨y, hy, ey⟩ := List.mem_map.mp this
      rw [← inj ey]
      exact hy
  refine strict_uniq (strict_of ?_ ?_) (setP_strict ps) fun x => (mem1 x).trans mem_setP.symm
  · have pw2 : (L'.map fun q => q.2).Pairwise fun q r => TS.code 64 q ≤ TS.code 64 r := List.pairwise_map.mpr pw
    rw [e] at pw2
    have pw3 := List.pairwise_map.mp pw2
    have all_ : ∀ x ∈ qs, inB x = true := fun x hx => List.all_eq_true.mp hb x ((mem1 x).mp hx)
    clear e mem1 pw2
    induction qs with
    | nil => exact .nil
    | cons a l ih =>
      obtain ⟨c1, c2⟩ := List.pairwise_cons.mp pw3
      exact List.pairwise_cons.mpr ⟨fun b hb => code_le (all_ a (List.mem_cons_self ..)) (all_ b (List.mem_cons_of_mem _ hb)) (c1 b hb), ih c2 fun x hx => all_ x (List.mem_cons_of_mem _ hx)⟩
  · rw [e] at nd
    exact nodup_of_map nd
end DL
namespace DL
open PySem PySem.Spec PyProof.Rows L2
mutual
def toNK : D → Option NestedKey
  | .int i => some (.num i)
  | .tup ds => (toNKs ds).map NestedKey.tup
  | _ => none
def toNKs : List D → Option (List NestedKey)
  | [] => some []
  | d :: ds => (toNK d).bind fun k => (toNKs ds).map fun ks => k :: ks
end
mutual
def nkD : NestedKey → D
  | .num i => .int i
  | .tup ks => .tup (nkDs ks)
  | _ => .non
def nkDs : List NestedKey → List D
  | [] => []
  | k :: ks => nkD k :: nkDs ks
end
section
variable {K : PySem.W.Frag} {ct : CT} {m : List Addr} {F : Hp}
mutual
theorem toNK_int : ∀ (d : D) (k : NestedKey), toNK d = some k → DN.intKey k = true
  | .int i, k, h => by
    have h : some (NestedKey.num i) = some k := h
    cases h; rfl
  | .tup ds, k, h => by
    obtain ⟨ks, h1, rfl⟩ := map_some (show (toNKs ds).map NestedKey.tup = some k from h)
    exact toNKs_int ds ks h1
  | .non, k, h => nomatch h
  | .bl _, k, h => nomatch h
  | .str _, k, h => nomatch h
  | .lst _, k, h => nomatch h
  | .dct _ _, k, h => nomatch h
  | .scr _, k, h => nomatch h
  | .ref _, k, h => nomatch h
  | .obj _ _ _, k, h => nomatch h
  | .exc _ _ _, k, h => nomatch h
  | .typ _, k, h => nomatch h
theorem toNKs_int : ∀ (ds : List D) (ks : List NestedKey), toNKs ds = some ks → DN.intKeys ks = true
  | [], ks, h => by
    have h : some [] = some ks := h
    cases h; rfl
  | d :: ds, ks, h => by
    obtain ⟨k, h1, h⟩ := bind_some (show (toNK d).bind _ = some ks from h)
    obtain ⟨r, h2, rfl⟩ := map_some h
    show (DN.intKey k && DN.intKeys r) = true
    rw [toNK_int d k h1, toNKs_int ds r h2]
    rfl
end
mutual
theorem Rep.nk : ∀ (d : D) (k : NestedKey) (v : V), Rep K ct m F d v → toNK d = some k → DN.VKey K F k v
  | .int i, k, v, r, h => by
    have h : some (NestedKey.num i) = some k := h
    cases h
    rw [show v = .int i from r]
    exact .num i
  | .tup ds, k, v, r, h => by
    obtain ⟨ks, h1, rfl⟩ := map_some (show (toNKs ds).map NestedKey.tup = some k from h)
    obtain ⟨a, vs, e1, e2, e3⟩ := r
    rw [e1]
    exact .tup e2 (Reps.nk ds ks vs e3 h1)
  | .non, _, _, _, h => nomatch h
  | .bl _, _, _, _, h => nomatch h
  | .str _, _, _, _, h => nomatch h
  | .lst _, _, _, _, h => nomatch h
  | .dct _ _, _, _, _, h => nomatch h
  | .scr _, _, _, _, h => nomatch h
  | .ref _, _, _, _, h => nomatch h
  | .obj _ _ _, _, _, _, h => nomatch h
  | .exc _ _ _, _, _, _, h => nomatch h
  | .typ _, _, _, _, h => nomatch h
theorem Reps.nk : ∀ (ds : List D) (ks : List NestedKey) (vs : List V), Reps K ct m F ds vs → toNKs ds = some ks → DN.VKeys K F ks vs
  | [], ks, vs, r, h => by
    have h : some [] = some ks := h
    cases h
    rw [show vs = [] from r]
    exact .nil
  | d :: ds, ks, vs, r, h => by
    obtain ⟨k, h1, h⟩ := bind_some (show (toNK d).bind _ = some ks from h)
    obtain ⟨q, h2, rfl⟩ := map_some h
    obtain ⟨v, r', e1, e2, e3⟩ := r
    rw [e1]
    exact .cons (Rep.nk d k v e2 h1) (Reps.nk ds q r' e3 h2)
end
mutual
theorem VKey.rep : ∀ (k : NestedKey) (v : V), DN.VKey K F k v → Rep K ct m F (nkD k) v
  | _, _, .num i => rfl
  | _, _, .tup (ks := ks) (vs := vs) h r => ⟨_, vs, rfl, h, VKeys.rep ks vs r⟩
theorem VKeys.rep : ∀ (ks : List NestedKey) (vs : List V), DN.VKeys K F ks vs → Reps K ct m F (nkDs ks) vs
  | _, _, .nil => rfl
  | _, _, .cons (k := k) (v := v) (ks := ks) (vs := vs) h r => ⟨v, vs, rfl, VKey.rep k v h, VKeys.rep ks vs r⟩
end
def valNK (kvs : List (NestedKey × D)) (k : NestedKey) : Option D := (kvs.find? fun kv => decide (kv.1 = k)).map (·.2)
def putNK (kvs : List (NestedKey × D)) (k : NestedKey) (v : D) : List (NestedKey × D) :=
  if (kvs.any fun kv => decide (kv.1 = k)) = true then kvs.map fun kv => if kv.1 = k then (kv.1, v) else kv else kvs ++ [(k, v)]
theorem KeyOk.mono {F' : Hp} {k : NestedKey} {a : Addr} (h : DN.KeyOk K F k a) (e : Same F F') : DN.KeyOk K F' k a := ⟨h.1, h.2.1, DN.VKey.mono e _ _ h.2.2⟩
end
end DL
namespace DL
open PySem PySem.Spec
open PyProof.Rows L2
theorem same_len {α : Type} [DecidableEq α] {l m : List α} (h1 : l.Nodup) (h2 : m.Nodup) (h : ∀ x, x ∈ l ↔ x ∈ m) : l.length = m.length := ((List.perm_ext_iff_of_nodup h1 h2).mpr h).length_eq
end DL
namespace DL
open PySem PySem.Spec
open PyProof.Rows L2
open Tk
end DL
namespace SN
open PySem PySem.Spec PyProof.Rows L2
section
variable {P : Program} {w : World}
/-- v is no class statement, asked n levels down -/
def ClsAt (P : Program) (w : World) (n : Nat) (s : Shared) (v : Value) : Prop := ∀ (A : Around) (E : Value → Shared → Prop) (Q : Bool → Shared → Prop), Q false s → wpAny (model P w) A (ofAClassStatement n v) Q E s
/-- v's hash is told by its value, asked n levels down -/
def HbyAt (P : Program) (w : World) (n : Nat) (s : Shared) (v : Value) : Prop := ∀ (A : Around) (E : Value → Shared → Prop) (Q : Bool → Shared → Prop), Q true s → wpAny (model P w) A (hashByValue n v) Q E s
theorem ClsAt.flat {n : Nat} {s : Shared} {v : Value} (h : ofAClassStatement n v = pure false) : ClsAt P w n s v := fun A E Q q => by
  rw [h]
  exact wpAny_pure q
theorem HbyAt.flat {n : Nat} {s : Shared} {v : Value} (h : hashByValue n v = pure true) : HbyAt P w n s v := fun A E Q q => by
  rw [h]
  exact wpAny_pure q
theorem ClsAt.tup {n : Nat} {s : Shared} {a : Addr} {o : Obj} {vs : Array Value} {m : Nat} (g1 : s.heap.get? a = some o) (g2 : o.cls = .type "tuple") (g3 : o.data = .seq vs m) (g4 : ∀ v ∈ vs.toList, ClsAt P w n s v) : ClsAt P w (n + 1) s (.ref a) := fun A E Q q => by
  have ty : s.TypeIs (.ref a) "tuple" := ⟨o, g1, g2⟩
  unfold ofAClassStatement
  refine wpAny_bind (wpAny_typeOf ty ?_)
  dsimp only
  have te : (("tuple" : String) == "tuple") = true := by decide
  simp only [te, if_true, Bool.not_true, Bool.false_eq_true, if_false]
  try refine wpAny_bind (wpAny_pure ?_)
  try simp only [Bool.not_true, Bool.false_eq_true, if_false]
  refine wpAny_bind (m := seqItems? (.ref a)) (wpAny_seqItems g1 g3 ?_)
  dsimp only
  refine wpAny_bind (?_ : wpAny _ _ (forIn vs _ _) _ _ s)
  rw [← Array.forIn_toList]
  refine wpAny_forIn_list _ (fun rest r s' => (r.1 = none ∧ s' = s) ∧ ∀ v ∈ rest, ClsAt P w n s v) _ (fun v rest r s' hj => ?_) (fun r s' hj => ?_) _ _ ⟨⟨rfl, rfl⟩, g4⟩
  · obtain ⟨⟨hr, rfl⟩, hall⟩ := hj
    refine wpAny_bind (hall v List.mem_cons_self _ _ _ ?_)
    simp only [Bool.false_eq_true, if_false]
    exact wpAny_pure ⟨⟨rfl, rfl⟩, fun u hu => hall u (List.mem_cons_of_mem _ hu)⟩
  · obtain ⟨r1, r2⟩ := r
    obtain ⟨⟨hr, rfl⟩, _⟩ := hj
    simp only at hr
    subst hr
    exact wpAny_pure q
theorem HbyAt.tup {n : Nat} {s : Shared} {a : Addr} {o : Obj} {vs : Array Value} {m : Nat} (g1 : s.heap.get? a = some o) (g2 : o.cls = .type "tuple") (g3 : o.data = .seq vs m) (g4 : ∀ v ∈ vs.toList, HbyAt P w n s v) : HbyAt P w (n + 1) s (.ref a) := fun A E Q q => by
  have ty : s.TypeIs (.ref a) "tuple" := ⟨o, g1, g2⟩
  unfold hashByValue
  refine wpAny_bind (wpAny_specialOf ty F.slot_tuple_hash.lookup ?_)
  refine wpAny_bind (m := seqItems? (.ref a)) (wpAny_seqItems g1 g3 ?_)
  refine wpAny_bind (?_ : wpAny _ _ (forIn vs _ _) _ _ s)
  rw [← Array.forIn_toList]
  refine wpAny_forIn_list _ (fun rest r s' => (r.1 = none ∧ s' = s) ∧ ∀ v ∈ rest, HbyAt P w n s v) _ (fun v rest r s' hj => ?_) (fun r s' hj => ?_) _ _ ⟨⟨rfl, rfl⟩, g4⟩
  · obtain ⟨⟨hr, rfl⟩, hall⟩ := hj
    refine wpAny_bind (hall v List.mem_cons_self _ _ _ ?_)
    simp only [Bool.not_true, Bool.false_eq_true, if_false]
    exact wpAny_pure ⟨⟨rfl, rfl⟩, fun u hu => hall u (List.mem_cons_of_mem _ hu)⟩
  · obtain ⟨r1, r2⟩ := r
    obtain ⟨⟨hr, rfl⟩, _⟩ := hj
    simp only at hr
    subst hr
    exact wpAny_pure q
mutual
theorem cls_key : ∀ (k : NestedKey) (v : Value) (n : Nat) (s : Shared), NestedIs s.heap k v → k.depth ≤ n → ClsAt P w n s v
  | .none, _, n, s, x, _ => by cases x; exact .flat (by cases n <;> rfl)
  | .num i, _, n, s, x, _ => by cases x <;> exact .flat (by cases n <;> rfl)
  | .text y, _, n, s, x, _ => by cases x; exact .flat (by cases n <;> rfl)
  | .tup ks, _, n, s, x, hn => by
    cases x with
    | tup g1 g2 g3 g4 =>
      have hn : NestedKey.depthAll ks + 1 ≤ n := hn
      obtain ⟨m, rfl⟩ : ∃ m, n = m + 1 := ⟨n - 1, by omega⟩
      exact .tup g1 g2 g3 (cls_keys ks _ m s g4 (by omega))
theorem cls_keys : ∀ (ks : List NestedKey) (vs : List Value) (n : Nat) (s : Shared), NestedAll s.heap ks vs → NestedKey.depthAll ks ≤ n → ∀ v ∈ vs, ClsAt P w n s v
  | [], _, n, s, x, _, v, hv => by cases x; cases hv
  | k :: ks, _, n, s, x, hn, v, hv => by
    cases x with
    | cons x1 x2 =>
      have hn : max k.depth (NestedKey.depthAll ks) ≤ n := hn
      rcases List.mem_cons.mp hv with rfl | hv
      · exact cls_key k _ n s x1 (by omega)
      · exact cls_keys ks _ n s x2 (by omega) v hv
end
mutual
theorem hby_key : ∀ (k : NestedKey) (v : Value) (n : Nat) (s : Shared), DN.intKey k = true → NestedIs s.heap k v → k.depth ≤ n → HbyAt P w n s v
  | .none, _, n, s, hi, _, _ => nomatch hi
  | .num i, _, n, s, _, x, _ => by cases x <;> exact .flat (by cases n <;> rfl)
  | .text y, _, n, s, hi, _, _ => nomatch hi
  | .tup ks, _, n, s, hi, x, hn => by
    cases x with
    | tup g1 g2 g3 g4 =>
      have hn : NestedKey.depthAll ks + 1 ≤ n := hn
      obtain ⟨m, rfl⟩ : ∃ m, n = m + 1 := ⟨n - 1, by omega⟩
      exact .tup g1 g2 g3 (hby_keys ks _ m s hi g4 (by omega))
theorem hby_keys : ∀ (ks : List NestedKey) (vs : List Value) (n : Nat) (s : Shared), DN.intKeys ks = true → NestedAll s.heap ks vs → NestedKey.depthAll ks ≤ n → ∀ v ∈ vs, HbyAt P w n s v
  | [], _, n, s, _, x, _, v, hv => by cases x; cases hv
  | k :: ks, _, n, s, hi, x, hn, v, hv => by
    obtain ⟨h1, h2⟩ := Bool.and_eq_true_iff.mp (show (DN.intKey k && DN.intKeys ks) = true from hi)
    cases x with
    | cons x1 x2 =>
      have hn : max k.depth (NestedKey.depthAll ks) ≤ n := hn
      rcases List.mem_cons.mp hv with rfl | hv
      · exact hby_key k _ n s h1 x1 (by omega)
      · exact hby_keys ks _ n s h2 x2 (by omega) v hv
end
/-- the tuple at a is the key k -/
structure At (P : Program) (w : World) (h : Heap) (k : NestedKey) (a : Addr) : Prop where
  is : (nestedKind P w).is h k a
  ik : DN.intKey k = true
variable {A : Around} {E : Value → Shared → Prop} {s : Shared}
theorem At.keep {h h' : Heap} {k : NestedKey} {a : Addr} (x : At P w h k a) (hk : ∀ b o vs n, h.get? b = some o → o.data = .seq vs n → h'.get? b = some o) : At P w h' k a := ⟨⟨NestedIs.at hk _ _ x.is.1, x.is.2⟩, x.ik⟩
/-- a search among such keys shows nothing -/
theorem unseen {k : NestedKey} {b : Addr} {Q : Bool → Shared → Prop} (hk : At P w s.heap k b) {ys : List Value} (hy : ∀ y ∈ ys, ∃ k' c, y = Value.ref c ∧ At P w s.heap k' c) (q : Q false s) : wpAny (model P w) A (searchCouldBeSeen (.ref b) ys) Q E s := by
  unfold searchCouldBeSeen
  refine wpAny_bind (wpAny_forIn_list _ (fun rest r s' => (r.1 = none ∧ s' = s) ∧ ∀ y ∈ rest, ∃ k' c, y = Value.ref c ∧ At P w s.heap k' c) _ (fun v rest r s' hj => ?_) (fun r s' hj => ?_) _ _ ⟨⟨rfl, rfl⟩, hy⟩)
  · obtain ⟨⟨hr, rfl⟩, hall⟩ := hj
    obtain ⟨k', c, rfl, hc⟩ := hall v List.mem_cons_self
    have more : ∀ y ∈ rest, ∃ k' c, y = Value.ref c ∧ At P w s'.heap k' c := fun u hu => hall u (List.mem_cons_of_mem _ hu)
    dsimp only
    by_cases hv : (b == c || (carriedByValue (.ref b) && carriedByValue (.ref c))) = true
    · exact wp_if_pos hv (wpAny_pure ⟨⟨rfl, rfl⟩, more⟩)
    · refine wp_if_neg hv ?_
      refine wpAny_bind ((nestedKind P w).quiet hk.is ?_)
      simp only [Bool.not_true, Bool.false_eq_true, if_false]
      refine wpAny_bind ((nestedKind P w).quiet hc.is ?_)
      simp only [Bool.not_true, Bool.false_eq_true, if_false]
      refine wpAny_bind (cls_key k _ 8 s' hk.is.1 hk.is.2 _ _ _ ?_)
      simp only [Bool.false_eq_true, if_false]
      refine wpAny_bind (cls_key k' _ 8 s' hc.is.1 hc.is.2 _ _ _ ?_)
      simp only [Bool.false_eq_true, if_false]
      exact wpAny_pure ⟨⟨rfl, rfl⟩, more⟩
  · obtain ⟨r1, r2⟩ := r
    obtain ⟨⟨hr, rfl⟩, _⟩ := hj
    simp only at hr
    subst hr
    exact wpAny_pure q
abbrev El := Addr × NestedKey
def rows (w : World) (L : List El) : List (Int × Value) := L.map fun e => (e.2.hash w, Value.ref e.1)
abbrev hs (w : World) (L : List El) : List Int := L.map fun e => e.2.hash w
/-- at a stands the set of the keys of L, table and all -/
structure Tab (P : Program) (w : World) (h : Heap) (a : Addr) (L : List El) (es : Array (Int × Value)) (ep : Nat) (t : SetTable) : Prop where
  obj : ∃ o, h.get? a = some o ∧ o.ExactSet ∧ o.data = .set es ep t
  row : es.toList = rows w L
  ok : TabOk t (hs w L)
  once : (L.map (·.2)).Nodup
  at_ : ∀ e ∈ L, At P w h e.2 e.1
  pl : t.plain = true
  lay : w.params.followText "set-order" = true ∨ t.led = true
  space : L.length * 5 < t.mask * 3
  less : L.length < 64
variable {a : Addr} {L : List El} {es : Array (Int × Value)} {ep : Nat} {t : SetTable}
theorem rows_len (w : World) (L : List El) : (rows w L).length = L.length := List.length_map ..
theorem row_size (h : es.toList = rows w L) : es.size = L.length := by
  have q := congrArg List.length h
  rwa [Array.length_toList, rows_len] at q
theorem Tab.fit (Z : Tab P w s.heap a L es ep t) : t.fits es.size = true := by
  have q1 := Z.ok.sz
  rw [List.length_map] at q1
  have q2 := row_size Z.row
  have q3 := Z.space
  unfold SetTable.fits SetTable.fill
  rw [Z.ok.dm, Bool.and_eq_true, beq_iff_eq, decide_eq_true_eq]
  exact ⟨q1.trans q2.symm, by show t.place.size + 0 ≤ t.mask; omega⟩
theorem row_at (h : es.toList = rows w L) {i : Nat} {e : El} (he : L[i]? = some e) : es[i]? = some (e.2.hash w, Value.ref e.1) := by
  rw [← Array.getElem?_toList, h, rows, List.getElem?_map, he]
  rfl
theorem Tab.stays (Z : Tab P w s.heap a L es ep t) : ¬ t.gaveWay = true := by
  rw [SetTable.gaveWay, mask_odd Z.ok.mok]
  decide
abbrev start (t : SetTable) (h : Int) : SetTable.Probe := runAt t.mask (SetTable.bits h % (t.mask + 1)) (SetTable.bits h)
theorem nodummy (m : Nat) : ∀ (n : Nat) (p : SetTable.Probe), p.dummy = none → (nth m p n).dummy = none
  | 0, _, h => h
  | n + 1, p, h => nodummy m n (adv m p) (by unfold adv; split <;> exact h)
/-- looking for k from the c-th step of its way on -/
theorem look (Z : Tab P w s.heap a L es ep t) {x : Addr} {k : NestedKey} (hx : At P w s.heap k x) (hu : A.units + 8 < cLine) {K : Nat} (kf : K < 10 * SetTable.turns t.mask)
    (free : way t.mask (k.hash w) K ∉ t.place.toList) (full : ∀ c, c < K → way t.mask (k.hash w) c ∈ t.place.toList) {Q : SetFound → Shared → Prop}
    (there : k ∈ L.map (·.2) → Q (.there none) s) (gone : k ∉ L.map (·.2) → Q (.free (way t.mask (k.hash w) K) false) s) :
    ∀ (f c : Nat) (stand : Option SetTable.Probe), stand.getD (t.probeStart (k.hash w)) = nth t.mask (start t (k.hash w)) c → c ≤ K → K - c < f →
      (∀ (i : Nat) e, L[i]? = some e → e.2 = k → ∃ d, c ≤ d ∧ d < K ∧ t.place.toList[i]? = some (way t.mask (k.hash w) d)) →
      wpAny (model P w) A (setSearchFrom a (.ref x) (k.hash w) true f stand) Q E s
  | 0, c, stand, _, _, hf, _ => absurd hf (Nat.not_lt_zero _)
  | f + 1, c, stand, hst, hc, hf, mine => by
    obtain ⟨o, o1, o2, o3⟩ := Z.obj
    rw [setSearchFrom_succ]
    refine wpAny_bind (wpAny_setState_of o1 o3 Z.fit (wp_if_neg Z.stays ?_))
    try refine wpAny_bind (wpAny_pure ?_)
    have stp : ∀ q, nth t.mask (nth t.mask (start t (k.hash w)) c) q = nth t.mask (start t (k.hash w)) (c + q) := fun q => (nth_add t.mask c _ q).symm
    have stj : ∀ q, (nth t.mask (nth t.mask (start t (k.hash w)) c) q).j = way t.mask (k.hash w) (c + q) := fun q => congrArg SetTable.Probe.j (stp q)
    have cK : c + (K - c) = K := by omega
    have told := go_spec t Z.ok.ris Z.ok.dm (fun i => (es[i]?.map (·.1)).getD 0) (k.hash w) (10 * SetTable.turns t.mask) (K - c) _ (nodummy t.mask c (start t (k.hash w)) rfl) (by omega)
      (fun q hq => by rw [stj]; exact full (c + q) (by omega)) (by rw [stj, cK]; exact free)
    have hat : ∀ (i : Nat) e, L[i]? = some e → (fun i => (es[i]?.map (·.1)).getD 0) i = e.2.hash w := fun i e he => by
      show (es[i]?.map (·.1)).getD 0 = _
      rw [row_at Z.row he]
      rfl
    rcases told with ⟨q, i, hq, hi, hh, hno, hpr⟩ | ⟨hno, hpr⟩
    · have hpr2 : t.probe (fun i => (es[i]?.map (·.1)).getD 0) (k.hash w) (stand.getD (t.probeStart (k.hash w))) = some (.candidate (way t.mask (k.hash w) (c + q)) i (nth t.mask (start t (k.hash w)) (c + (q + 1)))) := by
        rw [hst, ← stj, ← stp]
        exact hpr
      rw [hpr2]
      dsimp only
      rw [stj] at hi
      have il : i < L.length := by
        have h1 := (List.getElem?_eq_some_iff.mp hi).1
        have h2 := Z.ok.sz
        rw [List.length_map] at h2
        rw [Array.length_toList] at h1
        omega
      obtain ⟨e, he⟩ : ∃ e, L[i]? = some e := ⟨_, List.getElem?_eq_getElem il⟩
      have hm := List.mem_of_getElem? he
      have hpt := Z.at_ e hm
      have slt := slot_live Z.ok.ris hi
      have rest : wpAny (model P w) A (searchRest a (.ref x) (k.hash w) true f es t (way t.mask (k.hash w) (c + q)) i (nth t.mask (start t (k.hash w)) (c + (q + 1)))) Q E s := by
        unfold searchRest
        rw [row_at Z.row he]
        dsimp only
        refine wpAny_bind (wpAny_holding ((nestedKind P w).eqBool hu hpt.is hx.is ?_))
        refine wpAny_bind (wpAny_setState_of o1 o3 Z.fit ?_)
        dsimp only
        by_cases same : e.2 = k
        · exact wp_if_pos (by simp [same]) (wpAny_pure (there (List.mem_map.mpr ⟨e, hm, same⟩)))
        · refine wp_if_neg (by simp [same]) ?_
          try refine wpAny_bind (wpAny_pure ?_)
          rw [sameMem]
          dsimp only
          simp only [if_true, slt, row_at Z.row he]
          refine wpAny_bind (wpAny_isSame_ref_self (wpAny_bind (wpAny_pure ?_)))
          simp only [if_true]
          refine wp_if_neg (by simp [same]) ?_
          refine look Z hx hu kf free full there gone f (c + (q + 1)) _ rfl (by omega) (by omega) fun i0 e0 h0 k0 => ?_
          obtain ⟨d, d1, d2, d3⟩ := mine i0 e0 h0 k0
          refine ⟨d, ?_, d2, d3⟩
          refine Classical.byContradiction fun hlt => ?_
          by_cases hd : d = c + q
          · rw [hd] at d3
            have s0 := slot_live Z.ok.ris d3
            rw [slt] at s0
            injection s0 with s0
            rw [← s0, he] at h0
            exact same ((congrArg Prod.snd (Option.some.inj h0)).trans k0)
          · refine hno (d - c) i0 (by omega) (by rw [stj, show c + (d - c) = d by omega]; exact d3) ?_
            exact (hat i0 e0 h0).trans (congrArg (fun z : NestedKey => z.hash w) k0)
      by_cases hl : t.led = true
      · refine wp_if_neg (by simp [hl]) ?_
        try refine wpAny_bind (wpAny_pure ?_)
        exact rest
      · refine wp_if_pos (by simp [hl]) ?_
        refine wpAny_bind (unseen hx (fun y hy => ?_) ?_)
        · obtain ⟨z, hz, ez⟩ := List.mem_map.mp hy
          have hz1 : z ∈ es ∧ z.1 = k.hash w := by simpa using hz
          have hz2 : z ∈ es.toList := by simpa using hz1.1
          rw [Z.row] at hz2
          obtain ⟨e2, he2, ee⟩ := List.mem_map.mp hz2
          exact ⟨e2.2, e2.1, by rw [← ez, ← ee], Z.at_ e2 he2⟩
        · refine wp_if_neg (by decide) ?_
          try refine wpAny_bind (wpAny_pure ?_)
          exact rest
    · have hpr2 : t.probe (fun i => (es[i]?.map (·.1)).getD 0) (k.hash w) (stand.getD (t.probeStart (k.hash w))) = some (.empty (way t.mask (k.hash w) K) none) := by
        have e2 : way t.mask (k.hash w) K = (nth t.mask (nth t.mask (start t (k.hash w)) c) (K - c)).j := by rw [stj, cK]
        rw [hst, e2]
        exact hpr
      rw [hpr2]
      dsimp only
      refine wpAny_pure (gone fun hm => ?_)
      obtain ⟨e0, h0, k0⟩ := List.mem_map.mp hm
      obtain ⟨i0, h00⟩ := List.getElem?_of_mem h0
      obtain ⟨d, d1, d2, d3⟩ := mine i0 e0 h00 k0
      refine hno (d - c) i0 (by omega) (by rw [stj, show c + (d - c) = d by omega]; exact d3) ?_
      exact (hat i0 e0 h00).trans (congrArg (fun z : NestedKey => z.hash w) k0)
/-- looking for k as adding does -/
theorem find (Z : Tab P w s.heap a L es ep t) {x : Addr} {k : NestedKey} (hx : At P w s.heap k x) (hu : A.units + 8 < cLine) {Q : SetFound → Shared → Prop} (there : k ∈ L.map (·.2) → Q (.there none) s)
    (gone : ∀ K, k ∉ L.map (·.2) → way t.mask (k.hash w) K ∉ t.place.toList → (∀ c, c < K → way t.mask (k.hash w) c ∈ t.place.toList) → Q (.free (way t.mask (k.hash w) K) false) s) : wpAny (model P w) A (setSearch a (.ref x) (k.hash w) true) Q E s := by
  have sp := Z.space
  obtain ⟨K, k1, k2, k3⟩ := Z.ok.first (by rw [List.length_map]; omega) (k.hash w)
  have most : K < 100000 := by
    have : 10 * SetTable.turns t.mask ≤ 1420 := by
      unfold SetTable.turns
      rcases Z.ok.mok with q | q | q <;> omega
    omega
  unfold setSearch
  refine look Z hx hu k1 k2 k3 there (fun hn => gone K hn k2 k3) 100000 0 none rfl (Nat.zero_le _) (by omega) fun i e he hk => ?_
  have hi : (hs w L)[i]? = some (k.hash w) := by
    rw [List.getElem?_map, he, ← hk]
    rfl
  have il : i < t.place.toList.length := by
    have h1 := (List.getElem?_eq_some_iff.mp he).1
    have h2 := Z.ok.sz
    rw [List.length_map] at h2
    rw [Array.length_toList]
    omega
  have hj := List.getElem?_eq_getElem il
  obtain ⟨c, hc, ec⟩ := Z.ok.before k2 hi hj
  exact ⟨c, Nat.zero_le _, hc, by rw [hj, ec]⟩
theorem At.other {h h' : Heap} {k : NestedKey} {b : Addr} {o : Obj} (x : At P w h k b) (g1 : h.get? a = some o) (g2 : o.data = .set es ep t) (g3 : Heap.SameBut a h h') : At P w h' k b := x.keep fun c o' vs n q1 q2 => (g3.2 c fun e => by
  rw [e, g1] at q1
  cases q1
  rw [g2] at q2
  cases q2).trans q1
/-- some of the set's rows, by their places -/
theorem picked (hr : es.toList = rows w L) : ∀ l : List Nat, (∀ i ∈ l, i < L.length) → l.filterMap (fun i => es[i]?) = rows w (l.filterMap fun i => L[i]?) ∧ hs w (l.filterMap fun i => L[i]?) = l.map fun i => (es.map (·.1)).getD i 0
  | [], _ => ⟨rfl, rfl⟩
  | i :: l, h => by
    obtain ⟨q1, q2⟩ := picked hr l fun j hj => h j (List.mem_cons_of_mem _ hj)
    obtain ⟨e, he⟩ : ∃ e, L[i]? = some e := ⟨_, List.getElem?_eq_getElem (h i List.mem_cons_self)⟩
    have ee := row_at hr he
    rw [List.filterMap_cons_some ee, List.filterMap_cons_some he, q1]
    refine ⟨rfl, ?_⟩
    rw [List.map_cons]
    show e.2.hash w :: hs w (l.filterMap fun i => L[i]?) = _
    rw [q2]
    have e5 : (es.map (·.1))[i]? = some (e.2.hash w) := by
      rw [Array.getElem?_map, ee]
      rfl
    rw [show (es.map (·.1)).getD i 0 = e.2.hash w by simp [Array.getD_eq_getD_getElem?, e5]]
theorem all_places {α : Type} (l : List α) : (List.range l.length).filterMap (fun i => l[i]?) = l := by
  have key : ∀ n, n ≤ l.length → (List.range n).filterMap (fun i => l[i]?) = l.take n := by
    intro n
    induction n with
    | zero => exact fun _ => rfl
    | succ n ih =>
      intro hn
      rw [List.range_succ, List.filterMap_append, ih (by omega), List.take_succ, List.filterMap_cons_some (List.getElem?_eq_getElem (show n < l.length by omega)), List.getElem?_eq_getElem (show n < l.length by omega)]
      rfl
  rw [key _ (Nat.le_refl _), List.take_length]
theorem shuffled {order : Array Nat} (hr : es.toList = rows w L) (hp : order.toList.Perm (List.range L.length)) : ∃ L2 : List El, (order.filterMap (es[·]?)).toList = rows w L2 ∧ L2.Perm L ∧ hs w L2 = order.toList.map fun i => (es.map (·.1)).getD i 0 := by
  obtain ⟨q1, q2⟩ := picked hr order.toList fun i hi => List.mem_range.mp (hp.mem_iff.mp hi)
  refine ⟨_, by first | (rw [Array.toList_filterMap]; exact q1) | simpa using q1, ?_, q2⟩
  have h1 := hp.filterMap fun i => L[i]?
  rwa [all_places] at h1
/-- the table laid anew -/
theorem relaid {o : Obj} (o1 : s.heap.get? a = some o) (o2 : o.ExactSet) (o3 : o.data = .set es ep t) (hr : es.toList = rows w L) (p1 : t.place.size = es.size) (p2 : t.dummies = #[]) (p3 : es.size ≤ t.mask)
    (once : (L.map (·.2)).Nodup) (at_ : ∀ e ∈ L, At P w s.heap e.2 e.1) (pl : t.plain = true) (lay : w.params.followText "set-order" = true ∨ t.led = true) (less : L.length < 64) {want M : Nat}
    (m1 : SetTable.sizeAbove want - 1 = M) (m2 : MaskOk M) (m3 : SetTable.sizeAbove want ≤ 128) (m4 : L.length * 5 < M * 3) {Q : Unit → Shared → Prop}
    (q : ∀ h' L' es' ep' t', Heap.SameBut a s.heap h' → Tab P w h' a L' es' ep' t' → L'.Perm L → Q () { s with heap := h' }) : wpAny (model P w) A (setRelay a want) Q E s := by
  have sz := row_size hr
  have fit : t.fits es.size = true := by
    unfold SetTable.fits SetTable.fill
    rw [p2, Bool.and_eq_true, beq_iff_eq, decide_eq_true_eq]
    exact ⟨p1, by show t.place.size + 0 ≤ t.mask; omega⟩
  obtain ⟨t', order, r1, r2, r3, r4, r5, r6, r7⟩ := relaid_ok t (hs := es.map (·.1)) (wanted := want) m1 m2 (by rw [Array.size_map, sz]; omega)
  rw [Array.size_map, sz] at r2
  obtain ⟨L2, s1, s2, s3⟩ := shuffled hr r2
  rw [← s3] at r3
  have sz2 : (order.filterMap (es[·]?)).size = es.size := by rw [row_size s1, s2.length_eq, sz]
  rw [setRelay_eq]
  refine wpAny_bind (wpAny_setState_of o1 o3 fit (wp_if_neg (by rw [sizeLine_eq]; omega) ?_))
  try refine wpAny_bind (wpAny_pure ?_)
  rw [r1]
  dsimp only
  refine wpAny_bind (wp_if_neg (by rw [sz2]; simp) ?_)
  try refine wpAny_bind (wpAny_pure ?_)
  refine wpAny_pure ?_
  dsimp only
  have sb : Heap.SameBut a s.heap (s.heap.update a (Obj.putSet (order.filterMap (es[·]?)) t')) := Heap.SameBut.update ..
  refine wpAny_storeSet_of o1 o3 (q _ L2 _ (ep + 1) t' sb ⟨⟨_, store_at o1 o3, ⟨o2.1, o2.2.1, o2.2.2⟩, rfl⟩, s1, r3, (s2.map (·.2)).nodup_iff.mpr once, fun e he => (at_ e (s2.mem_iff.mp he)).other o1 o3 sb, by rw [r6]; exact pl, by rw [r5]; exact lay, by rw [s2.length_eq, r4]; exact m4, by rw [s2.length_eq]; exact less⟩ s2) (by rw [sz2, sz, sizeLine_eq]; omega)
theorem putIn (L : List El) (p : Nat) (x : El) : rows w (L.take p ++ x :: L.drop p) = (rows w L).take p ++ (x.2.hash w, Value.ref x.1) :: (rows w L).drop p := by
  unfold rows
  rw [List.map_append, List.map_cons, List.map_take, List.map_drop]
/-- one key more -/
theorem add (Z : Tab P w s.heap a L es ep t) {x : Addr} {k : NestedKey} (hx : At P w s.heap k x) (hu : A.units + 8 < cLine) (few : L.length + 1 < 64) {Q : Bool → Shared → Prop}
    (q : ∀ b h' L' es' ep' t', Heap.SameBut a s.heap h' → Tab P w h' a L' es' ep' t' → (k ∈ L.map (·.2) → L' = L) → (k ∉ L.map (·.2) → L'.Perm ((x, k) :: L)) → Q b { s with heap := h' }) : wpAny (model P w) A (setAddHashed a (.ref x) (k.hash w)) Q E s := by
  obtain ⟨o, o1, o2, o3⟩ := Z.obj
  have sz := row_size Z.row
  have sp := Z.space
  unfold setAddHashed
  refine wpAny_holding ?_
  rw [show (100000 : Nat) = 99999 + 1 from rfl, setAddHashedIn_succ]
  refine wpAny_bind (wpAny_setState_of o1 o3 Z.fit (wp_if_neg (by simp [byScan, Value.scannable]) ?_))
  try refine wpAny_bind (wpAny_pure ?_)
  refine wpAny_bind (find Z hx hu (fun hm => ?_) fun K hm k1 k2 => ?_)
  · exact wpAny_pure (q false s.heap L es ep t (Heap.SameBut.refl a s.heap) Z (fun _ => rfl) fun z => absurd hm z)
  dsimp only
  refine wpAny_bind (wpAny_setState_of o1 o3 Z.fit ?_)
  dsimp only
  obtain ⟨y1, y2, y3, y4, y5, y6, y7, y8, y9⟩ := Z.ok.put k1 k2
  have pl1 : (t.put (way t.mask (k.hash w) K)).1.plain = true := by rw [y6]; exact Z.pl
  generalize hpt : t.put (way t.mask (k.hash w) K) = pt at y1 y3 y4 y5 y6 y7 y8 y9 pl1 ⊢
  obtain ⟨t1, p⟩ := pt
  dsimp only at y1 y3 y4 y5 y6 y7 y8 y9 pl1 ⊢
  subst y1
  have hby : ∀ (Q : Bool → Shared → Prop), Q true s → wpAny (model P w) A (hashByValue 8 (.ref x)) Q E s := fun Q => hby_key k _ 8 s hx.ik hx.is.1 hx.is.2 A E Q
  first
    | (refine wpAny_bind ?_; refine wp_if_pos pl1 ?_; refine hby _ ?_)
    | refine wp_if_pos pl1 (wpAny_bind (hby _ ?_))
  simp only [if_true]
  have row1 : (SetTable.insertAt es (SetTable.below t.place (way t.mask (k.hash w) K)) (k.hash w, Value.ref x)).toList = rows w (L.take (SetTable.below t.place (way t.mask (k.hash w) K)) ++ (x, k) :: L.drop (SetTable.below t.place (way t.mask (k.hash w) K))) := by
    rw [SetTable.toList_insertAt, putIn, Z.row]
  generalize hpp : SetTable.below t.place (way t.mask (k.hash w) K) = p at y2 y3 row1 ⊢
  have pm := put_perm L p (x, k)
  have hlen := pm.length_eq
  rw [List.length_cons] at hlen
  have hh : hs w (L.take p ++ (x, k) :: L.drop p) = (hs w L).take p ++ k.hash w :: (hs w L).drop p := by
    unfold hs
    rw [List.map_append, List.map_cons, List.map_take, List.map_drop]
  rw [← hh] at y3
  have once1 : ((L.take p ++ (x, k) :: L.drop p).map (·.2)).Nodup := (pm.map (·.2)).nodup_iff.mpr (List.nodup_cons.mpr ⟨hm, Z.once⟩)
  have sz1 := row_size row1
  rw [hlen] at sz1
  generalize SetTable.insertAt es p (k.hash w, Value.ref x) = es1 at row1 sz1 ⊢
  generalize L.take p ++ (x, k) :: L.drop p = L1 at pm hlen y3 once1 row1
  refine wpAny_bind (wpAny_storeSet_of o1 o3 ?_ (by rw [sz1, sizeLine_eq]; have := Z.less; omega))
  have sb : Heap.SameBut a s.heap (s.heap.update a (Obj.putSet es1 t1)) := Heap.SameBut.update ..
  have st1 := store_at (es' := es1) (t' := t1) o1 o3
  generalize s.heap.update a (Obj.putSet es1 t1) = h1 at sb st1 ⊢
  have at1 : ∀ e ∈ L1, At P w h1 e.2 e.1 := fun e he => by
    rcases List.mem_cons.mp (pm.mem_iff.mp he) with rfl | he
    · exact hx.other o1 o3 sb
    · exact (Z.at_ e he).other o1 o3 sb
  have lay1 : w.params.followText "set-order" = true ∨ t1.led = true := by rw [y5]; exact Z.lay
  have less1 : L1.length < 64 := by rw [hlen]; exact few
  by_cases hf : t1.tooFull = true
  · first
      | (refine wpAny_bind ?_; refine wp_if_pos (by simp [hf]) ?_)
      | (refine wp_if_pos (by simp [hf]) ?_; refine wpAny_bind ?_)
    have over : (L.length + 1) * 5 ≥ t1.mask * 3 := by
      have h := hf
      unfold SetTable.tooFull at h
      rw [decide_eq_true_eq, y9, List.length_map] at h
      exact h
    rw [sz]
    have pz : t1.place.size = es1.size := by
      have h := y3.sz
      rw [List.length_map, hlen] at h
      rw [h, sz1]
    have two : (t.mask = 7 ∧ L.length = 4) ∨ (t.mask = 31 ∧ L.length = 18) := by
      rcases Z.ok.mok with e | e | e
      · exact Or.inl ⟨e, by rw [y4, e] at over; rw [e] at sp; omega⟩
      · exact Or.inr ⟨e, by rw [y4, e] at over; rw [e] at sp; omega⟩
      · rw [y4, e] at over
        omega
    have grow : ∀ M, SetTable.sizeAbove (SetTable.grown (L.length + 1)) - 1 = M → MaskOk M → SetTable.sizeAbove (SetTable.grown (L.length + 1)) ≤ 128 → (L.length + 1) * 5 < M * 3 →
        wpAny (model P w) A (setRelay a (SetTable.grown (L.length + 1))) (fun _ s' => wpAny (model P w) A (pure true) Q E s') E { s with heap := h1 } := fun M g1 g2 g3 g4 =>
      relaid (s := { s with heap := h1 }) st1 ⟨o2.1, o2.2.1, o2.2.2⟩ rfl row1 pz y3.dm (by rw [sz1, y4]; rcases two with ⟨e, e2⟩ | ⟨e, e2⟩ <;> omega) once1 at1 pl1 lay1 less1 g1 g2 g3 (by rw [hlen]; exact g4)
        fun h2 L2 es2 ep2 t2 sb2 Z2 pm2 => wpAny_pure (q true h2 L2 es2 ep2 t2 (sb.trans sb2) Z2 (fun z => absurd z hm) fun _ => pm2.trans pm)
    rcases two with ⟨_, e2⟩ | ⟨_, e2⟩
    · exact grow 31 (by rw [e2, size_20]) (.inr (.inl rfl)) (by rw [e2, size_20]; decide) (by omega)
    · exact grow 127 (by rw [e2, size_76]) (.inr (.inr rfl)) (by rw [e2, size_76]; decide) (by omega)
  · first
      | refine wp_if_neg (by simp [hf]) ?_
      | (refine wpAny_bind ?_; refine wp_if_neg (by simp [hf]) ?_; refine wpAny_pure ?_)
    refine wpAny_pure (q true h1 L1 es1 (ep + 1) t1 sb ⟨⟨_, st1, ⟨o2.1, o2.2.1, o2.2.2⟩, rfl⟩, row1, y3, once1, at1, pl1, lay1, ?_, less1⟩ (fun z => absurd z hm) fun _ => pm)
    have h := hf
    unfold SetTable.tooFull at h
    rw [decide_eq_true_eq, y9, List.length_map] at h
    rw [hlen]
    omega
end
end SN
namespace SN
open PySem PySem.Spec PyProof.Rows L2
section
variable {P : Program} {w : World}
/-- how the elements of a row come into a set at S, one by one -/
structure Adds (P : Program) (w : World) (S : Addr) (h0 : Heap) (Pv : Nat → Value → Prop) (J : Nat → Heap → Prop) : Prop where
  keep : ∀ {i : Nat} {h h' : Heap}, J i h → (∀ o, h.get? S = some o → h'.get? S = some o) → (∀ b o, h0.get? b = some o → h'.get? b = some o) → J i h'
  add : ∀ {i : Nat} {v : Value} {s : Shared} {A : Around} {E : Value → Shared → Prop} {Q : Bool → Shared → Prop}, A.units + 8 < cLine → Pv i v → J i s.heap → (∀ b o, h0.get? b = some o → s.heap.get? b = some o) →
    (∀ b h' tk, s.toks ≤ tk → Heap.SameBut S s.heap h' → J (i + 1) h' → Q b { s with heap := h', toks := tk }) → wpAny (model P w) A (setAdd S v) Q E s
variable {A : Around} {E : Value → Shared → Prop} {s : Shared}
theorem loop {I : Addr} {fp wr : List Addr} {G : Array GenState → Array GenState → Prop} {n : Nat} {Pv : Nat → Value → Prop} {St : Nat → Shared → Prop} {J : Nat → Heap → Prop} {h0 : Heap} {S : Addr} {Rz : Result → Shared → Prop} (W : WalksS P w A.in1 I fp wr G n Pv St) (M : Adds P w S h0 Pv J) (off : S ∉ fp)
    (new1 : h0.get? S = none) (new2 : ∀ b ∈ wr, h0.get? b = none) (un : A.in1.units + 8 < cLine) : ∀ (d i : Nat) (s : Shared), n - i = d → i ≤ n → St i s → (∀ b o, h0.get? b = some o → s.heap.get? b = some o) → J i s.heap →
      (∀ s', Moved (S :: wr) G s s' → J n s'.heap → (∀ b o, h0.get? b = some o → s'.heap.get? b = some o) → Rz (.ok (.ret .none)) s') → codeAny (model P w) A (.builtin "set.update.loop" ⟨[.ref S, .ref I], []⟩) Rz s := by
  have offW : S ∉ wr := fun h => off (W.sub _ h)
  have more : ∀ b ∈ wr, b ∈ S :: wr := fun b hb => List.mem_cons_of_mem _ hb
  have old : ∀ {s s' : Shared}, Moved wr G s s' → (∀ b o, h0.get? b = some o → s.heap.get? b = some o) → ∀ b o, h0.get? b = some o → s'.heap.get? b = some o := fun hm k b o e =>
    hm.heap b o (fun hb => by rw [new2 b hb] at e; cases e) (k b o e)
  intro d
  induction d with
  | zero =>
    intro i s hd hi st k j fin
    obtain rfl : i = n := by omega
    refine codeAny_builtin F.entry_set_update_loop ?_
    rw [Around.under_plainId F.plain_set_update_loop _]
    refine wpAny_bind (m := pyNext (.ref I)) (W.done s _ _ st fun s' hm => ?_)
    exact wpAny_pure (fin s' (hm.mono more) (M.keep j (fun o e => hm.heap S o offW e) (old hm k)) (old hm k))
  | succ d ih =>
    intro i s hd hi st k j fin
    have lt : i < n := by omega
    refine codeAny_builtin F.entry_set_update_loop ?_
    rw [Around.under_plainId F.plain_set_update_loop _]
    refine wpAny_bind (m := pyNext (.ref I)) (W.item i s _ _ lt st fun v s' pv st' hm => ?_)
    have k1 := old hm k
    refine wpAny_bind (m := holding [v] (setAdd S v)) (wpAny_holding (M.add un pv (M.keep j (fun o e => hm.heap S o offW e) k1) k1 fun b h' tk le sb j' => ?_))
    have k2 : ∀ b o, h0.get? b = some o → h'.get? b = some o := fun b o e => (sb.2 b (fun z => by rw [z, new1] at e; cases e)).trans (k1 b o e)
    refine wpAny_pure ⟨plainId_quiet F.plain_set_update_loop _, ih (i + 1) _ (by omega) lt (W.frame _ s' _ _ st' le fun b hb o e => ?_) k2 j' fun s'' hm2 j2 k3 => ?_⟩
    · exact (sb.2 b (fun h : b = S => off (by rw [← h]; exact hb))).trans e
    · refine fin s'' (Moved.trans W.gtrans ((hm.mono more).then_heap le fun b o hb e => ?_) hm2) j2 k3
      exact (sb.2 b (fun h : b = S => hb (by rw [h]; exact List.mem_cons_self))).trans e
set_option maxRecDepth 100000 in
set_option maxHeartbeats 3200000 in
theorem set_of_list {l : Addr} {items : Array Value} {Q : Value → Shared → Prop} {J : Nat → Heap → Prop} (calm : A.handled = none) (li_ : s.heap.IsList l items) (M : Adds P w s.heap.objs.size s.heap (fun i v => items[i]? = some v) J)
    (first : ∀ h, h.get? s.heap.objs.size = some (DL.setNew w) → (∀ b o, s.heap.get? b = some o → h.get? b = some o) → J 0 h) (un : A.units + 11 < cLine)
    (post : ∀ (h' : Heap) (tk : Nat), J items.size h' → (∀ b o, s.heap.get? b = some o → h'.get? b = some o) → Q (.ref s.heap.objs.size) { s with heap := h', toks := tk }) :
    wpAny (model P w) A (call (.type "set") [.ref l]) Q E s := by
  obtain ⟨c, tl, mro_⟩ := F.called_set.mro
  have made_ := F.called_set.made
  have sub_ := F.called_set.sub
  refine wpAny_call (codeAny_of_tree (?_ : wpAny _ _ (callAny (.type "set") _) _ _ _))
  refine wpAny_pure ⟨Code.quiet_builtin _ (by decide +kernel), codeAny_builtin F.entry_type_call ?_⟩
  rw [Around.under_plain (weight_type_call_type "set" [.ref l] []) rfl]
  have no_type := F.called_set.notType
  have can_ := F.called_set.canCreate
  have tc_ := F.typeCall_set_1 (.ref l)
  repeat (any_goals (first | assumption | wp_step))
  refine codeAny_mono (code_set_led1 (.ref l) (E := E) (Q₁ := fun obj s₁ => obj = .ref s.heap.objs.size ∧ s₁ = { s with heap := s.heap.push (DL.setNew w) }) ⟨rfl, rfl⟩) fun r s₁ hr => ?_
  cases r with
  | error e => exact hr
  | ok fl =>
    cases fl with
    | ret obj =>
      obtain ⟨rfl, rfl⟩ := hr
      have at_ : (s.heap.push (DL.setNew w)).get? s.heap.objs.size = some (DL.setNew w) := Heap.get?_push_size _ rfl
      have ty_ : Shared.TypeIs { s with heap := s.heap.push (DL.setNew w) } (.ref s.heap.objs.size) "set" := ⟨_, at_, rfl⟩
      have init_ := F.called_set.init.lookup
      have bind_ := F.called_set.init.bind (.ref s.heap.objs.size)
      repeat (any_goals (first | assumption | wp_step))
      refine codeAny_mono (codeAny_call_builtin (R := wants (fun r s₂ => r = .none ∧ ∃ h' tk, s₂ = { s with heap := h', toks := tk } ∧ J items.size h' ∧ (∀ b o, s.heap.get? b = some o → h'.get? b = some o)) E)
        F.called_set.init.plain F.entry_set_init (check_set_init_1 ty_ ?_)) fun r₂ s₂ hr₂ => ?_
      · obtain ⟨ol, hol, ocl, nl, odl⟩ := li_
        obtain ⟨ocls, odict, odata, oslots⟩ := ol
        simp only at ocl odl
        subst ocl odl
        have hol' : (s.heap.push (DL.setNew w)).get? l = some { cls := .type "list", dict := odict, data := .seq items nl, slots := oslots } := Heap.get?_push_of_some _ hol
        have no1 := F.sub_list_set
        have no2 := F.sub_list_frozenset
        have no3 : (Value.type "list" == Value.type "dict") = false := by decide
        have lst_ : (s.heap.push (DL.setNew w)).IsList l items := ⟨_, hol', rfl, nl, rfl⟩
        unfold Builtin.«set.__init__» noKeywords Builtin.Frozenset.updateFrom
        generalize hPI : pyIter = PI
        wp_walk
        subst hPI
        refine wpAny_pyIter_list lst_ ?_
        refine wpAny_bind (wpAny_runValue ?_)
        have lt_ : l < s.heap.objs.size := Heap.lt_size hol
        have calm3 : A.in1.in1.in1.handled = none := by simp [calm]
        have neI : l ≠ (s.heap.push (DL.setNew w)).objs.size := by
          rw [Heap.size_push]
          exact Nat.ne_of_lt (Nat.lt_succ_of_lt lt_)
        have off : s.heap.objs.size ∉ [(s.heap.push (DL.setNew w)).objs.size, l] := by
          rw [Heap.size_push]
          simp only [List.mem_cons, List.mem_singleton, List.not_mem_nil, or_false, not_or]
          exact ⟨Nat.ne_of_lt (Nat.lt_succ_self _), Nat.ne_of_gt lt_⟩
        have gone : ∀ b, s.heap.objs.size ≤ b → s.heap.get? b = none := fun b hb => by
          cases q : s.heap.get? b with
          | none => rfl
          | some o => exact absurd (Nat.lt_of_lt_of_le (Heap.lt_size q) hb) (Nat.lt_irrefl _)
        refine loop ((Walks.list calm3 _ l neI items).toS) M off (gone _ (Nat.le_refl _)) (fun b hb => gone b (by
            rw [List.mem_singleton.mp hb, Heap.size_push]
            exact Nat.le_succ _)) un (items.size - 0) 0 _ (by omega) (Nat.zero_le _)
          ⟨⟨_, Heap.get?_push_size _ rfl, rfl, rfl⟩, lst_.push _⟩ (fun b o e => Heap.get?_push_of_some _ (Heap.get?_push_of_some _ e)) (first _ (Heap.get?_push_of_some _ at_) fun b o e => Heap.get?_push_of_some _ (Heap.get?_push_of_some _ e)) fun s' hm j' k' => ?_
        obtain ⟨h', g2, d', tk', os'⟩ := s'
        have eg : g2 = s.gens := hm.gens
        have ed : d' = s.drawn := hm.drawn
        have eo : os' = s.os := hm.os
        subst eg ed eo
        show wpAny _ _ _ _ _ _
        refine wpAny_pure (?_ : wpAny _ _ (ret Value.none) _ _ _)
        exact wpAny_pure ⟨rfl, h', tk', rfl, j', k'⟩
      · cases r₂ with
        | error e => exact hr₂
        | ok fl₂ =>
          cases fl₂ with
          | ret r =>
            obtain ⟨rfl, h', tk, rfl, j', k'⟩ := hr₂
            repeat (any_goals (first | assumption | wp_step))
            exact post _ _ j' k'
          | _ => exact hr₂.elim
    | _ => exact hr.elim
end
end SN
namespace SN
open PySem PySem.Spec PyProof.Rows L2
section
variable {P : Program} {w : World}
/-- what the set has got from the first i elements -/
structure Has (ks : List El) (i : Nat) (L : List El) : Prop where
  sub : ∀ e ∈ L, e ∈ ks.take i
  all : ∀ e ∈ ks.take i, e.2 ∈ L.map (·.2)
theorem Tab.on {h h' : Heap} {a : Addr} {L : List El} {es : Array (Int × Value)} {ep : Nat} {t : SetTable} (Z : Tab P w h a L es ep t) (ho : ∀ o, h.get? a = some o → h'.get? a = some o) (he : ∀ e ∈ L, At P w h' e.2 e.1) : Tab P w h' a L es ep t :=
  let ⟨o, o1, o2⟩ := Z.obj
  ⟨⟨o, ho o o1, o2⟩, Z.row, Z.ok, Z.once, he, Z.pl, Z.lay, Z.space, Z.less⟩
/-- few different keys -/
def Few (ks : List El) : Prop := ∀ L : List El, (L.map (·.2)).Nodup → (∀ e ∈ L, e ∈ ks) → L.length ≤ 62
theorem adds_keys {S : Addr} {h0 : Heap} {ks : List El} {vs : Array Value} (hv : vs.toList = ks.map fun e => Value.ref e.1) (hk : ∀ e ∈ ks, At P w h0 e.2 e.1) (few : Few ks) :
    Adds P w S h0 (fun i v => vs[i]? = some v) fun i h => ∃ L es ep t, Tab P w h S L es ep t ∧ Has ks i L where
  keep := fun {i h h'} j ho old => by
    obtain ⟨L, es, ep, t, Z, g⟩ := j
    exact ⟨L, es, ep, t, Z.on ho fun e he => (hk e (List.mem_of_mem_take (g.sub e he))).keep fun b o _ _ q _ => old b o q, g⟩
  add := fun {i v s A E Q} un pv j old post => by
    obtain ⟨L, es, ep, t, Z, g⟩ := j
    have pv2 : vs.toList[i]? = some v := by rw [Array.getElem?_toList]; exact pv
    rw [hv, List.getElem?_map] at pv2
    obtain ⟨e, he, rfl⟩ := Option.map_eq_some_iff.mp pv2
    have hx : At P w s.heap e.2 e.1 := (hk e (List.mem_of_getElem? he)).keep fun b o _ _ q _ => old b o q
    have subs : ∀ z ∈ L, z ∈ ks := fun z hz => List.mem_of_mem_take (g.sub z hz)
    have few1 := few L Z.once subs
    have nx : ks.take (i + 1) = ks.take i ++ [e] := by
      rw [List.take_succ, he]
      rfl
    unfold setAdd
    refine wpAny_holding (wpAny_bind ((nestedKind P w).pyHash un hx.is ?_))
    refine SN.add (s := { s with toks := s.toks + (nestedKind P w).draws e.2 }) Z hx un (by omega) fun b h' L' es' ep' t' sb Z' c1 c2 => ?_
    refine post b h' _ (Nat.le_add_right _ _) sb ⟨L', es', ep', t', Z', ?_⟩
    by_cases hm : e.2 ∈ L.map (·.2)
    · rw [c1 hm]
      refine ⟨fun z hz => by rw [nx]; exact List.mem_append_left _ (g.sub z hz), fun z hz => ?_⟩
      rw [nx] at hz
      rcases List.mem_append.mp hz with hz | hz
      · exact g.all z hz
      · rw [List.mem_singleton.mp hz]
        exact hm
    · have pm := c2 hm
      refine ⟨fun z hz => ?_, fun z hz => ?_⟩
      · rw [nx]
        rcases List.mem_cons.mp (pm.mem_iff.mp hz) with q | q
        · rw [q]
          exact List.mem_append_right _ (List.mem_singleton.mpr rfl)
        · exact List.mem_append_left _ (g.sub z q)
      · rw [(pm.map (·.2)).mem_iff, List.map_cons]
        rw [nx] at hz
        rcases List.mem_append.mp hz with q | q
        · exact List.mem_cons_of_mem _ (g.all z q)
        · rw [List.mem_singleton.mp q]
          exact List.mem_cons_self
/-- the set's own part -/
def T0 (w : World) (a : Addr) (L : List El) : Heap → Prop := fun h => ∃ es ep t, (∃ o, h.get? a = some o ∧ o.ExactSet ∧ o.data = .set es ep t) ∧ es.toList = rows w L ∧ TabOk t (hs w L) ∧ (L.map (·.2)).Nodup ∧ t.plain = true ∧ (w.params.followText "set-order" = true ∨ t.led = true) ∧ L.length * 5 < t.mask * 3 ∧ L.length < 64
abbrev SO (w : World) (a : Addr) (L : List El) : HO := .ext (T0 w a L)
theorem Tab.t0 {h : Heap} {a : Addr} {L : List El} {es : Array (Int × Value)} {ep : Nat} {t : SetTable} (Z : Tab P w h a L es ep t) : T0 w a L h := ⟨es, ep, t, Z.obj, Z.row, Z.ok, Z.once, Z.pl, Z.lay, Z.space, Z.less⟩
theorem T0.tab {h : Heap} {a : Addr} {L : List El} (z : T0 w a L h) (he : ∀ e ∈ L, At P w h e.2 e.1) : ∃ es ep t, Tab P w h a L es ep t :=
  let ⟨es, ep, t, q1, q2, q3, q4, q5, q6, q7, q8⟩ := z
  ⟨es, ep, t, q1, q2, q3, q4, he, q5, q6, q7, q8⟩
theorem so_new {H : Hp} {h : Heap} {a : Addr} {L : List El} (z : T0 w a L h) : ObjOk P w H h a (SO w a L) := by
  have z0 := z
  obtain ⟨es, ep, t, ⟨o, o1, _⟩, _⟩ := z0
  refine ⟨z, ⟨o, o1⟩, fun h1 h2 y k => ?_⟩
  obtain ⟨es, ep, t, ⟨o, o1, o2⟩, q⟩ := y
  exact ⟨es, ep, t, ⟨o, k o o1, o2⟩, q⟩
end
section
variable {X : Cx}
theorem at_of {pins : List (Addr × Obj)} {σ : L2.St} {H : Hp} {s : Shared} (I : Inv X pins σ H s) {k : NestedKey} {a : Addr} (h : DN.KeyOk X.K H k a) : At X.prog X.w s.heap k a := ⟨h.is I, h.1⟩
theorem refs_eq {ks : List El} {us : List Value} (r : Vals (ks.map fun e => V.ref e.1) us) : us = ks.map fun e => Value.ref e.1 := by
  induction ks generalizing us with
  | nil => cases r; rfl
  | cons e ks ih =>
    cases r with
    | cons r1 r2 =>
      cases r1
      rw [ih r2]
      rfl
/-- set(x): keys -/
def rSetK (K : PySem.W.Frag) (w : World) : List V → Hp → VK → Prop := fun xs H Q => ∃ (l : Addr) (ks : List El), xs = [V.ref l] ∧ SqL K H l (ks.map fun e => V.ref e.1) ∧ (∀ e ∈ ks, DN.KeyOk K H e.2 e.1) ∧ Few ks ∧
  ∀ a L, H a = none → (∀ e ∈ L, e ∈ ks) → (∀ e ∈ ks, e.2 ∈ L.map (·.2)) → (L.map (·.2)).Nodup → Q (.ref a) (upd H a (SO w a L))
theorem cr_setK (hc : X.calm = true) (hu : X.A.units + 64 < cLine) : CallR X (.type "set") (rSetK X.K X.w) := by
  intro pins s σ H xs us Q I r h
  obtain ⟨l, ks, rfl, hl, hk, few, q⟩ := h
  rw [Vals.ref1 r]
  obtain ⟨its, rv, pl, _⟩ := I.list hl
  have hits := refs_eq rv
  have hn : H s.heap.objs.size = none := I.hok.fresh (Nat.le_refl _)
  refine set_of_list (J := fun i h => ∃ L es ep t, Tab X.prog X.w h s.heap.objs.size L es ep t ∧ Has ks i L) (I.ok.hd hc) pl.isList (adds_keys (by simpa using hits) (fun e he => at_of I (hk e he)) few) (fun h q1 q2 => ⟨[], #[], 0, _, ⟨⟨_, q1, ⟨rfl, rfl, rfl⟩, rfl⟩, rfl, ⟨List.Pairwise.nil, rfl, rfl, .inl rfl, fun x hx => (by cases hx), fun i h j hi => (by simp at hi)⟩, List.nodup_nil, fun e he => (by cases he), rfl, ?_, by show 0 * 5 < 7 * 3; decide, by show 0 < 64; decide⟩, ⟨fun e he => (by cases he), fun e he => (by simp at he)⟩⟩) (by omega) fun h' tk j old => ?_
  · show _ ∨ (!X.w.params.followText "set-order") = true
    cases X.w.params.followText "set-order"
    · exact .inr rfl
    · exact .inl rfl
  · obtain ⟨L, es, ep, t, Z, g⟩ := j
    have sz : its.toArray.size = ks.length := by
      have := congrArg List.length hits
      rw [List.length_map] at this
      simpa using this
    rw [sz] at g
    have htk : ks.take ks.length = ks := List.take_length
    refine ⟨.ref s.heap.objs.size, upd H s.heap.objs.size (SO X.w s.heap.objs.size L), I.laid (t' := tk) old (Nat.le_refl _) (so_new Z.t0), rfl, q _ L hn (fun e he => List.mem_of_mem_take (g.sub e he)) (fun e he => g.all e (by rw [htk]; exact he)) Z.once⟩
/-- set(x): whole numbers -/
def rSetI (K : PySem.W.Frag) (w : World) : List V → Hp → VK → Prop := fun xs H Q => ∃ (l : Addr) (ns : List Int), xs = [V.ref l] ∧ SqL K H l (ns.map V.int) ∧ ns.length < 1000 ∧
  ∀ a c, H a = none → c ≤ ns.length → Q (.ref a) (upd H a (SetO w a (fun j => decide (j ∈ ns)) c))
theorem adds_ints {P : Program} {w : World} {S : Addr} {h0 : Heap} {ns : List Int} {vs : Array Value} (hv : IntsAre vs.toList ns) (hb : ns.length < 1000) :
    Adds P w S h0 (fun i v => vs[i]? = some v) fun i h => ∃ c, c ≤ i ∧ i ≤ ns.length ∧ SetR w h S (fun j => decide (j ∈ ns.take i)) c where
  keep := fun {i h h'} j ho old => by
    obtain ⟨c, c1, c2, z⟩ := j
    exact ⟨c, c1, c2, z.at ho⟩
  add := fun {i v s A E Q} un pv j old post => by
    obtain ⟨c, c1, c2, z⟩ := j
    have pv2 : vs.toList[i]? = some v := by rw [Array.getElem?_toList]; exact pv
    have il : i < ns.length := by
      rw [← IntsAre.length hv]
      exact (List.getElem?_eq_some_iff.mp pv2).1
    obtain ⟨t, e⟩ := PyProof.Rows.IntsAre.int_at hv i v pv2
    have hz : ns[i]? = some (ns.getD i 0) := by
      rw [List.getD_eq_getElem?_getD, List.getElem?_eq_getElem il]
      rfl
    subst e
    generalize ns.getD i 0 = k at hz
    have big : (1001 : Nat) < scanBound := by decide +kernel
    unfold setAdd
    refine wpAny_holding (wpAny_bind ((intKind P w).pyHash (k := k) (intKind_is _ _ _ _) ?_))
    refine setR_add_hashed (s := { s with toks := s.toks + 1 }) z (by omega) fun h' sb z2 => ?_
    refine post _ h' _ (Nat.le_succ _) sb ⟨_, ?_, il, z2.congr fun j => ?_⟩
    · split <;> omega
    · rw [List.take_add_one, hz]
      simp [List.mem_append]
theorem cr_setI (hc : X.calm = true) (hu : X.A.units + 64 < cLine) : CallR X (.type "set") (rSetI X.K X.w) := by
  intro pins s σ H xs us Q I r h
  obtain ⟨l, ns, rfl, hl, hb, q⟩ := h
  rw [Vals.ref1 r]
  obtain ⟨its, rv, pl, _⟩ := I.list hl
  have hits := Vals.ints rv
  have hn : H s.heap.objs.size = none := I.hok.fresh (Nat.le_refl _)
  refine set_of_list (J := fun i h => ∃ c, c ≤ i ∧ i ≤ ns.length ∧ SetR X.w h s.heap.objs.size (fun j => decide (j ∈ ns.take i)) c) (I.ok.hd hc) pl.isList (adds_ints (by simpa using hits) hb) (fun h q1 q2 => ⟨0, Nat.le_refl _, Nat.zero_le _, setR_new_at q1⟩) (by omega) fun h' tk j old => ?_
  obtain ⟨c, c1, c2, z⟩ := j
  have sz : its.toArray.size = ns.length := by
    have := IntsAre.length hits
    simpa using this
  rw [sz, List.take_length] at z
  rw [sz] at c1
  exact ⟨.ref s.heap.objs.size, upd H s.heap.objs.size (SetO X.w s.heap.objs.size (fun j => decide (j ∈ ns)) c), I.laid (t' := tk) old (Nat.le_refl _) (setO_new z), rfl, q _ c hn c1⟩
end
end SN
namespace SN
theorem perm_map {α β : Type} {f : α → β} : ∀ {vs ws : List β}, vs.Perm ws → ∀ L : List α, ws = L.map f → ∃ L1 : List α, L1.Perm L ∧ vs = L1.map f := by
  intro vs ws h
  induction h with
  | nil =>
    intro L e
    cases L with
    | nil => exact ⟨[], .nil, rfl⟩
    | cons => cases e
  | cons x _ ih =>
    intro L e
    cases L with
    | nil => cases e
    | cons y L =>
      obtain ⟨e1, e2⟩ := List.cons.inj e
      obtain ⟨L1, p, q⟩ := ih L e2
      exact ⟨y :: L1, p.cons y, by rw [List.map_cons, ← q, e1]⟩
  | swap x y l =>
    intro L e
    match L, e with
    | a :: b :: L, e =>
      obtain ⟨e1, e2⟩ := List.cons.inj e
      obtain ⟨e2, e3⟩ := List.cons.inj e2
      exact ⟨b :: a :: L, .swap a b L, by rw [List.map_cons, List.map_cons, ← e1, ← e2, ← e3]⟩
  | trans _ _ ih1 ih2 =>
    intro L e
    obtain ⟨L2, p2, q2⟩ := ih2 L e
    obtain ⟨L1, p1, q1⟩ := ih1 L2 q2
    exact ⟨L1, p1.trans p2, q1⟩
end SN
namespace PySem.W
open PySem PySem.Calls
open PyProof.Rows
section
variable {prog : Program} {w : World} {A : Around} {E : Value → Shared → Prop} {s : Shared}
/-- sorted(s): the set's keys on a new list -/
theorem sorted_setK {a : Addr} {L : List SN.El} {es : Array (Int × Value)} {ep : Nat} {t : SetTable} {Q : Value → Shared → Prop} (Z : SN.Tab prog w s.heap a L es ep t) (hh : A.handled = none)
    (er : ∀ e ∈ L, ∃ as, Reads s.heap (.ref e.1) e.2.data as) (hal : AllAlike (L.map fun e => e.2.data)) (hk : ∀ L1 : List SN.El, L1.Perm L → Sortable (L1.map fun e => e.2.data)) (hu : ∀ e ∈ L, A.units + 2 + e.2.data.depth < cLine)
    (h : ∀ (s2 : Shared) (p : Addr) (out : List Value) (L1 : List SN.El), L1.Perm L → EachIs (fun u (z : SN.El) => u = Value.ref z.1) out (L1.mergeSort (dataLe false fun z => z.2.data)) → (∀ b o, s.heap.get? b = some o → s2.heap.get? b = some o) → s2.gens = s.gens → s2.os = s.os → s.heap.objs.size ≤ p →
      (∃ ep, s2.heap.get? p = some (seqObj "list" (List.toArray out) ep)) → Q (.ref p) s2) : wpAny (model prog w) A (call (.builtin "sorted") [.ref a]) Q E s := by
  obtain ⟨o, o1, o2, o3⟩ := Z.obj
  have few := Z.less
  have szr := SN.row_size Z.row
  have big : (64 : Nat) < scanBound := by decide +kernel
  refine call_function_entry_kw (kw := []) kind_sorted plain_sorted entry_sorted (args_sorted1 _) ?_
  unfold Builtin.«sorted»
  refine wpAny_bind (m := checkCount "sorted" 1 1 _) (wpAny_pure ?_)
  refine wpAny_bind (L2.collect_set (A := A.in1) hh ⟨o, o1, o2.1, o3⟩ Z.fit (by omega) Z.ok.ris Z.lay fun s1 vs k1 hz g1 oo1 pm => ?_)
  have ev : es.toList.map (·.2) = L.map fun e => Value.ref e.1 := by
    rw [Z.row, SN.rows, List.map_map]
    rfl
  rw [ev] at pm
  obtain ⟨L1, pL, rfl⟩ := SN.perm_map pm L rfl
  have hl1 : L1.length < 64 := by rw [pL.length_eq]; exact few
  refine wpAny_bind (wpAny_newList ?_ (by rw [List.length_map, sizeLine_eq]; omega))
  have e1 : EachIs (fun u (z : SN.El) => u = Value.ref z.1) (L1.map fun e => Value.ref e.1) L1 := by
    clear pL hl1 pm
    induction L1 with
    | nil => exact .nil
    | cons e L1 ih => exact .cons rfl ih
  generalize hus : (L1.map fun e => Value.ref e.1) = us at e1
  have hoL : (s1.heap.push (seqObj "list" us.toArray 0)).get? s1.heap.objs.size = some (seqObj "list" us.toArray 0) := Heap.get?_push_size _ rfl
  have er1 : EachIs (fun u (z : SN.El) => ∃ as, Reads (sortingHeap (s1.heap.push (seqObj "list" us.toArray 0)) s1.heap.objs.size us) u z.2.data as) us L1 := by
    have all : ∀ e ∈ L1, ∃ as, Reads (sortingHeap (s1.heap.push (seqObj "list" us.toArray 0)) s1.heap.objs.size us) (.ref e.1) e.2.data as := fun e he => by
      obtain ⟨as, r⟩ := er e (pL.mem_iff.mp he)
      exact ⟨as, PyProof.Rows.Reads.keeps (fun b o q => sortingHeap_old (Nat.ne_of_lt (Heap.lt_size (k1 b o q))) (Heap.get?_push_of_some _ (k1 b o q))) r⟩
    clear hus hoL
    generalize hH : sortingHeap (s1.heap.push (seqObj "list" us.toArray 0)) s1.heap.objs.size us = HH at all ⊢
    clear hH pL hl1 pm
    induction e1 with
    | nil => exact .nil
    | cons q _ ih => exact .cons (by rw [q]; exact all _ List.mem_cons_self) (ih fun e he => all e (List.mem_cons_of_mem _ he))
  have hL' : us.length ≤ sizeLine := by rw [e1.length, sizeLine_eq]; omega
  have hal1 : AllAlike (L1.map fun e => e.2.data) := fun d1 h1 d2 h2 => hal d1 ((pL.map _).mem_iff.mp h1) d2 ((pL.map _).mem_iff.mp h2)
  refine wpAny_bind (wpAny_holding (wpAny_call_entry_kw slot_list_sort ⟨_, hoL, rfl⟩ entry_list_sort ?body (args_list_sort _)))
  case body =>
    show wpAny (model prog w) A.in1.in1 (Builtin.«list.sort» ⟨[.ref s1.heap.objs.size], []⟩) _ _ _
    refine wpAny_mono (list_sort_vals (A := A.in1.in1) (s := { s1 with heap := s1.heap.push (seqObj "list" us.toArray 0) }) (P := fun f s' => f = .done (.ret .none) ∧ Q (.ref s1.heap.objs.size) s') hoL (SortsAt.data (s := { s1 with heap := sortingHeap (s1.heap.push (seqObj "list" us.toArray 0)) s1.heap.objs.size us }) (each_map (R := fun v d => ∃ as, Reads (sortingHeap (s1.heap.push (seqObj "list" us.toArray 0)) s1.heap.objs.size us) v d as) (fun z : SN.El => z.2.data) er1) hal1 (hk L1 pL) (bound_map (enc := fun z : SN.El => z.2.data) fun e he => hu e (pL.mem_iff.mp he))) hL' ⟨rfl, ?_⟩) (fun f s' hf => ?_) fun _ _ e => e
    · refine h _ s1.heap.objs.size _ L1 pL (sortVals_data false e1 er1 hal1) (fun b o q => ?_) g1 oo1 hz (sortedHeap_at hoL)
      have q1 := k1 b o q
      show (sortedHeap _ _ _ _).get? b = some o
      rw [sortedHeap_old (Nat.ne_of_lt (Heap.lt_size q1)) (by rw [Heap.size_push]; exact Nat.lt_succ_of_lt (Heap.lt_size q1))]
      exact Heap.get?_push_of_some _ q1
    · obtain ⟨rfl, hq⟩ := hf
      exact ⟨_, rfl, wpAny_pure ⟨_, rfl, hq⟩⟩
end
end PySem.W
namespace SN
open PySem PySem.Spec PyProof.Rows L2
section
variable {X : Cx}
theorem each_refsE {out : List Value} {L : List El} (e : PySem.W.EachIs (fun u (z : El) => u = Value.ref z.1) out L) : Vals (L.map fun z => V.ref z.1) out := by
  induction e with
  | nil => exact .nil
  | cons h _ ih => exact .cons h ih
/-- sorted(s), s such a set -/
def rSortK (K : PySem.W.Frag) (w : World) : List V → Hp → VK → Prop := fun xs H Q => ∃ (a : Addr) (L : List El), xs = [.ref a] ∧ H a = some (SO w a L) ∧ (∀ e ∈ L, DN.KeyOk K H e.2 e.1) ∧ PySem.W.AllAlike (L.map fun e => e.2.data) ∧ (∀ L1 : List El, L1.Perm L → PySem.W.Sortable (L1.map fun e => e.2.data)) ∧
  ∀ (L1 : List El) (q : Addr), L1.Perm L → H q = none → Q (.ref q) (upd H q (.lst ((L1.mergeSort (PySem.W.dataLe false fun z => z.2.data)).map fun z => .ref z.1)))
theorem cr_sortK (hc : X.calm = true) (hu : X.A.units + 64 < cLine) : CallR X (.builtin "sorted") (rSortK X.K X.w) := by
  intro pins s σ H xs us Q I r h
  obtain ⟨a, L, rfl, ha, hk, hal, hs, q⟩ := h
  rw [Vals.ref1 r]
  obtain ⟨es, ep, t, Z⟩ := T0.tab (P := X.prog) (I.hok a _ ha).1 fun e he => at_of I (hk e he)
  refine PySem.W.sorted_setK Z (I.ok.hd hc) (fun e he => DN.key_reads I _ _ _ (hk e he).2.2 rfl) hal hs (fun e he => ?_) fun s2 p out L1 pL he k g o hp hat => ?_
  · have := (hk e he).2.1
    rw [DN.data_depth]
    omega
  · obtain ⟨ep2, hat⟩ := hat
    have rv := each_refsE he
    have hlen : ((L1.mergeSort (PySem.W.dataLe false fun z => z.2.data)).map fun z => V.ref z.1).length ≤ sizeLine := by
      rw [List.length_map, List.length_mergeSort, pL.length_eq, sizeLine_eq]
      have := Z.less
      omega
    have hn : H p = none := I.hok.fresh hp
    have J : Inv X pins σ (upd H p (.lst ((L1.mergeSort (PySem.W.dataLe false fun z => z.2.data)).map fun z => .ref z.1))) { s with heap := s2.heap, gens := s2.gens, drawn := s2.drawn, toks := s2.toks } :=
      I.call (ch := []) (Un.laid k hp hn) (I.hok.laid k hp ⟨hlen, out, ep2, rv, hat⟩) (by rw [g]; exact I.bare) (fun _ z => nomatch z)
    have e2 : s2 = { s with heap := s2.heap, gens := s2.gens, drawn := s2.drawn, toks := s2.toks } := by
      cases s2
      cases s
      cases o
      rfl
    rw [e2]
    exact ⟨.ref p, _, J, rfl, q L1 p pL hn⟩
end
end SN
namespace DL
open PySem PySem.Spec
open PyProof.Rows L2
def leK (a b : NestedKey) : Bool := PySem.W.dataLe false NestedKey.data a b
theorem leK_eq (a b : NestedKey) : leK a b = !PySem.W.dataLt b.data a.data := rfl
theorem leK_trans (a b c : NestedKey) (h1 : leK a b = true) (h2 : leK b c = true) : leK a c = true := by
  rw [leK_eq, Bool.not_eq_true'] at *
  cases h : PySem.W.dataLt c.data a.data with
  | false => rfl
  | true =>
    have h3 : PySem.W.dataLt c.data b.data = true ∨ PySem.W.dataLt b.data a.data = true := PyProof.Rows.lex_negTrans _ _ _ h
    rcases h3 with q | q
    · rw [q] at h2
      cases h2
    · rw [q] at h1
      cases h1
theorem leK_total (a b : NestedKey) : (leK a b || leK b a) = true := by
  rw [leK_eq, leK_eq]
  cases h : PySem.W.dataLt b.data a.data with
  | false => rfl
  | true =>
    cases g : PySem.W.dataLt a.data b.data with
    | false => rfl
    | true =>
      have h3 : PySem.W.dataLt b.data b.data = true := PyProof.Rows.lex_trans _ _ _ h g
      have h4 : PySem.W.dataLt b.data b.data = false := PyProof.Rows.lex_irrefl _
      rw [h4] at h3
      cases h3
mutual
theorem toks_key : ∀ (p q : NestedKey) (a b : List (Int ⊕ List Nat)), DN.intKey p = true → DN.intKey q = true → PySem.W.alike p.data q.data = true → PySem.W.keyToks p.data ++ a = PySem.W.keyToks q.data ++ b → p = q ∧ a = b
  | .num i, .num j, a, b, _, _, _, h => by
    have h : Sum.inl i :: a = Sum.inl j :: b := h
    simp only [List.cons.injEq, Sum.inl.injEq] at h
    exact ⟨by rw [h.1], h.2⟩
  | .tup ks, .tup js, a, b, hp, hq, al, h => by
    obtain ⟨e1, e2⟩ := toks_keys ks js a b hp hq al h
    exact ⟨by rw [e1], e2⟩
  | .num _, .tup _, _, _, _, _, al, _ => nomatch al
  | .tup _, .num _, _, _, _, _, al, _ => nomatch al
  | .none, _, _, _, hp, _, _, _ => nomatch hp
  | .text _, _, _, _, hp, _, _, _ => nomatch hp
  | .num _, .none, _, _, _, hq, _, _ => nomatch hq
  | .num _, .text _, _, _, _, hq, _, _ => nomatch hq
  | .tup _, .none, _, _, _, hq, _, _ => nomatch hq
  | .tup _, .text _, _, _, _, hq, _, _ => nomatch hq
theorem toks_keys : ∀ (ps qs : List NestedKey) (a b : List (Int ⊕ List Nat)), DN.intKeys ps = true → DN.intKeys qs = true → PySem.W.alikeAll (NestedKey.datas ps) (NestedKey.datas qs) = true → PySem.W.keyToksAll (NestedKey.datas ps) ++ a = PySem.W.keyToksAll (NestedKey.datas qs) ++ b → ps = qs ∧ a = b
  | [], [], a, b, _, _, _, h => by
    have h : Sum.inl 0 :: a = Sum.inl 0 :: b := h
    exact ⟨rfl, (List.cons.inj h).2⟩
  | [], q :: qs, a, b, _, _, _, h => by
    have h : Sum.inl (0 : Int) :: a = Sum.inl (1 : Int) :: (PySem.W.keyToks q.data ++ PySem.W.keyToksAll (NestedKey.datas qs) ++ b) := h
    have := (List.cons.inj h).1
    simp at this
  | p :: ps, [], a, b, _, _, _, h => by
    have h : Sum.inl (1 : Int) :: (PySem.W.keyToks p.data ++ PySem.W.keyToksAll (NestedKey.datas ps) ++ a) = Sum.inl (0 : Int) :: b := h
    have := (List.cons.inj h).1
    simp at this
  | p :: ps, q :: qs, a, b, hp, hq, al, h => by
    obtain ⟨p1, p2⟩ := Bool.and_eq_true_iff.mp (show (DN.intKey p && DN.intKeys ps) = true from hp)
    obtain ⟨q1, q2⟩ := Bool.and_eq_true_iff.mp (show (DN.intKey q && DN.intKeys qs) = true from hq)
    obtain ⟨l1, l2⟩ := PySem.W.alike_all_cons (x := p.data) (y := q.data) (xs := NestedKey.datas ps) (ys := NestedKey.datas qs) al
    have h : Sum.inl (1 : Int) :: (PySem.W.keyToks p.data ++ PySem.W.keyToksAll (NestedKey.datas ps) ++ a) = Sum.inl (1 : Int) :: (PySem.W.keyToks q.data ++ PySem.W.keyToksAll (NestedKey.datas qs) ++ b) := h
    have h := (List.cons.inj h).2
    rw [List.append_assoc, List.append_assoc] at h
    obtain ⟨e1, e2⟩ := toks_key p q _ _ p1 q1 l1 h
    obtain ⟨e3, e4⟩ := toks_keys ps qs a b p2 q2 l2 e2
    exact ⟨by rw [e1, e3], e4⟩
end
theorem leK_anti {a b : NestedKey} (ha : DN.intKey a = true) (hb : DN.intKey b = true) (al : PySem.W.alike a.data b.data = true) (h1 : leK a b = true) (h2 : leK b a = true) : a = b := by
  rw [leK_eq, Bool.not_eq_true'] at h1 h2
  have e : PySem.W.keyToks a.data = PySem.W.keyToks b.data := PyProof.Rows.lex_total _ _ h2 h1
  exact (toks_key a b [] [] ha hb al (by rw [List.append_nil, List.append_nil]; exact e)).1
def ddk : List NestedKey → List NestedKey
  | [] => []
  | a :: l => if a ∈ l then ddk l else a :: ddk l
theorem mem_ddk {x : NestedKey} : ∀ {l : List NestedKey}, x ∈ ddk l ↔ x ∈ l
  | [] => Iff.rfl
  | a :: l => by
    unfold ddk
    split
    · rename_i h
      rw [mem_ddk (l := l), List.mem_cons]
      exact ⟨.inr, fun q => q.elim (fun e => e ▸ h) id⟩
    · rw [List.mem_cons, List.mem_cons, mem_ddk (l := l)]
theorem nodup_ddk : ∀ l : List NestedKey, (ddk l).Nodup
  | [] => List.nodup_nil
  | a :: l => by
    unfold ddk
    split
    · exact nodup_ddk l
    · rename_i h
      exact List.nodup_cons.mpr ⟨fun q => h (mem_ddk.mp q), nodup_ddk l⟩
theorem nodup_in {α : Type} [DecidableEq α] {l m : List α} (h1 : l.Nodup) (h2 : m.Nodup) (h : ∀ x ∈ l, x ∈ m) : l.length ≤ m.length := by
  have e := same_len h1 (h2.filter fun x => decide (x ∈ l)) fun x => by
    rw [List.mem_filter, decide_eq_true_eq]
    exact ⟨fun hx => ⟨h x hx, hx⟩, fun hx => hx.2⟩
  have := List.length_filter_le (fun x => decide (x ∈ l)) m
  omega
/-- the keys of ks, each once, ascending -/
def setK (ks : List NestedKey) : List NestedKey := (ddk ks).mergeSort leK
theorem mem_setK {x : NestedKey} {ks : List NestedKey} : x ∈ setK ks ↔ x ∈ ks := ((List.mergeSort_perm (ddk ks) leK).mem_iff).trans mem_ddk
def okK (ks : List NestedKey) : Bool := (ks.all fun p => ks.all fun q => PySem.W.alike p.data q.data) && ks.all fun p => match p with
  | .tup (_ :: _) => decide (p.depth ≤ 8)
  | _ => false
def ddi : List Int → List Int
  | [] => []
  | a :: l => if a ∈ l then ddi l else a :: ddi l
theorem mem_ddi {x : Int} : ∀ {l : List Int}, x ∈ ddi l ↔ x ∈ l
  | [] => Iff.rfl
  | a :: l => by
    unfold ddi
    split
    · rename_i h
      rw [mem_ddi (l := l), List.mem_cons]
      exact ⟨.inr, fun q => q.elim (fun e => e ▸ h) id⟩
    · rw [List.mem_cons, List.mem_cons, mem_ddi (l := l)]
theorem nodup_ddi : ∀ l : List Int, (ddi l).Nodup
  | [] => List.nodup_nil
  | a :: l => by
    unfold ddi
    split
    · exact nodup_ddi l
    · rename_i h
      exact List.nodup_cons.mpr ⟨fun q => h (mem_ddi.mp q), nodup_ddi l⟩
/-- sorted(set(x)) -/
def fSortK (fe : FE) : FE := fun env S => (fe env S).bind fun p => (lstOf p.2 p.1).bind fun ds => match asInts ds with
  | some ns => if ns.length < 64 then some (.lst ((isort leI (ddi ns)).map .int), p.2) else none
  | none => (toNKs ds).bind fun ks => if okK ks = true ∧ (ddk ks).length ≤ 62 then some (.lst ((setK ks).map nkD), p.2) else none
section
variable {K : PySem.W.Frag} {ct : CT} {m : List Addr} {F : Hp}
/-- elements that are keys, each at its place -/
theorem keys_els : ∀ {ds : List D} {ks : List NestedKey} {vs : List V}, Reps K ct m F ds vs → toNKs ds = some ks → okK ks = true → ∃ es : List SN.El, vs = es.map (fun e => V.ref e.1) ∧ es.map (·.2) = ks ∧ ∀ e ∈ es, DN.KeyOk K F e.2 e.1 := by
  intro ds ks vs r h ok
  have ok2 := (Bool.and_eq_true_iff.mp ok).2
  clear ok
  induction ds generalizing ks vs with
  | nil =>
    have h : some [] = some ks := h
    cases h
    have r : vs = [] := r
    exact ⟨[], r, rfl, nofun⟩
  | cons d ds ih =>
    obtain ⟨k, h1, h⟩ := bind_some (show (toNK d).bind _ = some ks from h)
    obtain ⟨ks', h2, rfl⟩ := map_some h
    obtain ⟨v, vs', e1, e2, e3⟩ := r
    rw [List.all_cons, Bool.and_eq_true] at ok2
    obtain ⟨es, q1, q2, q3⟩ := ih e3 h2 ok2.2
    have vk := Rep.nk d k v e2 h1
    have hk := ok2.1
    cases vk with
    | num i => cases hk
    | @tup a js us g1 g2 =>
      have hd : (NestedKey.tup js).depth ≤ 8 := by
        cases js with
        | nil => cases hk
        | cons j js => exact of_decide_eq_true hk
      refine ⟨(a, .tup js) :: es, by rw [e1, q1]; rfl, by rw [List.map_cons, q2], fun e he => ?_⟩
      rcases List.mem_cons.mp he with rfl | he
      · exact ⟨toNK_int d _ h1, hd, .tup g1 g2⟩
      · exact q3 e he
theorem els_reps : ∀ (L : List SN.El), (∀ e ∈ L, DN.KeyOk K F e.2 e.1) → Reps K ct m F (L.map fun e => nkD e.2) (L.map fun e => V.ref e.1)
  | [], _ => rfl
  | e :: L, h => ⟨_, _, rfl, VKey.rep _ _ (h e (List.mem_cons_self ..)).2.2, els_reps L fun y hy => h y (List.mem_cons_of_mem _ hy)⟩
end
/-- sorted keys are told by their set -/
theorem sort_uniq {ks : List NestedKey} {L L1 : List SN.El} (ok : okK ks = true) (ik : ∀ k ∈ ks, DN.intKey k = true) (h1 : ∀ e ∈ L, e.2 ∈ ks) (h2 : ∀ k ∈ ks, k ∈ L.map (·.2)) (nd : (L.map (·.2)).Nodup) (pm : L1.Perm L) :
    (L1.mergeSort (PySem.W.dataLe false fun z => z.2.data)).map (·.2) = setK ks := by
  have al := (Bool.and_eq_true_iff.mp ok).1
  have e : (L1.mergeSort (PySem.W.dataLe false fun z => z.2.data)).map (·.2) = (L1.map (·.2)).mergeSort leK := (List.map_mergeSort (r := PySem.W.dataLe false fun z : SN.El => z.2.data) (f := fun z : SN.El => z.2) (s := leK) (l := L1) (fun _ _ _ _ => rfl))
  rw [e]
  have p1 : ((L1.map (·.2)).mergeSort leK).Perm (setK ks) := by
    refine (List.mergeSort_perm _ _).trans (((pm.map _).trans ?_).trans (List.mergeSort_perm _ _).symm)
    refine (List.perm_ext_iff_of_nodup nd (nodup_ddk ks)).mpr fun k => ?_
    rw [mem_ddk]
    exact ⟨fun hk => by
      obtain ⟨z, hz, rfl⟩ := List.mem_map.mp hk
      exact h1 z hz, h2 k⟩
  refine p1.eq_of_pairwise (le := fun a b => leK a b = true) (fun a b ha hb g1 g2 => ?_) (List.pairwise_mergeSort leK_trans leK_total _) (List.pairwise_mergeSort leK_trans leK_total _)
  have ha := mem_setK.mp (p1.mem_iff.mp ha)
  have hb := mem_setK.mp hb
  exact leK_anti (ik a ha) (ik b hb) (List.all_eq_true.mp (List.all_eq_true.mp al a ha) b hb) g1 g2
theorem toNKs_ik {ds : List D} {ks : List NestedKey} (h : toNKs ds = some ks) : ∀ k ∈ ks, DN.intKey k = true := by
  have := toNKs_int ds ks h
  clear h
  induction ks with
  | nil => intro k hk; cases hk
  | cons x ks ih =>
    obtain ⟨h1, h2⟩ := Bool.and_eq_true_iff.mp (show (DN.intKey x && DN.intKeys ks) = true from this)
    intro k hk
    rcases List.mem_cons.mp hk with rfl | hk
    · exact h1
    · exact ih h2 k hk
section
variable {ct : CT} {X : Cx} {k : Nat} {e : Expr} {fe : FE} {p p2 q pos : Pos}
theorem se_sortK (hc : X.calm = true) (hr : RoomG k X.A) (hg : Gl X "sorted") (hm : X.mg "sorted" = none) (hg2 : Gl X "set") (hm2 : X.mg "set" = none) (he : SE ct X e fe)
    (hs : starEach [e] X.env = (false, eval e X.env) :: starEach [] X.env := by rfl) (hpl : (backTo q (starEach [] X.env)).any (·.1) = false := by rfl)
    (hs2 : starEach [.Call (.Name "set" p2) [e] [] q] X.env = (false, eval (.Call (.Name "set" p2) [e] [] q) X.env) :: starEach [] X.env := by rfl) (hpl2 : (backTo pos (starEach [] X.env)).any (·.1) = false := by rfl) :
    SE ct X (.Call (.Name "sorted" p) [.Call (.Name "set" p2) [e] [] q] [] pos) (fSortK fe) := by
  obtain ⟨ta, pa, ra⟩ := he
  have p1 := pe_callTy (pos := q) (p := p2) ((SN.cr_setI hc hr.units).or (SN.cr_setK hc hr.units)) hg2 hm2 (by decide +kernel) (pa_cons pa pa_nil hs) (by decide) (by decide) hs hpl
  refine ⟨_, pe_callB (id := "sorted") ((cr_sortedSet hc).or (SN.cr_sortK hc hr.units)) hg hm (by decide +kernel) (pa_cons p1 pa_nil hs2) (by decide) (by decide) hs2 hpl2, fun m F S σ H env d S' Q s en h post => ?_⟩
  obtain ⟨⟨z, S1⟩, h1, h⟩ := bind_some h
  obtain ⟨ds, h2, h⟩ := bind_some h
  refine ra m F S σ H env _ _ _ s en h1 fun m1 F1 v H1 x1 s1 r1 => ?_
  obtain ⟨l, vs, e1, e2, e3⟩ := lst_at s1 r1 h2
  subst e1
  split at h
  · rename_i ns h3
    split at h
    case isFalse => cases h
    rename_i hlen
    cases h
    have hv := e3.asInts h3
    subst hv
    refine Or.inl ⟨l, ns, rfl, SqL.of e2, by omega, fun a c ha hc => ?_⟩
    obtain ⟨s2, x2⟩ := s1.frozen ha (SetO X.w a (fun j => decide (j ∈ ns)) c)
    refine Or.inl ⟨a, _, c, rfl, upd_same, by omega, fun ms q pw mem hml hq => ?_⟩
    have em : ms = isort leI (ddi ns) := by
      have a2 : (isort leI (ddi ns)).Pairwise (· < ·) := by
        have nd := (isort_perm leI (ddi ns)).nodup_iff.mpr (nodup_ddi ns)
        refine (List.Pairwise.and (isort_sorted tot_leI (ddi ns)) nd).imp fun {x y} hxy => ?_
        have h1 : x ≤ y := of_decide_eq_true hxy.1
        have h2 : x ≠ y := hxy.2
        omega
      have p1 : ms.Perm (isort leI (ddi ns)) := by
        refine (List.perm_ext_iff_of_nodup (pw.imp fun {x y} h => by omega) (a2.imp fun {x y} h => by omega)).mpr fun x => ?_
        rw [mem, decide_eq_true_eq, (isort_perm leI (ddi ns)).mem_iff, mem_ddi]
      exact p1.eq_of_pairwise (le := fun a b => a < b) (fun a b _ _ g1 g2 => by omega) pw a2
    subst em
    obtain ⟨s3, x3⟩ := s2.frozen hq (.lst ((isort leI (ddi ns)).map V.int))
    exact post m1 _ (.ref q) _ ((x1.trans x2).trans x3) s3 ⟨q, _, rfl, upd_same, Reps.ints _⟩
  · obtain ⟨ks, h4, h⟩ := bind_some h
    split at h
    case isFalse => cases h
    rename_i hok
    cases h
    obtain ⟨es, q1, q2, q3⟩ := keys_els e3 h4 hok.1
    subst q1
    have ik := toNKs_ik h4
    refine Or.inr ⟨l, es, rfl, SqL.of e2, fun e he => KeyOk.mono (q3 e he) s1.same, fun L nd sub => ?_, fun a L ha sub all nd => ?_⟩
    · have := nodup_in nd (nodup_ddk ks) fun x hx => by
        obtain ⟨z, hz, rfl⟩ := List.mem_map.mp hx
        rw [mem_ddk, ← q2]
        exact List.mem_map.mpr ⟨z, sub z hz, rfl⟩
      rw [List.length_map] at this
      omega
    · obtain ⟨s2, x2⟩ := s1.frozen ha (SN.SO X.w a L)
      have inn : ∀ e ∈ L, e.2 ∈ ks := fun e he => by
        rw [← q2]
        exact List.mem_map.mpr ⟨e, sub e he, rfl⟩
      have al := (Bool.and_eq_true_iff.mp hok.1).1
      have al2 := (Bool.and_eq_true_iff.mp hok.1).2
      refine Or.inr ⟨a, L, rfl, upd_same, fun e he => KeyOk.mono (KeyOk.mono (q3 e (sub e he)) x2.same) s2.same, fun d1 g1 d2 g2 => ?_, fun L1 pL => ?_, fun L1 q pL hq => ?_⟩
      · obtain ⟨e1, f1, rfl⟩ := List.mem_map.mp g1
        obtain ⟨e2, f2, rfl⟩ := List.mem_map.mp g2
        exact List.all_eq_true.mp (List.all_eq_true.mp al _ (inn e1 f1)) _ (inn e2 f2)
      · refine .inl fun d1 g1 => ?_
        obtain ⟨e1, f1, rfl⟩ := List.mem_map.mp g1
        have := List.all_eq_true.mp al2 _ (inn e1 (pL.mem_iff.mp f1))
        split at this
        · rename_i x xs e
          rw [e]
          exact ⟨_, _, rfl⟩
        · cases this
      · obtain ⟨s3, x3⟩ := s2.frozen hq (.lst ((L1.mergeSort (PySem.W.dataLe false fun z => z.2.data)).map fun z => V.ref z.1))
        have eu := sort_uniq hok.1 ik inn (fun k hk => by
          rw [← q2] at hk
          obtain ⟨z, hz, rfl⟩ := List.mem_map.mp hk
          exact all z hz) nd pL
        refine post m1 _ (.ref q) _ ((x1.trans x2).trans x3) s3 ⟨q, _, rfl, upd_same, ?_⟩
        have rp := els_reps (K := X.K) (ct := ct) (m := m1) (F := upd (upd F1 a (SN.SO X.w a L)) q (.lst ((L1.mergeSort (PySem.W.dataLe false fun z => z.2.data)).map fun z => V.ref z.1))) (L1.mergeSort (PySem.W.dataLe false fun z => z.2.data)) fun e he => KeyOk.mono (KeyOk.mono (q3 e (sub e (pL.mem_iff.mp ((List.mergeSort_perm _ _).mem_iff.mp he)))) x2.same) x3.same
        have er : ((L1.mergeSort (PySem.W.dataLe false fun z => z.2.data)).map fun e => nkD e.2) = (setK ks).map nkD := by
          rw [← eu, List.map_map]
          rfl
        rw [er] at rp
        exact rp
end
end DL
namespace DL
open PySem PySem.Spec PyProof.Rows L2
mutual
def toNKT : D → Option NestedKey
  | .non => some .none
  | .int i => some (.num i)
  | .str x => some (.text x)
  | .tup ds => (toNKTs ds).map NestedKey.tup
  | _ => none
def toNKTs : List D → Option (List NestedKey)
  | [] => some []
  | d :: ds => (toNKT d).bind fun k => (toNKTs ds).map fun ks => k :: ks
end
section
variable {K : PySem.W.Frag} {ct : CT} {m : List Addr} {F : Hp}
mutual
theorem Rep.nkT : ∀ (d : D) (k : NestedKey) (v : V), Rep K ct m F d v → toNKT d = some k → DN.VKeyT K F k v
  | .non, k, v, r, h => by
    have h : some NestedKey.none = some k := h
    cases h
    rw [show v = .non from r]
    exact .none
  | .int i, k, v, r, h => by
    have h : some (NestedKey.num i) = some k := h
    cases h
    rw [show v = .int i from r]
    exact .num i
  | .str x, k, v, r, h => by
    have h : some (NestedKey.text x) = some k := h
    cases h
    rw [show v = .str x from r]
    exact .text x
  | .tup ds, k, v, r, h => by
    obtain ⟨ks, h1, rfl⟩ := map_some (show (toNKTs ds).map NestedKey.tup = some k from h)
    obtain ⟨a, vs, e1, e2, e3⟩ := r
    rw [e1]
    exact .tup e2 (Reps.nkT ds ks vs e3 h1)
  | .bl _, _, _, _, h => nomatch h
  | .lst _, _, _, _, h => nomatch h
  | .dct _ _, _, _, _, h => nomatch h
  | .scr _, _, _, _, h => nomatch h
  | .ref _, _, _, _, h => nomatch h
  | .obj _ _ _, _, _, _, h => nomatch h
  | .exc _ _ _, _, _, _, h => nomatch h
  | .typ _, _, _, _, h => nomatch h
theorem Reps.nkT : ∀ (ds : List D) (ks : List NestedKey) (vs : List V), Reps K ct m F ds vs → toNKTs ds = some ks → DN.VKeysT K F ks vs
  | [], ks, vs, r, h => by
    have h : some [] = some ks := h
    cases h
    rw [show vs = [] from r]
    exact .nil
  | d :: ds, ks, vs, r, h => by
    obtain ⟨k, h1, h⟩ := bind_some (show (toNKT d).bind _ = some ks from h)
    obtain ⟨q, h2, rfl⟩ := map_some h
    obtain ⟨v, r', e1, e2, e3⟩ := r
    rw [e1]
    exact .cons (Rep.nkT d k v e2 h1) (Reps.nkT ds q r' e3 h2)
end
/-- an entry, as data and in the heap -/
abbrev ET (K : PySem.W.Frag) (ct : CT) (m : List Addr) (F : Hp) : NestedKey × D → DN.Ent → Prop := fun p q => p.1 = q.1 ∧ DN.KeyOkT K F p.1 q.2.1 ∧ ∃ v, RelV v q.2.2 ∧ Rep K ct m F p.2 v
theorem et_any {kvs : List (NestedKey × D)} {xs : List DN.Ent} (r : Paired (ET K ct m F) kvs xs) (k : NestedKey) : (kvs.any fun kv => decide (kv.1 = k)) = (atKey xs k).isSome := by
  induction r with
  | nil => rfl
  | @cons p q l1 l2 h t ih =>
    rw [List.any_cons, ih]
    unfold atKey
    rw [List.find?_cons, ← h.1]
    by_cases e : p.1 = k
    · rw [decide_eq_true e]
      rfl
    · rw [decide_eq_false e]
      rfl
theorem et_val {kvs : List (NestedKey × D)} {xs : List DN.Ent} (r : Paired (ET K ct m F) kvs xs) (k : NestedKey) {d : D} (h : valNK kvs k = some d) : ∃ p, atKey xs k = some p ∧ ∃ v, RelV v p.2 ∧ Rep K ct m F d v := by
  induction r with
  | nil => cases h
  | @cons p q l1 l2 hh t ih =>
    unfold valNK at h
    unfold atKey
    rw [List.find?_cons] at h ⊢
    rw [← hh.1]
    by_cases e : p.1 = k
    · rw [decide_eq_true e] at h ⊢
      cases h
      exact ⟨_, rfl, hh.2.2⟩
    · rw [decide_eq_false e] at h ⊢
      exact ih h
theorem et_put {kvs : List (NestedKey × D)} {xs : List DN.Ent} (r : Paired (ET K ct m F) kvs xs) {k : NestedKey} {c : Addr} {d : D} {v : V} {u : Value} (hk : DN.KeyOkT K F k c) (hv : RelV v u) (hr : Rep K ct m F d v) : Paired (ET K ct m F) (putNK kvs k d) (storedH xs k c u) := by
  unfold putNK storedH
  rw [et_any r k]
  split
  · rename_i hyes
    clear hyes
    induction r with
    | nil => exact .nil
    | @cons p q l1 l2 h t ih =>
      refine .cons ?_ ih
      dsimp only
      unfold putAt
      by_cases e : p.1 = k
      · rw [if_pos e, if_pos (h.1 ▸ e)]
        exact ⟨h.1, h.2.1, v, hv, hr⟩
      · rw [if_neg e, if_neg (h.1 ▸ e)]
        exact h
  · exact Paired.snoc r ⟨rfl, hk, v, hv, hr⟩
theorem et_keys {kvs : List (NestedKey × D)} {xs : List DN.Ent} (r : Paired (ET K ct m F) kvs xs) : ∀ x ∈ xs, DN.KeyOkT K F x.1 x.2.1 := by
  induction r with
  | nil => intro x hx; exact nomatch hx
  | @cons p q l1 l2 h t ih =>
    intro x hx
    rcases List.mem_cons.mp hx with rfl | hx
    · exact h.1 ▸ h.2.1
    · exact ih x hx
theorem KeyOkT.mono {F' : Hp} {k : NestedKey} {a : Addr} (h : DN.KeyOkT K F k a) (e : Same F F') : DN.KeyOkT K F' k a := ⟨h.1, DN.VKeyT.mono e _ _ h.2⟩
end
def fNewT : FE := fun _ S => some (.ref S.length, S ++ [.nt []])
def gSetT : D → D → D → Sto → Option Sto
  | .ref j, i, v, S => match S[j]?, toNKT i with
    | some (.nt kvs), some (.tup ks) => if kvs.length ≤ 1000000 ∧ (NestedKey.tup ks).depth ≤ 8 then some (S.set j (.nt (putNK kvs (.tup ks) v))) else none
    | _, _ => none
  | _, _, _, _ => none
def gAtT : D → D → Sto → Option (D × Sto)
  | .ref j, i, S => match S[j]?, toNKT i with
    | some (.nt kvs), some (.tup ks) => if (NestedKey.tup ks).depth ≤ 8 then (valNK kvs (.tup ks)).map fun d => (d, S) else none
    | _, _ => none
  | _, _, _ => none
section
variable {ct : CT} {X : Cx} {pos : Pos}
theorem se_newT (hc : DN.HC ct X.w) : SE ct X (.Dict [] [] pos) fNewT := ⟨_, DN.pe_ndnew, fun m F S σ H env d S' Q s en h p => by
  cases h
  intro q hq
  obtain ⟨s2, x2⟩ := s.fresh hq (o := DN.NDO X.w q []) (c := .nt []) ⟨X.w, q, [], rfl, hc, .nil⟩
  exact p _ _ (.ref q) _ x2 s2 ⟨q, by rw [← s.len]; simp, rfl⟩⟩
theorem set_ndT {k : Nat} (hr : RoomG k X.A) : PSet X (DN.rSetT X.K X.w) := DN.set_ndT (by have := hr.room.un; omega)
theorem nt_cell {m : List Addr} {F H : Hp} {S : Sto} {j : Nat} {kvs : List (NestedKey × D)} {v : V} (s : Sim X.K ct m F S H) (r : Rep X.K ct m F (.ref j) v) (h : S[j]? = some (.nt kvs)) : ∃ a w b xs, v = .ref a ∧ m[j]? = some a ∧ H a = some (DN.NDO w b xs) ∧ DN.HC ct w ∧ Paired (ET X.K ct m F) kvs xs := by
  obtain ⟨a, e1, e2⟩ := r
  obtain ⟨c, hc, cr⟩ := s.at e1
  rw [h] at hc
  cases hc
  obtain ⟨w, b, xs, q1, q3, q2⟩ := cr
  exact ⟨a, w, b, xs, e2, e1, q1, q3, q2⟩
theorem nkT_ref {m : List Addr} {F H : Hp} {S : Sto} {i : D} {v : V} {ks : List NestedKey} (s : Sim X.K ct m F S H) (r : Rep X.K ct m F i v) (h : toNKT i = some (.tup ks)) (hd : (NestedKey.tup ks).depth ≤ 8) : ∃ c, v = .ref c ∧ DN.KeyOkT X.K F (.tup ks) c := by
  have q := Rep.nkT i _ v r h
  cases q with
  | tup h1 h2 => exact ⟨_, rfl, hd, .tup h1 h2⟩
theorem sd_ndT (hw : DN.HC ct X.w) : SetD ct X.K (DN.rSetT X.K X.w) gSetT := by
  intro m F S H o i v d1 d2 d3 S' Q s r1 r2 r3 h q
  cases d1 with
  | ref j =>
    replace h : (match S[j]?, toNKT d2 with
      | some (.nt kvs), some (.tup ks) => if kvs.length ≤ 1000000 ∧ (NestedKey.tup ks).depth ≤ 8 then some (S.set j (.nt (putNK kvs (.tup ks) d3))) else none
      | _, _ => none) = some S' := h
    split at h
    case h_2 => cases h
    rename_i kvs ks h1 h2
    split at h
    case isFalse => cases h
    rename_i hl
    cases h
    obtain ⟨a, w', b, xs, rfl, e1, e2, e4, e3⟩ := nt_cell s r1 h1
    obtain ⟨c, rfl, hk⟩ := nkT_ref s r2 h2 hl.2
    have hlen := Paired.length e3
    refine ⟨a, b, w', xs, .tup ks, c, rfl, rfl, hw.eq e4, e2, fun x hx => KeyOkT.mono (et_keys e3 x hx) s.same, KeyOkT.mono hk s.same, by rw [sizeLine_eq]; omega, fun u hu => ?_⟩
    obtain ⟨s2, x2⟩ := s.change e1 (o := DN.NDO X.w a (storedH xs (.tup ks) c u)) (c := .nt (putNK kvs (.tup ks) d3)) ⟨X.w, a, _, rfl, hw, et_put e3 hk hu r3⟩
    exact q _ _ _ x2 s2
  | _ => cases h
theorem ix_ndT {k : Nat} (hr : RoomG k X.A) : IxR X (DN.rAtT X.K X.w) := DN.ix_ndT (by have := hr.room.un; omega)
theorem od_ndT (hw : DN.HC ct X.w) : OpD ct X.K (DN.rAtT X.K X.w) gAtT := by
  intro m F S H x y dx dy d S' Q s rx ry h p
  cases dx with
  | ref j =>
    replace h : (match S[j]?, toNKT dy with
      | some (.nt kvs), some (.tup ks) => if (NestedKey.tup ks).depth ≤ 8 then (valNK kvs (.tup ks)).map fun d => (d, S) else none
      | _, _ => none) = some (d, S') := h
    split at h
    case h_2 => cases h
    rename_i kvs ks h1 h2
    split at h
    case isFalse => cases h
    rename_i hd
    obtain ⟨d0, h3, h4⟩ := map_some h
    cases h4
    obtain ⟨a, w', b, xs, rfl, e1, e2, e4, e3⟩ := nt_cell s rx h1
    obtain ⟨c, rfl, hk⟩ := nkT_ref s ry h2 hd
    obtain ⟨pp, g1, v, g2, g3⟩ := et_val e3 _ h3
    exact ⟨a, b, w', xs, .tup ks, c, pp, rfl, rfl, hw.eq e4, e2, fun x hx => KeyOkT.mono (et_keys e3 x hx) s.same, KeyOkT.mono hk s.same, g1, v, g2, p.now s g3⟩
  | _ => cases h
end
def hct (w : World) (c : Str) : Option Addr := if c.cps[0]? = some 35 then some (DN.encI (hashStr w ⟨c.cps.extract 1 c.cps.size⟩)) else none
theorem hq_tail (x : Str) : (⟨(DN.hq x).cps.extract 1 (DN.hq x).cps.size⟩ : Str) = x := by
  cases x with
  | mk a =>
    show Str.mk ((#[35] ++ a).extract 1 (#[35] ++ a).size) = _
    congr 1
    simp
theorem hq_fst (x : Str) : (DN.hq x).cps[0]? = some 35 := by
  show (#[35] ++ x.cps)[0]? = some 35
  rw [Array.getElem?_append_left (by decide)]
  rfl
theorem hct_hq (w : World) (x : Str) : hct w (DN.hq x) = some (DN.encI (hashStr w x)) := by
  unfold hct
  rw [hq_tail]
  refine if_pos ?_
  exact hq_fst x
theorem hq_ne {x s : Str} (h : ¬ s.cps[0]? = some 35) : DN.hq x ≠ s := fun e => h (by
  rw [← e]
  exact hq_fst x)
end DL
namespace LW
open PySem PySem.Spec PyProof.Rows L2 DL
structure Txt (w : World) (K : PySem.W.Frag) (mg : Str → Option Value) (ct : CT) (C_Thing : Addr) : Prop where
  hc : DN.HC ct w
  n_abs : mg "abs" = none
  n_all : mg "all" = none
  n_bool : mg "bool" = none
  n_dict : mg "dict" = none
  n_divmod : mg "divmod" = none
  n_enumerate : mg "enumerate" = none
  n_int : mg "int" = none
  n_isinstance : mg "isinstance" = none
  n_len : mg "len" = none
  n_list : mg "list" = none
  n_max : mg "max" = none
  n_min : mg "min" = none
  n_range : mg "range" = none
  n_set : mg "set" = none
  n_sorted : mg "sorted" = none
  n_str : mg "str" = none
  n_tuple : mg "tuple" = none
  c_MOST_ASKED : CG mg "MOST_ASKED" (.int 10000000000000000000000000000000000000000)
  k_FEW : KG w K mg "FEW" tab_FEW
  k_LEAST : KG w K mg "LEAST" tab_LEAST
  t_PLAIN : TG K mg "PLAIN" [.str "odd ring", .str "even ring"]
  tk_FEW : TK w K mg "FEW" tab_FEW
  kc_Thing : Klass K ct "Thing" C_Thing
  g_Thing : mg "Thing" = some (.ref C_Thing)
  ic_Thing : C8.InsC K C_Thing
  oc_Thing : OwnC K C_Thing
  na_Thing_many : NoAttr K C_Thing "many"
  na_Thing_word : NoAttr K C_Thing "word"
  d_is_integer : DefAt K mg "is_integer" (topS 13) ["value"]
  d_is_between : DefAt K mg "is_between" (topS 14) ["value", "least", "most"]
  i_Thing : InitAt K C_Thing "Thing.__init__" (inClass (topS 33) 0) ["self", "kind", "size"] [.non]
  p_Thing_kind : PropAt K C_Thing "kind" "Thing.kind" (inClass (topS 33) 2) ["self"]
  p_Thing_size : PropAt K C_Thing "size" "Thing.size" (inClass (topS 33) 3) ["self"]
  d_check_thing : DefAt K mg "check_thing" (topS 34) ["thing"]
  d_follows_from_core : DefAt K mg "follows_from_core" (topS 38) ["number"]
  d_follows_from_crowd : DefAt K mg "follows_from_crowd" (topS 39) ["number"]
  d_follows_from_ring : DefAt K mg "follows_from_ring" (topS 40) ["kind", "number"]
  d_all_from : DefAt K mg "all_from" (topS 41) ["kind", "number"]
  d_is_following : DefAt K mg "is_following" (topS 42) ["thing", "other"]
  d_follows : DefAt K mg "follows" (topS 43) ["thing", "other"] [(["other", "thing"], [1, 0])]
  d__law_purse : DefAt K mg "_law_purse" (topS 45) ["_law_script", "_law_spot"]
  d__law_draw : DefAt K mg "_law_draw" (topS 46) ["_law_purse_here", "_law_many"]
  d__law_all : DefAt K mg "_law_all" (topS 47) ["_law_many"]
  d__law_ties : DefAt K mg "_law_ties" (topS 48) ["_law_purse_here", "_law_many"]
  d__law_tied : DefAt K mg "_law_tied" (topS 49) ["_law_ties_here", "_law_x", "_law_y"]
  d__law_subsets : DefAt K mg "_law_subsets" (topS 50) ["_law_row"]
  d__law_joined : DefAt K mg "_law_joined" (topS 51) ["_law_ties_here", "_law_left"]
  d__law_rows_of : DefAt K mg "_law_rows_of" (topS 52) ["_law_many", "_law_ties_here", "_law_count"]
  d__law_rings : DefAt K mg "_law_rings" (topS 53) ["_law_many", "_law_ties_here"]
  d__law_pairs_apart : DefAt K mg "_law_pairs_apart" (topS 54) ["_law_ties_here"]
  d__law_is_crowd : DefAt K mg "_law_is_crowd" (topS 58) ["_law_part", "_law_ties_here"]
  d__law_core : DefAt K mg "_law_core" (topS 56) ["_law_ties_here", "_law_people", "_law_k"]
  d__law_holds : DefAt K mg "_law_holds" (topS 55) ["_law_kind", "_law_k", "_law_many", "_law_ties_here"]
  d__law_things : DefAt K mg "_law_things" (topS 57) ["_law_most"]
  d__law_table : DefAt K mg "_law_table" (topS 59) ["_law_some"]
  d__law_party_right : DefAt K mg "_law_party_right" (topS 60) ["_law_some", "_law_table_here", "_law_many", "_law_bonds"]
  d__law_right : DefAt K mg "_law_right" (topS 61) ["_law_purse_here"]
  d_law : DefAt K mg "law" (topS 62) ["_law_script"]
variable {P : Program} {w : World} {K : PySem.W.Frag} {mg : Str → Option Value} {base : Heap} {ct : CT}
theorem sc_is_integer : FnScope ["value"] ["value"] (defScope s_is_integer) := ⟨rfl, rfl, rfl, by decide +kernel, rfl, by decide +kernel, by decide +kernel⟩
def b_is_integer : FS :=
  (sRet (fAnd (fIsi "int" (fVar 0)) (fNot (fIsi "bool" (fVar 0)))))
def d_is_integer : FD := runD 1 (b_is_integer)
theorem ok_is_integer {k : Nat} (T : Txt w K mg ct C_Thing) : Callee P w K mg base ct (k + 1) "is_integer" 1 (d_is_integer) :=
  callee_of T.d_is_integer sc_is_integer fun f cdv A outer s H E hr =>
    (sss_one (ss_ret (se_and (se_isi (by rfl) T.n_isinstance (se_var 0) (by rfl) T.n_int (by decide +kernel)) (se_one (se_not (se_isi (by rfl) T.n_isinstance (se_var 0) (by rfl) T.n_bool (by decide +kernel)))))))
theorem sc_is_between : FnScope ["value", "least", "most"] ["value", "least", "most"] (defScope s_is_between) := ⟨rfl, rfl, rfl, by decide +kernel, rfl, by decide +kernel, by decide +kernel⟩
def b_is_between (c_is_integer : FD) : FS :=
  (sRet (fAnd (fCall c_is_integer (fCons (fVar 0) fNil)) (fChain gLeX gLeX (fVar 1) (fVar 0) (fVar 2))))
def d_is_between (c_is_integer : FD) : FD := runD 3 (b_is_between c_is_integer)
theorem ok_is_between {c_is_integer : FD} {k : Nat} (T : Txt w K mg ct C_Thing) (C_is_integer : Callee P w K mg base ct k "is_integer" 1 c_is_integer) : Callee P w K mg base ct (k + 1) "is_between" 3 (d_is_between c_is_integer) :=
  callee_of T.d_is_between sc_is_between fun f cdv A outer s H E hr =>
    (sss_one (ss_ret (se_and (se_fn C_is_integer hr (by rfl) (sa_cons (se_var 0) sa_nil) (fCons_len (fun _ _ _ _ h => fNil_len h))) (se_one (se_chain (op_leX hr) od_leX (op_leX hr) od_leX (se_var 1) (se_var 0) (se_var 2))))))
theorem sc_Thing___init__ : FnScope ["self", "kind", "size"] ["self", "kind", "size"] (defScope s_Thing___init__) := ⟨rfl, rfl, rfl, by decide +kernel, rfl, by decide +kernel, by decide +kernel⟩
def b_Thing___init__ (c_is_between : FD) : FS :=
  (sSeq (sIf (tOrD (tNotD (fTest (fIsi "str" (fVar 1)))) (tAndD (fTest (fKIn true tab_LEAST (fVar 1))) (fTest (fBin (gInX true) (fVar 1) (fC (.tup [.str "odd ring", .str "even ring"])))))) sNever sSkip)
    (sSeq (sIf (tOrD (tAndD (fTest (fBin (gInX false) (fVar 1) (fC (.tup [.str "odd ring", .str "even ring"])))) (fTest (fBin gNotN (fVar 2) (fC .non)))) (tAndD (fTest (fKIn false tab_LEAST (fVar 1))) (tNotD (fTest (fCall c_is_between (fCons (fVar 2) (fCons (fKIx tab_LEAST (fVar 1)) (fCons (fC (.int 10000000000000000000000000000000000000000)) fNil)))))))) sNever sSkip)
    (sSeq (sFldD "Thing" "word" (fVar 0) (fVar 1))
    (sFldD "Thing" "many" (fVar 0) (fVar 2)))))
def d_Thing___init__ (c_is_between : FD) : FD := runD 3 (b_Thing___init__ c_is_between)
theorem ok_Thing___init__ {c_is_between : FD} {k : Nat} (T : Txt w K mg ct C_Thing) (C_is_between : Callee P w K mg base ct k "is_between" 3 c_is_between) : Initer P w K mg base ct (k + 1) "Thing" [.non] 3 (d_Thing___init__ c_is_between) :=
  initer_of T.kc_Thing T.g_Thing T.i_Thing sc_Thing___init__ fun f cdv A outer s H E hr =>
    (sss_cons (ss_if (SW.st (sw_or (st_not (st_val (se_isi (by rfl) T.n_isinstance (se_var 1) (by rfl) T.n_str (by decide +kernel)))) (sw_or1 (SW.st (sw_and (st_knotinG T.k_LEAST (by rfl) (se_var 1)) (sw_and1 (st_cmp (op_notInX hr) od_notInX (se_var 1) (se_globT (ds := [.str "odd ring", .str "even ring"]) (vs := [.str "odd ring", .str "even ring"]) (by rfl) T.t_PLAIN (fun _ _ => ⟨_, _, rfl, rfl, ⟨_, _, rfl, rfl, rfl⟩⟩)) (by rfl)))))))) (sss_one ss_never) sss_nil)
      (sss_cons (ss_if (SW.st (sw_or (SW.st (sw_and (st_cmp (op_inX hr) od_inX (se_var 1) (se_globT (ds := [.str "odd ring", .str "even ring"]) (vs := [.str "odd ring", .str "even ring"]) (by rfl) T.t_PLAIN (fun _ _ => ⟨_, _, rfl, rfl, ⟨_, _, rfl, rfl, rfl⟩⟩)) (by rfl)) (sw_and1 (st_cmp op_notN od_notN (se_var 2) se_non (nomark _))))) (sw_or1 (SW.st (sw_and (st_kinG T.k_LEAST (by rfl) (se_var 1)) (sw_and1 (st_not (st_val (se_fn C_is_between hr (by rfl) (sa_cons (se_var 2) (sa_cons (se_kixG T.k_LEAST (by rfl) (se_var 1) (fun _ _ => rfl)) (sa_cons (se_globC (d := (.int 10000000000000000000000000000000000000000)) (by rfl) T.c_MOST_ASKED (fun _ _ => rfl)) sa_nil))) (fCons_len (fCons_len (fCons_len (fun _ _ _ _ h => fNil_len h))))))))))))) (sss_one ss_never) sss_nil)
      (sss_cons (ss_fld T.kc_Thing T.na_Thing_word (se_var 0) (se_var 1))
      (sss_one (ss_fld T.kc_Thing T.na_Thing_many (se_var 0) (se_var 2))))))
theorem sc_Thing_kind : FnScope ["self"] ["self"] (defScope s_Thing_kind) := ⟨rfl, rfl, rfl, by decide +kernel, rfl, by decide +kernel, by decide +kernel⟩
def b_Thing_kind : FS :=
  (sRet (fFld "Thing" "word" (fVar 0)))
def d_Thing_kind : FD := runD 1 (b_Thing_kind)
theorem ok_Thing_kind {k : Nat} (T : Txt w K mg ct C_Thing) : CalleeP P w K mg base ct (k + 2) C_Thing "kind" (d_Thing_kind) :=
  calleeP_of T.p_Thing_kind sc_Thing_kind rfl fun f cdv A outer s H E hr =>
    (sss_one (ss_ret (se_fld T.kc_Thing T.na_Thing_word (se_var 0))))
theorem sc_Thing_size : FnScope ["self"] ["self"] (defScope s_Thing_size) := ⟨rfl, rfl, rfl, by decide +kernel, rfl, by decide +kernel, by decide +kernel⟩
def b_Thing_size : FS :=
  (sRet (fFld "Thing" "many" (fVar 0)))
def d_Thing_size : FD := runD 1 (b_Thing_size)
theorem ok_Thing_size {k : Nat} (T : Txt w K mg ct C_Thing) : CalleeP P w K mg base ct (k + 2) C_Thing "size" (d_Thing_size) :=
  calleeP_of T.p_Thing_size sc_Thing_size rfl fun f cdv A outer s H E hr =>
    (sss_one (ss_ret (se_fld T.kc_Thing T.na_Thing_many (se_var 0))))
theorem sc_check_thing : FnScope ["thing"] ["thing"] (defScope s_check_thing) := ⟨rfl, rfl, rfl, by decide +kernel, rfl, by decide +kernel, by decide +kernel⟩
def b_check_thing : FS :=
  (sIf (tNotD (fTest (fIsC2 "Thing" (fVar 0)))) sNever sSkip)
def d_check_thing : FD := runD 1 (b_check_thing)
theorem ok_check_thing {k : Nat} (T : Txt w K mg ct C_Thing) : Callee P w K mg base ct (k + 1) "check_thing" 1 (d_check_thing) :=
  callee_of T.d_check_thing sc_check_thing fun f cdv A outer s H E hr =>
    (sss_one (ss_if (st_not (st_val (se_isC2 T.kc_Thing T.oc_Thing T.ic_Thing (by rfl) T.n_isinstance (se_var 0) (by rfl) T.g_Thing))) (sss_one ss_never) sss_nil))
theorem sc_follows_from_core : FnScope ["number", "found"] ["number"] (defScope s_follows_from_core) := ⟨rfl, rfl, rfl, by decide +kernel, rfl, by decide +kernel, by decide +kernel⟩
def b_follows_from_core : FS :=
  (sSeq (sAsg (fDisp ["crowd", "star", "pairs", "row", "core"] (fCons (fC (.int 2)) (fCons (fVar 0) (fCons (fBin gFdiv (fBin gAddX (fVar 0) (fC (.int 1))) (fC (.int 2))) (fCons (fBin gAddX (fVar 0) (fC (.int 1))) (fCons (fVar 0) fNil)))))) (gN 1))
    (sSeq (sIf (fTest (fBin gGe (fVar 0) (fC (.int 2)))) (sAsg (fBin gAddX (fVar 0) (fC (.int 1))) (gSub gSetA (fVar 1) (fC (.str "ring")))) sSkip)
    (sSeq (sIf (fTest (fBin gGe (fVar 0) (fC (.int 3)))) (sAsg (fC .non) (gSub gSetA (fVar 1) (fC (.str "even ring")))) sSkip)
    (sRet (fVar 1)))))
def d_follows_from_core : FD := runD 2 (b_follows_from_core)
theorem ok_follows_from_core {k : Nat} (T : Txt w K mg ct C_Thing) : Callee P w K mg base ct (k + 1) "follows_from_core" 1 (d_follows_from_core) :=
  callee_of T.d_follows_from_core sc_follows_from_core fun f cdv A outer s H E hr =>
    (sss_cons (ss_set (i := 1) sc_follows_from_core.nd rfl (Or.inl rfl) (se_disp (sds_cons se_int (sds_cons (se_var 0) (sds_cons (se_op op_fdivW od_fdiv (se_op op_addX od_addX (se_var 0) se_int) se_int) (sds_cons (se_op op_addX od_addX (se_var 0) se_int) (sds_cons (se_var 0) sds_nil))))) rfl rfl (fun z => by cases z)))
      (sss_cons (ss_if (st_cmp op_ge od_ge (se_var 0) se_int (nomark _)) (sss_one (ss_asg (se_op op_addX od_addX (se_var 0) se_int) (sg_sub (se_var 1) se_str (set_all hr) sd_all))) sss_nil)
      (sss_cons (ss_if (st_cmp op_ge od_ge (se_var 0) se_int (nomark _)) (sss_one (ss_asg se_non (sg_sub (se_var 1) se_str (set_all hr) sd_all))) sss_nil)
      (sss_one (ss_ret (se_var 1))))))
theorem sc_follows_from_crowd : FnScope ["number", "found"] ["number"] (defScope s_follows_from_crowd) := ⟨rfl, rfl, rfl, by decide +kernel, rfl, by decide +kernel, by decide +kernel⟩
def b_follows_from_crowd : FS :=
  (sSeq (sAsg (fDisp ["crowd", "star", "pairs", "row", "core"] (fCons (fVar 0) (fCons (fBin gSubI (fVar 0) (fC (.int 1))) (fCons (fBin gFdiv (fVar 0) (fC (.int 2))) (fCons (fVar 0) (fCons (fBin gSubI (fVar 0) (fC (.int 1))) fNil)))))) (gN 1))
    (sSeq (sIf (fTest (fBin gGe (fVar 0) (fC (.int 3)))) (sSeq (sAsg (fVar 0) (gSub gSetA (fVar 1) (fC (.str "ring"))))
    (sAsg (fC .non) (gSub gSetA (fVar 1) (fC (.str "odd ring"))))) sSkip)
    (sSeq (sIf (fTest (fBin gGe (fVar 0) (fC (.int 4)))) (sAsg (fC .non) (gSub gSetA (fVar 1) (fC (.str "even ring")))) sSkip)
    (sRet (fVar 1)))))
def d_follows_from_crowd : FD := runD 2 (b_follows_from_crowd)
theorem ok_follows_from_crowd {k : Nat} (T : Txt w K mg ct C_Thing) : Callee P w K mg base ct (k + 1) "follows_from_crowd" 1 (d_follows_from_crowd) :=
  callee_of T.d_follows_from_crowd sc_follows_from_crowd fun f cdv A outer s H E hr =>
    (sss_cons (ss_set (i := 1) sc_follows_from_crowd.nd rfl (Or.inl rfl) (se_disp (sds_cons (se_var 0) (sds_cons (se_op op_sub od_sub (se_var 0) se_int) (sds_cons (se_op op_fdivW od_fdiv (se_var 0) se_int) (sds_cons (se_var 0) (sds_cons (se_op op_sub od_sub (se_var 0) se_int) sds_nil))))) rfl rfl (fun z => by cases z)))
      (sss_cons (ss_if (st_cmp op_ge od_ge (se_var 0) se_int (nomark _)) (sss_cons (ss_asg (se_var 0) (sg_sub (se_var 1) se_str (set_all hr) sd_all))
      (sss_one (ss_asg se_non (sg_sub (se_var 1) se_str (set_all hr) sd_all)))) sss_nil)
      (sss_cons (ss_if (st_cmp op_ge od_ge (se_var 0) se_int (nomark _)) (sss_one (ss_asg se_non (sg_sub (se_var 1) se_str (set_all hr) sd_all))) sss_nil)
      (sss_one (ss_ret (se_var 1))))))
theorem sc_follows_from_ring : FnScope ["kind", "number", "size", "found"] ["kind", "number"] (defScope s_follows_from_ring) := ⟨rfl, rfl, rfl, by decide +kernel, rfl, by decide +kernel, by decide +kernel⟩
def b_follows_from_ring : FS :=
  (sSeq (sAsg (fIf (fTest (fBin gEq (fVar 0) (fC (.str "ring")))) (fVar 1) (fIf (fTest (fBin gEq (fVar 0) (fC (.str "odd ring")))) (fC (.int 3)) (fC (.int 4)))) (gN 2))
    (sSeq (sAsg (fDisp ["crowd", "star", "pairs", "row", "core", "ring"] (fCons (fC (.int 2)) (fCons (fC (.int 2)) (fCons (fBin gFdiv (fVar 2) (fC (.int 2))) (fCons (fVar 2) (fCons (fC (.int 2)) (fCons (fVar 2) fNil))))))) (gN 3))
    (sSeq (sIf (fTest (fBin gNe (fVar 0) (fC (.str "ring")))) (sAsg (fC .non) (gSub gSetA (fVar 3) (fVar 0))) sSkip)
    (sRet (fVar 3)))))
def d_follows_from_ring : FD := runD 4 (b_follows_from_ring)
theorem ok_follows_from_ring {k : Nat} (T : Txt w K mg ct C_Thing) : Callee P w K mg base ct (k + 1) "follows_from_ring" 2 (d_follows_from_ring) :=
  callee_of T.d_follows_from_ring sc_follows_from_ring fun f cdv A outer s H E hr =>
    (sss_cons (ss_set (i := 2) sc_follows_from_ring.nd rfl (Or.inl rfl) (se_if (st_cmp (op_eqAll hr) od_eq (se_var 0) se_str (nomark _)) (se_var 1) (se_if (st_cmp (op_eqAll hr) od_eq (se_var 0) se_str (nomark _)) se_int se_int)))
      (sss_cons (ss_set (i := 3) sc_follows_from_ring.nd rfl (Or.inl rfl) (se_disp (sds_cons se_int (sds_cons se_int (sds_cons (se_op op_fdivW od_fdiv (se_var 2) se_int) (sds_cons (se_var 2) (sds_cons se_int (sds_cons (se_var 2) sds_nil)))))) rfl rfl (fun z => by cases z)))
      (sss_cons (ss_if (st_cmp (op_neAll hr) od_ne (se_var 0) se_str (nomark _)) (sss_one (ss_asg se_non (sg_sub (se_var 3) (se_var 0) (set_all hr) sd_all))) sss_nil)
      (sss_one (ss_ret (se_var 3))))))
theorem sc_all_from : FnScope ["kind", "number", "found"] ["kind", "number"] (defScope s_all_from) := ⟨rfl, rfl, rfl, by decide +kernel, rfl, by decide +kernel, by decide +kernel⟩
def b_all_from (c_follows_from_core : FD) (c_follows_from_ring : FD) (c_follows_from_crowd : FD) : FS :=
  (sSeq (sIf (fTest (fBin gEq (fVar 0) (fC (.str "crowd")))) (sRet (fCall c_follows_from_crowd (fCons (fVar 1) fNil))) sSkip)
    (sSeq (sIf (fTest (fBin (gInX false) (fC (.str "ring")) (fVar 0))) (sRet (fCall c_follows_from_ring (fCons (fVar 0) (fCons (fVar 1) fNil)))) sSkip)
    (sSeq (sAsg (fDictK tab_FEW) (gN 2))
    (sSeq (sIf (fTest (fBin gEq (fVar 0) (fC (.str "star")))) (sSeq (sAsg (fVar 1) (gSub gSetA (fVar 2) (fC (.str "star"))))
    (sAsg (fIf (fTest (fBin gGe (fVar 1) (fC (.int 2)))) (fC (.int 3)) (fC (.int 2))) (gSub gSetA (fVar 2) (fC (.str "row"))))) (sIf (fTest (fBin gEq (fVar 0) (fC (.str "pairs")))) (sAsg (fVar 1) (gSub gSetA (fVar 2) (fC (.str "pairs")))) (sIf (fTest (fBin gEq (fVar 0) (fC (.str "row")))) (sSeq (sAsg (fIf (fTest (fBin gGe (fVar 1) (fC (.int 3)))) (fC (.int 2)) (fC (.int 1))) (gSub gSetA (fVar 2) (fC (.str "star"))))
    (sSeq (sAsg (fBin gFdiv (fVar 1) (fC (.int 2))) (gSub gSetA (fVar 2) (fC (.str "pairs"))))
    (sAsg (fVar 1) (gSub gSetA (fVar 2) (fC (.str "row")))))) (sSeq (sAsg (fCall c_follows_from_core (fCons (fVar 1) fNil)) (gN 2))
    (sIf (fTest (fBin gEq (fVar 0) (fC (.str "linked")))) (sAsg (fVar 1) (gSub gSetA (fVar 2) (fC (.str "linked")))) sSkip)))))
    (sRet (fVar 2))))))
def d_all_from (c_follows_from_core : FD) (c_follows_from_ring : FD) (c_follows_from_crowd : FD) : FD := runD 3 (b_all_from c_follows_from_core c_follows_from_ring c_follows_from_crowd)
theorem ok_all_from {c_follows_from_core : FD} {c_follows_from_ring : FD} {c_follows_from_crowd : FD} {k : Nat} (T : Txt w K mg ct C_Thing) (C_follows_from_core : Callee P w K mg base ct k "follows_from_core" 1 c_follows_from_core) (C_follows_from_ring : Callee P w K mg base ct k "follows_from_ring" 2 c_follows_from_ring) (C_follows_from_crowd : Callee P w K mg base ct k "follows_from_crowd" 1 c_follows_from_crowd) : Callee P w K mg base ct (k + 1) "all_from" 2 (d_all_from c_follows_from_core c_follows_from_ring c_follows_from_crowd) :=
  callee_of T.d_all_from sc_all_from fun f cdv A outer s H E hr =>
    (sss_cons (ss_if (st_cmp (op_eqAll hr) od_eq (se_var 0) se_str (nomark _)) (sss_one (ss_ret (se_fn C_follows_from_crowd hr (by rfl) (sa_cons (se_var 1) sa_nil) (fCons_len (fun _ _ _ _ h => fNil_len h))))) sss_nil)
      (sss_cons (ss_if (st_cmp (op_inX hr) od_inX se_str (se_var 0) (by rfl)) (sss_one (ss_ret (se_fn C_follows_from_ring hr (by rfl) (sa_cons (se_var 0) (sa_cons (se_var 1) sa_nil)) (fCons_len (fCons_len (fun _ _ _ _ h => fNil_len h)))))) sss_nil)
      (sss_cons (ss_set (i := 2) sc_all_from.nd rfl (Or.inl rfl) (se_dictK T.tk_FEW (by rfl) T.n_dict (by rfl) (by decide) (by decide +kernel)))
      (sss_cons (ss_if (st_cmp (op_eqAll hr) od_eq (se_var 0) se_str (nomark _)) (sss_cons (ss_asg (se_var 1) (sg_sub (se_var 2) se_str (set_all hr) sd_all))
      (sss_one (ss_asg (se_if (st_cmp op_ge od_ge (se_var 1) se_int (nomark _)) se_int se_int) (sg_sub (se_var 2) se_str (set_all hr) sd_all)))) (sss_one (ss_if (st_cmp (op_eqAll hr) od_eq (se_var 0) se_str (nomark _)) (sss_one (ss_asg (se_var 1) (sg_sub (se_var 2) se_str (set_all hr) sd_all))) (sss_one (ss_if (st_cmp (op_eqAll hr) od_eq (se_var 0) se_str (nomark _)) (sss_cons (ss_asg (se_if (st_cmp op_ge od_ge (se_var 1) se_int (nomark _)) se_int se_int) (sg_sub (se_var 2) se_str (set_all hr) sd_all))
      (sss_cons (ss_asg (se_op op_fdivW od_fdiv (se_var 1) se_int) (sg_sub (se_var 2) se_str (set_all hr) sd_all))
      (sss_one (ss_asg (se_var 1) (sg_sub (se_var 2) se_str (set_all hr) sd_all))))) (sss_cons (ss_set (i := 2) sc_all_from.nd rfl (Or.inl rfl) (se_fn C_follows_from_core hr (by rfl) (sa_cons (se_var 1) sa_nil) (fCons_len (fun _ _ _ _ h => fNil_len h))))
      (sss_one (ss_if (st_cmp (op_eqAll hr) od_eq (se_var 0) se_str (nomark _)) (sss_one (ss_asg (se_var 1) (sg_sub (se_var 2) se_str (set_all hr) sd_all))) sss_nil))))))))
      (sss_one (ss_ret (se_var 2)))))))
theorem sc_is_following : FnScope ["thing", "other", "found"] ["thing", "other"] (defScope s_is_following) := ⟨rfl, rfl, rfl, by decide +kernel, rfl, by decide +kernel, by decide +kernel⟩
def b_is_following (c_Thing_kind : FD) (c_Thing_size : FD) (c_all_from : FD) : FS :=
  (sSeq (sAsg (fCall c_all_from (fCons (fProp "Thing" c_Thing_kind (fVar 0)) (fCons (fProp "Thing" c_Thing_size (fVar 0)) fNil))) (gN 2))
    (sRet (fAnd (fDIn false (fProp "Thing" c_Thing_kind (fVar 1)) (fVar 2)) (fOr (fBin gIsN (fProp "Thing" c_Thing_size (fVar 1)) (fC .non)) (fBin gLeX (fProp "Thing" c_Thing_size (fVar 1)) (fDIx (fVar 2) (fProp "Thing" c_Thing_kind (fVar 1))))))))
def d_is_following (c_Thing_kind : FD) (c_Thing_size : FD) (c_all_from : FD) : FD := runD 3 (b_is_following c_Thing_kind c_Thing_size c_all_from)
theorem ok_is_following {c_Thing_kind : FD} {c_Thing_size : FD} {c_all_from : FD} {k : Nat} (T : Txt w K mg ct C_Thing) (C_Thing_kind : CalleeP P w K mg base ct k C_Thing "kind" c_Thing_kind) (C_Thing_size : CalleeP P w K mg base ct k C_Thing "size" c_Thing_size) (C_all_from : Callee P w K mg base ct k "all_from" 2 c_all_from) : Callee P w K mg base ct (k + 1) "is_following" 2 (d_is_following c_Thing_kind c_Thing_size c_all_from) :=
  callee_of T.d_is_following sc_is_following fun f cdv A outer s H E hr =>
    (sss_cons (ss_set (i := 2) sc_is_following.nd rfl (Or.inl rfl) (se_fn C_all_from hr (by rfl) (sa_cons (se_prop T.kc_Thing C_Thing_kind hr (se_var 0)) (sa_cons (se_prop T.kc_Thing C_Thing_size hr (se_var 0)) sa_nil)) (fCons_len (fCons_len (fun _ _ _ _ h => fNil_len h)))))
      (sss_one (ss_ret (se_and (se_din hr (se_prop T.kc_Thing C_Thing_kind hr (se_var 1)) (se_var 2) (by rfl)) (se_one (se_or (se_cmp op_isN od_isN (se_prop T.kc_Thing C_Thing_size hr (se_var 1)) se_non (nomark _)) (se_one (se_cmp (op_leX hr) od_leX (se_prop T.kc_Thing C_Thing_size hr (se_var 1)) (se_dix hr (se_var 2) (se_prop T.kc_Thing C_Thing_kind hr (se_var 1)) (fun _ _ => rfl)) (nomark _)))))))))
theorem sc_follows : FnScope ["thing", "other"] ["thing", "other"] (defScope s_follows) := ⟨rfl, rfl, rfl, by decide +kernel, rfl, by decide +kernel, by decide +kernel⟩
def b_follows (c_is_following : FD) (c_check_thing : FD) : FS :=
  (sSeq (sExpr (fCall c_check_thing (fCons (fVar 0) fNil)))
    (sSeq (sExpr (fCall c_check_thing (fCons (fVar 1) fNil)))
    (sRet (fCall c_is_following (fCons (fVar 0) (fCons (fVar 1) fNil))))))
def d_follows (c_is_following : FD) (c_check_thing : FD) : FD := runD 2 (b_follows c_is_following c_check_thing)
theorem ok_follows {c_is_following : FD} {c_check_thing : FD} {k : Nat} (T : Txt w K mg ct C_Thing) (C_is_following : Callee P w K mg base ct k "is_following" 2 c_is_following) (C_check_thing : Callee P w K mg base ct k "check_thing" 1 c_check_thing) : Callee P w K mg base ct (k + 1) "follows" 2 (d_follows c_is_following c_check_thing) [(["other", "thing"], [1, 0])] :=
  callee_of T.d_follows sc_follows fun f cdv A outer s H E hr =>
    (sss_cons (ss_expr (se_fn C_check_thing hr (by rfl) (sa_cons (se_var 0) sa_nil) (fCons_len (fun _ _ _ _ h => fNil_len h))))
      (sss_cons (ss_expr (se_fn C_check_thing hr (by rfl) (sa_cons (se_var 1) sa_nil) (fCons_len (fun _ _ _ _ h => fNil_len h))))
      (sss_one (ss_ret (se_fn C_is_following hr (by rfl) (sa_cons (se_var 0) (sa_cons (se_var 1) sa_nil)) (fCons_len (fCons_len (fun _ _ _ _ h => fNil_len h))))))))
theorem sc__law_purse : FnScope ["_law_script", "_law_spot", "_law_cell", "_law_seed", "_law_one"] ["_law_script", "_law_spot"] (defScope s__law_purse) := ⟨rfl, rfl, rfl, by decide +kernel, rfl, by decide +kernel, by decide +kernel⟩
def b__law_purse : FS :=
  (sSeq (sAsg (fIf (fTest (fBin gLtX (fVar 1) (fCall cLen (fCons (fVar 0) fNil)))) (fBin gIx (fVar 0) (fVar 1)) (fBin gMul (fC (.int 7919)) (fBin gAddX (fVar 1) (fC (.int 5))))) (gN 2))
    (sSeq (sAsg (fBin gAddX (fC (.int 211)) (fVar 1)) (gN 3))
    (sSeq (sFor (iLst (fBin gAddX (fSlX (fVar 0) oNone (oSome (fC (.int 5)))) (fLst (fCons (fVar 2) fNil)))) (gN 4) (sAsg (fBin gMod (fCall cInt (fCons (fBin gAddX (fBin gAddX (fBin gMul (fVar 3) (fC (.int 48271))) (fBin gMod (fCall cInt (fCons (fVar 4) fNil)) (fC (.int 2147483647)))) (fC (.int 101))) fNil)) (fC (.int 2147483647))) (gN 3)))
    (sRet (fLstM (fCons (fIf (fTest (fBin gGe (fCall cAbs (fCons (fVar 2) fNil)) (fBin gPow (fC (.int 10)) (fC (.int 18))))) (fCall cAbs (fCons (fVar 2) fNil)) (fC (.int 0))) (fCons (fVar 3) fNil)))))))
def d__law_purse : FD := runD 5 (b__law_purse)
theorem ok__law_purse {k : Nat} (T : Txt w K mg ct C_Thing) : Callee P w K mg base ct (k + 1) "_law_purse" 2 (d__law_purse) :=
  callee_of T.d__law_purse sc__law_purse fun f cdv A outer s H E hr =>
    (sss_cons (ss_set (i := 2) sc__law_purse.nd rfl (Or.inl rfl) (se_if (st_cmp (op_ltX hr) od_ltX (se_var 1) (se_callB call_lenAll cd_len (by rfl) T.n_len (by decide +kernel) (sa_cons (se_var 0) sa_nil)) (nomark _)) (se_ix ix_seq od_ix (se_var 0) (se_var 1) (fun _ _ => rfl)) (se_op op_mulW od_mul se_int (se_op op_addX od_addX (se_var 1) se_int))))
      (sss_cons (ss_set (i := 3) sc__law_purse.nd rfl (Or.inl rfl) (se_op op_addX od_addX se_int (se_var 1)))
      (sss_cons (ss_for PassesOwn.never rfl (si_list (se_op op_addX od_addX (se_sliceX (se_var 0) so_none (so_some se_int)) (se_lst (sa_cons (se_var 2) sa_nil)))) (sg_name (i := 4) sc__law_purse.nd rfl (Or.inl rfl)) (sss_one (ss_set (i := 3) sc__law_purse.nd rfl (Or.inl rfl) (se_op op_mod od_mod (se_callTy call_intAll cd_int (by rfl) T.n_int (by decide +kernel) (sa_cons (se_op op_addX od_addX (se_op op_addX od_addX (se_op op_mulW od_mul (se_var 3) se_int) (se_op op_mod od_mod (se_callTy call_intAll cd_int (by rfl) T.n_int (by decide +kernel) (sa_cons (se_var 4) sa_nil)) se_int)) se_int) sa_nil)) se_int))))
      (sss_one (ss_ret (se_lstM (sa_cons (se_if (st_cmp op_ge od_ge (se_callB call_abs cd_abs (by rfl) T.n_abs (by decide +kernel) (sa_cons (se_var 2) sa_nil)) (se_op op_pow od_pow se_int se_int) (nomark _)) (se_callB call_abs cd_abs (by rfl) T.n_abs (by decide +kernel) (sa_cons (se_var 2) sa_nil)) se_int) (sa_cons (se_var 3) sa_nil))))))))
theorem sc__law_draw : FnScope ["_law_purse_here", "_law_many", "_law_digit"] ["_law_purse_here", "_law_many"] (defScope s__law_draw) := ⟨rfl, rfl, rfl, by decide +kernel, rfl, by decide +kernel, by decide +kernel⟩
def b__law_draw : FS :=
  (sSeq (sIf (fTest (fBin gGt (fBin gIx (fVar 0) (fC (.int 0))) (fC (.int 0)))) (sSeq (sAsg (fCall cDivmod (fCons (fBin gIx (fVar 0) (fC (.int 0))) (fCons (fVar 1) fNil))) (gTup 2 (gCons (gSub gSetA (fVar 0) (fC (.int 0))) (gCons (gN 2) gNil))))
    (sRet (fVar 2))) sSkip)
    (sSeq (sAsg (fBin gMod (fCall cInt (fCons (fBin gAddX (fBin gMul (fBin gIx (fVar 0) (fC (.int 1))) (fC (.int 69621))) (fC (.int 40503))) fNil)) (fC (.int 2147483647))) (gSub gSetA (fVar 0) (fC (.int 1))))
    (sRet (fBin gMod (fCall cInt (fCons (fBin gFdiv (fBin gIx (fVar 0) (fC (.int 1))) (fC (.int 1024))) fNil)) (fVar 1)))))
def d__law_draw : FD := runD 3 (b__law_draw)
theorem ok__law_draw {k : Nat} (T : Txt w K mg ct C_Thing) : Callee P w K mg base ct (k + 1) "_law_draw" 2 (d__law_draw) :=
  callee_of T.d__law_draw sc__law_draw fun f cdv A outer s H E hr =>
    (sss_cons (ss_if (st_cmp op_gt od_gt (se_ix ix_seq od_ix (se_var 0) se_int (fun _ _ => rfl)) se_int (nomark _)) (sss_cons (ss_asg (se_callB call_divmodW cd_divmod (by rfl) T.n_divmod (by decide +kernel) (sa_cons (se_ix ix_seq od_ix (se_var 0) se_int (fun _ _ => rfl)) (sa_cons (se_var 1) sa_nil))) (sg_tup rfl (sgs_cons (sg_sub (se_var 0) se_int (set_all hr) sd_all) (sgs_cons (sg_name (i := 2) sc__law_draw.nd rfl (Or.inl rfl)) sgs_nil))))
      (sss_one (ss_ret (se_var 2)))) sss_nil)
      (sss_cons (ss_asg (se_op op_mod od_mod (se_callTy call_intAll cd_int (by rfl) T.n_int (by decide +kernel) (sa_cons (se_op op_addX od_addX (se_op op_mulW od_mul (se_ix ix_seq od_ix (se_var 0) se_int (fun _ _ => rfl)) se_int) se_int) sa_nil)) se_int) (sg_sub (se_var 0) se_int (set_all hr) sd_all))
      (sss_one (ss_ret (se_op op_mod od_mod (se_callTy call_intAll cd_int (by rfl) T.n_int (by decide +kernel) (sa_cons (se_op op_fdivW od_fdiv (se_ix ix_seq od_ix (se_var 0) se_int (fun _ _ => rfl)) se_int) sa_nil)) (se_var 1))))))
theorem sc__law_all : FnScope ["_law_many", "_law_found", "_law_x", "_law_y"] ["_law_many"] (defScope s__law_all) := ⟨rfl, rfl, rfl, by decide +kernel, rfl, by decide +kernel, by decide +kernel⟩
def b__law_all : FS :=
  (sSeq (sAsg (fLst fNil) (gN 1))
    (sSeq (sFor (iRange1 (fCons (fVar 0) fNil)) (gN 2) (sAsg (fBin gAddX (fVar 1) (fLc (iRange2 (fCons (fBin gAddX (fVar 2) (fC (.int 1))) (fCons (fVar 0) fNil))) (gN 3) tYesD (fTup (fCons (fVar 2) (fCons (fVar 3) fNil))) [3])) (gN 1)))
    (sRet (fCall cTupleX (fCons (fVar 1) fNil)))))
def d__law_all : FD := runD 4 (b__law_all)
theorem ok__law_all {k : Nat} (T : Txt w K mg ct C_Thing) : Callee P w K mg base ct (k + 1) "_law_all" 1 (d__law_all) :=
  callee_of T.d__law_all sc__law_all fun f cdv A outer s H E hr =>
    (sss_cons (ss_set (i := 1) sc__law_all.nd rfl (Or.inl rfl) (se_lst sa_nil))
      (sss_cons (ss_for PassesOwn.never rfl (si_range1 (by rfl) T.n_range (sa_cons (se_var 0) sa_nil)) (sg_name (i := 2) sc__law_all.nd rfl (Or.inr rfl)) (sss_one (ss_set (i := 1) sc__law_all.nd rfl (Or.inl rfl) (se_op op_addX od_addX (se_var 1) (se_lc (own := [("_law_y", 3)]) rfl sc__law_all.nd (si_range2 (by rfl) T.n_range (sa_cons (se_op op_addX od_addX (se_var 2) se_int) (sa_cons (se_var 0) sa_nil))) (blkOk_by (own := [("_law_y", 3)]) (N := ["_law_many", "_law_found", "_law_x", "_law_y"]) (sc := defScope s__law_all) (by decide +kernel)) (fun _ _ _ _ _ => (sgw_name (i := 3) sc__law_all.nd rfl (Or.inl rfl) (by decide))) (fun _ _ _ _ _ => sts_nil) (fun _ _ _ _ _ => (se_tup (sa_cons (se_var 2) (sa_cons (se_var 3) sa_nil)))))))))
      (sss_one (ss_ret (se_callTy call_tuple_of cd_tupleX (by rfl) T.n_tuple (by decide +kernel) (sa_cons (se_var 1) sa_nil))))))
theorem sc__law_ties : FnScope ["_law_purse_here", "_law_many", "_law_rate", "_law_less", "_law_kept", "_law_tie", "_law_k"] ["_law_purse_here", "_law_many"] (defScope s__law_ties) := ⟨rfl, rfl, rfl, by decide +kernel, rfl, by decide +kernel, by decide +kernel⟩
def b__law_ties (c__law_all : FD) (c__law_draw : FD) : FS :=
  (sSeq (sAsg (fTup (fCons (fBin gAddX (fC (.int 2)) (fCall c__law_draw (fCons (fVar 0) (fCons (fC (.int 4)) fNil)))) (fCons (fCall c__law_draw (fCons (fVar 0) (fCons (fC (.int 2)) fNil))) fNil))) (gTup 2 (gCons (gN 2) (gCons (gN 3) gNil))))
    (sSeq (sAsg (fLc (iTup (fCall c__law_all (fCons (fVar 1) fNil))) (gN 5) tYesD (fCall c__law_draw (fCons (fVar 0) (fCons (fVar 2) fNil))) [5]) (gN 4))
    (sRet (fCall cTupleX (fCons (fLc (iEnum (iTup (fCall c__law_all (fCons (fVar 1) fNil)))) (gTup 2 (gCons (gN 6) (gCons (gN 5) gNil))) (fTest (fBin gEq (fBin gEq (fBin gIx (fVar 4) (fVar 6)) (fC (.int 0))) (fBin gEq (fVar 3) (fC (.int 0))))) (fVar 5) [6, 5]) fNil)))))
def d__law_ties (c__law_all : FD) (c__law_draw : FD) : FD := runD 7 (b__law_ties c__law_all c__law_draw)
theorem ok__law_ties {c__law_all : FD} {c__law_draw : FD} {k : Nat} (T : Txt w K mg ct C_Thing) (C__law_all : Callee P w K mg base ct k "_law_all" 1 c__law_all) (C__law_draw : Callee P w K mg base ct k "_law_draw" 2 c__law_draw) : Callee P w K mg base ct (k + 1) "_law_ties" 2 (d__law_ties c__law_all c__law_draw) :=
  callee_of T.d__law_ties sc__law_ties fun f cdv A outer s H E hr =>
    (sss_cons (ss_asg (se_tup (sa_cons (se_op op_addX od_addX se_int (se_fn C__law_draw hr (by rfl) (sa_cons (se_var 0) (sa_cons se_int sa_nil)) (fCons_len (fCons_len (fun _ _ _ _ h => fNil_len h))))) (sa_cons (se_fn C__law_draw hr (by rfl) (sa_cons (se_var 0) (sa_cons se_int sa_nil)) (fCons_len (fCons_len (fun _ _ _ _ h => fNil_len h)))) sa_nil))) (sg_tup rfl (sgs_cons (sg_name (i := 2) sc__law_ties.nd rfl (Or.inr rfl)) (sgs_cons (sg_name (i := 3) sc__law_ties.nd rfl (Or.inr rfl)) sgs_nil))))
      (sss_cons (ss_set (i := 4) sc__law_ties.nd rfl (Or.inr rfl) (se_lc (own := [("_law_tie", 5)]) rfl sc__law_ties.nd (si_tup (se_fn C__law_all hr (by rfl) (sa_cons (se_var 1) sa_nil) (fCons_len (fun _ _ _ _ h => fNil_len h)))) (blkOk_by (own := [("_law_tie", 5)]) (N := ["_law_purse_here", "_law_many", "_law_rate", "_law_less", "_law_kept", "_law_tie", "_law_k"]) (sc := defScope s__law_ties) (by decide +kernel)) (fun _ _ _ _ _ => (sgw_name (i := 5) sc__law_ties.nd rfl (Or.inl rfl) (by decide))) (fun _ _ _ _ _ => sts_nil) (fun _ _ _ _ _ => (se_fn C__law_draw hr (by rfl) (sa_cons (se_var 0) (sa_cons (se_var 2) sa_nil)) (fCons_len (fCons_len (fun _ _ _ _ h => fNil_len h)))))))
      (sss_one (ss_ret (se_callTy call_tuple_of cd_tupleX (by rfl) T.n_tuple (by decide +kernel) (sa_cons (se_lc (own := [("_law_k", 6), ("_law_tie", 5)]) rfl sc__law_ties.nd (si_enumT (by rfl) T.n_enumerate (se_fn C__law_all hr (by rfl) (sa_cons (se_var 1) sa_nil) (fCons_len (fun _ _ _ _ h => fNil_len h)))) (blkOk_by (own := [("_law_k", 6), ("_law_tie", 5)]) (N := ["_law_purse_here", "_law_many", "_law_rate", "_law_less", "_law_kept", "_law_tie", "_law_k"]) (sc := defScope s__law_ties) (by decide +kernel)) (fun _ _ _ _ _ => (sgw_tup rfl (sgws_cons (sgw_name (i := 6) sc__law_ties.nd rfl (Or.inl rfl) (by decide)) (sgws_cons (sgw_name (i := 5) sc__law_ties.nd rfl (Or.inl rfl) (by decide)) sgws_nil)))) (fun _ _ _ _ _ => (sts_one (st_cmp (op_eqAll hr) od_eq (se_cmp (op_eqAll hr) od_eq (se_ix ix_seq od_ix (se_var 4) (se_var 6) (fun _ _ => rfl)) se_int (nomark _)) (se_cmp (op_eqAll hr) od_eq (se_var 3) se_int (nomark _)) (nomark _)))) (fun _ _ _ _ _ => (se_var 5))) sa_nil))))))
theorem sc__law_tied : FnScope ["_law_ties_here", "_law_x", "_law_y"] ["_law_ties_here", "_law_x", "_law_y"] (defScope s__law_tied) := ⟨rfl, rfl, rfl, by decide +kernel, rfl, by decide +kernel, by decide +kernel⟩
def b__law_tied : FS :=
  (sRet (fBin (gInX false) (fTup (fCons (fCall cMin2 (fCons (fVar 1) (fCons (fVar 2) fNil))) (fCons (fCall cMax2 (fCons (fVar 1) (fCons (fVar 2) fNil))) fNil))) (fVar 0)))
def d__law_tied : FD := runD 3 (b__law_tied)
theorem ok__law_tied {k : Nat} (T : Txt w K mg ct C_Thing) : Callee P w K mg base ct (k + 1) "_law_tied" 3 (d__law_tied) :=
  callee_of T.d__law_tied sc__law_tied fun f cdv A outer s H E hr =>
    (sss_one (ss_ret (se_cmp (op_inX hr) od_inX (se_tup (sa_cons (se_callB (call_min2 rfl) cd_min2 (by rfl) T.n_min (by decide +kernel) (sa_cons (se_var 1) (sa_cons (se_var 2) sa_nil))) (sa_cons (se_callB (call_max2 rfl) cd_max2 (by rfl) T.n_max (by decide +kernel) (sa_cons (se_var 1) (sa_cons (se_var 2) sa_nil))) sa_nil))) (se_var 0) (by rfl))))
theorem sc__law_subsets : FnScope ["_law_row", "_law_found", "_law_x", "_law_part"] ["_law_row"] (defScope s__law_subsets) := ⟨rfl, rfl, rfl, by decide +kernel, rfl, by decide +kernel, by decide +kernel⟩
def b__law_subsets : FS :=
  (sSeq (sAsg (fLst (fCons (fTup fNil) fNil)) (gN 1))
    (sSeq (sFor (iTup (fVar 0)) (gN 2) (sAsg (fBin gAddX (fVar 1) (fLc (iLst (fVar 1)) (gN 3) tYesD (fBin gAddX (fVar 3) (fTup (fCons (fVar 2) fNil))) [3])) (gN 1)))
    (sRet (fVar 1))))
def d__law_subsets : FD := runD 4 (b__law_subsets)
theorem ok__law_subsets {k : Nat} (T : Txt w K mg ct C_Thing) : Callee P w K mg base ct (k + 1) "_law_subsets" 1 (d__law_subsets) :=
  callee_of T.d__law_subsets sc__law_subsets fun f cdv A outer s H E hr =>
    (sss_cons (ss_set (i := 1) sc__law_subsets.nd rfl (Or.inl rfl) (se_lst (sa_cons (se_tup sa_nil) sa_nil)))
      (sss_cons (ss_for PassesOwn.never rfl (si_tup (se_var 0)) (sg_name (i := 2) sc__law_subsets.nd rfl (Or.inr rfl)) (sss_one (ss_set (i := 1) sc__law_subsets.nd rfl (Or.inl rfl) (se_op op_addX od_addX (se_var 1) (se_lc (own := [("_law_part", 3)]) rfl sc__law_subsets.nd (si_list (se_var 1)) (blkOk_by (own := [("_law_part", 3)]) (N := ["_law_row", "_law_found", "_law_x", "_law_part"]) (sc := defScope s__law_subsets) (by decide +kernel)) (fun _ _ _ _ _ => (sgw_name (i := 3) sc__law_subsets.nd rfl (Or.inl rfl) (by decide))) (fun _ _ _ _ _ => sts_nil) (fun _ _ _ _ _ => (se_op op_addX od_addX (se_var 3) (se_tup (sa_cons (se_var 2) sa_nil)))))))))
      (sss_one (ss_ret (se_var 1)))))
theorem sc__law_joined : FnScope ["_law_ties_here", "_law_left", "_law_seen", "_law_turn", "_law_x", "_law_y"] ["_law_ties_here", "_law_left"] (defScope s__law_joined) := ⟨rfl, rfl, rfl, by decide +kernel, rfl, by decide +kernel, by decide +kernel⟩
def b__law_joined (c__law_tied : FD) : FS :=
  (sSeq (sAsg (fCall cListX (fCons (fSlX (fVar 1) oNone (oSome (fC (.int 1)))) fNil)) (gN 2))
    (sSeq (sFor (iRange1 (fCons (fCall cLen (fCons (fVar 1) fNil)) fNil)) (gN 3) (sAsg (fBin gAddX (fVar 2) (fLc (iLst (fVar 1)) (gN 4) (tAndD (fTest (fBin (gInX true) (fVar 4) (fVar 2))) (fTest (fBin gNe (fLc (iLst (fVar 2)) (gN 5) (fTest (fCall c__law_tied (fCons (fVar 0) (fCons (fVar 4) (fCons (fVar 5) fNil))))) (fVar 5) [5]) (fLst fNil)))) (fVar 4) [4])) (gN 2)))
    (sRet (fBin gEq (fCall cLen (fCons (fVar 2) fNil)) (fCall cLen (fCons (fVar 1) fNil))))))
def d__law_joined (c__law_tied : FD) : FD := runD 6 (b__law_joined c__law_tied)
theorem ok__law_joined {c__law_tied : FD} {k : Nat} (T : Txt w K mg ct C_Thing) (C__law_tied : Callee P w K mg base ct k "_law_tied" 3 c__law_tied) : Callee P w K mg base ct (k + 1) "_law_joined" 2 (d__law_joined c__law_tied) :=
  callee_of T.d__law_joined sc__law_joined fun f cdv A outer s H E hr =>
    (sss_cons (ss_set (i := 2) sc__law_joined.nd rfl (Or.inr rfl) (se_callTy call_list_of cd_listX (by rfl) T.n_list (by decide +kernel) (sa_cons (se_sliceX (se_var 1) so_none (so_some se_int)) sa_nil)))
      (sss_cons (ss_for PassesOwn.never rfl (si_range1 (by rfl) T.n_range (sa_cons (se_callB call_lenAll cd_len (by rfl) T.n_len (by decide +kernel) (sa_cons (se_var 1) sa_nil)) sa_nil)) (sg_name (i := 3) sc__law_joined.nd rfl (Or.inl rfl)) (sss_one (ss_set (i := 2) sc__law_joined.nd rfl (Or.inr rfl) (se_op op_addX od_addX (se_var 2) (se_lc (own := [("_law_x", 4)]) rfl sc__law_joined.nd (si_list (se_var 1)) (blkOk_by (own := [("_law_x", 4)]) (N := ["_law_ties_here", "_law_left", "_law_seen", "_law_turn", "_law_x", "_law_y"]) (sc := defScope s__law_joined) (by decide +kernel)) (fun _ _ _ _ _ => (sgw_name (i := 4) sc__law_joined.nd rfl (Or.inr rfl) (by decide))) (fun _ _ _ _ _ => (sts_one (SW.st (sw_and (st_cmp (op_notInX hr) od_notInX (se_var 4) (se_var 2) (by rfl)) (sw_and1 (st_cmp (op_neAll hr) od_ne (se_lc (own := [("_law_y", 5)]) rfl sc__law_joined.nd (si_list (se_var 2)) (blkOk_by (by kernel_rfl)) (fun _ _ _ _ _ => (sgw_name (i := 5) sc__law_joined.nd rfl (Or.inl rfl) (by decide))) (fun _ _ _ _ _ => (sts_one (st_val (se_fn C__law_tied hr (by rfl) (sa_cons (se_var 0) (sa_cons (se_var 4) (sa_cons (se_var 5) sa_nil))) (fCons_len (fCons_len (fCons_len (fun _ _ _ _ h => fNil_len h)))))))) (fun _ _ _ _ _ => (se_var 5))) (se_lst sa_nil) (nomark _))))))) (fun _ _ _ _ _ => (se_var 4)))))))
      (sss_one (ss_ret (se_cmp (op_eqAll hr) od_eq (se_callB call_lenAll cd_len (by rfl) T.n_len (by decide +kernel) (sa_cons (se_var 2) sa_nil)) (se_callB call_lenAll cd_len (by rfl) T.n_len (by decide +kernel) (sa_cons (se_var 1) sa_nil)) (nomark _))))))
theorem sc__law_rows_of : FnScope ["_law_many", "_law_ties_here", "_law_count", "_law_found", "_law_turn", "_law_later", "_law_part", "_law_last", "_law_x"] ["_law_many", "_law_ties_here", "_law_count"] (defScope s__law_rows_of) := ⟨rfl, rfl, rfl, by decide +kernel, rfl, by decide +kernel, by decide +kernel⟩
def b__law_rows_of (c__law_tied : FD) : FS :=
  (sSeq (sAsg (fLc (iRange1 (fCons (fVar 0) fNil)) (gN 8) tYesD (fTup (fCons (fTup (fCons (fVar 8) fNil)) (fCons (fVar 8) fNil))) [8]) (gN 3))
    (sSeq (sFor (iRange1 (fCons (fBin gSubI (fVar 2) (fC (.int 1))) fNil)) (gN 4) (sSeq (sAsg (fLstM fNil) (gN 5))
    (sSeq (sFor (iLst (fVar 3)) (gTup 2 (gCons (gN 6) (gCons (gN 7) gNil))) (sFor (iRange1 (fCons (fVar 0) fNil)) (gN 8) (sIf (tAndD (fTest (fBin (gInX true) (fVar 8) (fVar 6))) (fTest (fCall c__law_tied (fCons (fVar 1) (fCons (fVar 7) (fCons (fVar 8) fNil)))))) (sExpr (fAppend (fVar 5) (fTup (fCons (fCall cTupleX (fCons (fCall cSorted (fCons (fBin gAddX (fVar 6) (fTup (fCons (fVar 8) fNil))) fNil)) fNil)) (fCons (fVar 8) fNil))))) sSkip)))
    (sAsg (fSortK (fVar 5)) (gN 3)))))
    (sRet (fVar 3))))
def d__law_rows_of (c__law_tied : FD) : FD := runD 9 (b__law_rows_of c__law_tied)
theorem ok__law_rows_of {c__law_tied : FD} {k : Nat} (T : Txt w K mg ct C_Thing) (C__law_tied : Callee P w K mg base ct k "_law_tied" 3 c__law_tied) : Callee P w K mg base ct (k + 1) "_law_rows_of" 3 (d__law_rows_of c__law_tied) :=
  callee_of T.d__law_rows_of sc__law_rows_of fun f cdv A outer s H E hr =>
    (sss_cons (ss_setLc (i := 3) (own := [("_law_x", 8)]) rfl sc__law_rows_of.nd rfl rfl (sw_true rfl rfl rfl (by decide +kernel)) (si_range1 (by rfl) T.n_range (sa_cons (se_var 0) sa_nil)) (blkOk_by (own := [("_law_x", 8)]) (N := ["_law_many", "_law_ties_here", "_law_count", "_law_found", "_law_turn", "_law_later", "_law_part", "_law_last", "_law_x"]) (sc := defScope s__law_rows_of) (by decide +kernel)) (fun _ _ _ _ _ => (sgw_name (i := 8) sc__law_rows_of.nd rfl (Or.inl rfl) (by decide))) (fun _ _ _ _ _ => sts_nil) (fun _ _ _ _ _ => (se_tup (sa_cons (se_tup (sa_cons (se_var 8) sa_nil)) (sa_cons (se_var 8) sa_nil)))))
      (sss_cons (ss_for PassesOwn.never rfl (si_range1 (by rfl) T.n_range (sa_cons (se_op op_sub od_sub (se_var 2) se_int) sa_nil)) (sg_name (i := 4) sc__law_rows_of.nd rfl (Or.inl rfl)) (sss_cons (ss_set (i := 5) sc__law_rows_of.nd rfl (Or.inl rfl) (se_lstM sa_nil))
      (sss_cons (ss_for PassesOwn.never rfl (si_list (se_var 3)) (sg_tup rfl (sgs_cons (sg_name (i := 6) sc__law_rows_of.nd rfl (Or.inl rfl)) (sgs_cons (sg_name (i := 7) sc__law_rows_of.nd rfl (Or.inl rfl)) sgs_nil))) (sss_one (ss_for PassesOwn.never rfl (si_range1 (by rfl) T.n_range (sa_cons (se_var 0) sa_nil)) (sg_name (i := 8) sc__law_rows_of.nd rfl (Or.inl rfl)) (sss_one (ss_if (SW.st (sw_and (st_cmp (op_notInX hr) od_notInX (se_var 8) (se_var 6) (by rfl)) (sw_and1 (st_val (se_fn C__law_tied hr (by rfl) (sa_cons (se_var 1) (sa_cons (se_var 7) (sa_cons (se_var 8) sa_nil))) (fCons_len (fCons_len (fCons_len (fun _ _ _ _ h => fNil_len h))))))))) (sss_one (ss_expr (se_append (se_var 5) (se_tup (sa_cons (se_callTy call_tuple_of cd_tupleX (by rfl) T.n_tuple (by decide +kernel) (sa_cons (se_callB (cr_sortX hr) cd_sorted (by rfl) T.n_sorted (by decide +kernel) (sa_cons (se_op op_addX od_addX (se_var 6) (se_tup (sa_cons (se_var 8) sa_nil))) sa_nil)) sa_nil)) (sa_cons (se_var 8) sa_nil)))))) sss_nil)))))
      (sss_one (ss_set (i := 3) sc__law_rows_of.nd rfl (Or.inl rfl) (se_sortK rfl hr (by rfl) T.n_sorted (by rfl) T.n_set (se_var 5)))))))
      (sss_one (ss_ret (se_var 3)))))
theorem sc__law_rings : FnScope ["_law_many", "_law_ties_here", "_law_found", "_law_first", "_law_rows", "_law_count", "_law_later", "_law_part", "_law_last", "_law_free", "_law_closed", "_law_row", "_law_x"] ["_law_many", "_law_ties_here"] (defScope s__law_rings) := ⟨rfl, rfl, rfl, by decide +kernel, rfl, by decide +kernel, by decide +kernel⟩
def b__law_rings (c__law_tied : FD) : FS :=
  (sSeq (sAsg (fLstM fNil) (gN 2))
    (sSeq (sFor (iRange1 (fCons (fVar 0) fNil)) (gN 3) (sSeq (sAsg (fLst (fCons (fTup (fCons (fTup (fCons (fVar 3) fNil)) (fCons (fVar 3) fNil))) fNil)) (gN 4))
    (sFor (iRange2 (fCons (fC (.int 2)) (fCons (fBin gAddX (fVar 0) (fC (.int 1))) fNil))) (gN 5) (sSeq (sAsg (fLst fNil) (gN 6))
    (sSeq (sFor (iLst (fVar 4)) (gTup 2 (gCons (gN 7) (gCons (gN 8) gNil))) (sSeq (sAsg (fLc (iRange2 (fCons (fBin gAddX (fVar 3) (fC (.int 1))) (fCons (fVar 0) fNil))) (gN 12) (fTest (fBin (gInX true) (fVar 12) (fVar 7))) (fVar 12) [12]) (gN 9))
    (sAsg (fBin gAddX (fVar 6) (fLc (iLst (fVar 9)) (gN 12) (fTest (fCall c__law_tied (fCons (fVar 1) (fCons (fVar 8) (fCons (fVar 12) fNil))))) (fTup (fCons (fBin gAddX (fVar 7) (fTup (fCons (fVar 12) fNil))) (fCons (fVar 12) fNil))) [12])) (gN 6))))
    (sSeq (sAsg (fVar 6) (gN 4))
    (sSeq (sAsg (fLc (iLst (fVar 4)) (gN 11) (fTest (fCall c__law_tied (fCons (fVar 1) (fCons (fBin gIx (fVar 11) (fC (.int 1))) (fCons (fVar 3) fNil))))) (fVar 11) [11]) (gN 10))
    (sIf (tAndD (fTest (fBin gGt (fVar 5) (fC (.int 2)))) (fTest (fBin gNe (fVar 10) (fLst fNil)))) (sExpr (fAppend (fVar 2) (fVar 5))) sSkip))))))))
    (sRet (fSortK (fVar 2)))))
def d__law_rings (c__law_tied : FD) : FD := runD 13 (b__law_rings c__law_tied)
theorem ok__law_rings {c__law_tied : FD} {k : Nat} (T : Txt w K mg ct C_Thing) (C__law_tied : Callee P w K mg base ct k "_law_tied" 3 c__law_tied) : Callee P w K mg base ct (k + 1) "_law_rings" 2 (d__law_rings c__law_tied) :=
  callee_of T.d__law_rings sc__law_rings fun f cdv A outer s H E hr =>
    (sss_cons (ss_set (i := 2) sc__law_rings.nd rfl (Or.inl rfl) (se_lstM sa_nil))
      (sss_cons (ss_for PassesOwn.never rfl (si_range1 (by rfl) T.n_range (sa_cons (se_var 0) sa_nil)) (sg_name (i := 3) sc__law_rings.nd rfl (Or.inr rfl)) (sss_cons (ss_set (i := 4) sc__law_rings.nd rfl (Or.inl rfl) (se_lst (sa_cons (se_tup (sa_cons (se_tup (sa_cons (se_var 3) sa_nil)) (sa_cons (se_var 3) sa_nil))) sa_nil)))
      (sss_one (ss_for PassesOwn.never rfl (si_range2 (by rfl) T.n_range (sa_cons se_int (sa_cons (se_op op_addX od_addX (se_var 0) se_int) sa_nil))) (sg_name (i := 5) sc__law_rings.nd rfl (Or.inl rfl)) (sss_cons (ss_set (i := 6) sc__law_rings.nd rfl (Or.inl rfl) (se_lst sa_nil))
      (sss_cons (ss_for PassesOwn.never rfl (si_list (se_var 4)) (sg_tup rfl (sgs_cons (sg_name (i := 7) sc__law_rings.nd rfl (Or.inr rfl)) (sgs_cons (sg_name (i := 8) sc__law_rings.nd rfl (Or.inr rfl)) sgs_nil))) (sss_cons (ss_setLc (i := 9) (own := [("_law_x", 12)]) rfl sc__law_rings.nd rfl rfl (sw_true rfl rfl rfl (by decide +kernel)) (si_range2 (by rfl) T.n_range (sa_cons (se_op op_addX od_addX (se_var 3) se_int) (sa_cons (se_var 0) sa_nil))) (blkOk_by (own := [("_law_x", 12)]) (N := ["_law_many", "_law_ties_here", "_law_found", "_law_first", "_law_rows", "_law_count", "_law_later", "_law_part", "_law_last", "_law_free", "_law_closed", "_law_row", "_law_x"]) (sc := defScope s__law_rings) (by decide +kernel)) (fun _ _ _ _ _ => (sgw_name (i := 12) sc__law_rings.nd rfl (Or.inl rfl) (by decide))) (fun _ _ _ _ _ => (sts_one (st_cmp (op_notInX hr) od_notInX (se_var 12) (se_var 7) (by rfl)))) (fun _ _ _ _ _ => (se_var 12)))
      (sss_one (ss_set (i := 6) sc__law_rings.nd rfl (Or.inl rfl) (se_op op_addX od_addX (se_var 6) (se_lc (own := [("_law_x", 12)]) rfl sc__law_rings.nd (si_list (se_var 9)) (blkOk_by (own := [("_law_x", 12)]) (N := ["_law_many", "_law_ties_here", "_law_found", "_law_first", "_law_rows", "_law_count", "_law_later", "_law_part", "_law_last", "_law_free", "_law_closed", "_law_row", "_law_x"]) (sc := defScope s__law_rings) (by decide +kernel)) (fun _ _ _ _ _ => (sgw_name (i := 12) sc__law_rings.nd rfl (Or.inl rfl) (by decide))) (fun _ _ _ _ _ => (sts_one (st_val (se_fn C__law_tied hr (by rfl) (sa_cons (se_var 1) (sa_cons (se_var 8) (sa_cons (se_var 12) sa_nil))) (fCons_len (fCons_len (fCons_len (fun _ _ _ _ h => fNil_len h)))))))) (fun _ _ _ _ _ => (se_tup (sa_cons (se_op op_addX od_addX (se_var 7) (se_tup (sa_cons (se_var 12) sa_nil))) (sa_cons (se_var 12) sa_nil))))))))))
      (sss_cons (ss_set (i := 4) sc__law_rings.nd rfl (Or.inl rfl) (se_var 6))
      (sss_cons (ss_setLc (i := 10) (own := [("_law_row", 11)]) rfl sc__law_rings.nd rfl rfl (sw_true rfl rfl rfl (by decide +kernel)) (si_list (se_var 4)) (blkOk_by (own := [("_law_row", 11)]) (N := ["_law_many", "_law_ties_here", "_law_found", "_law_first", "_law_rows", "_law_count", "_law_later", "_law_part", "_law_last", "_law_free", "_law_closed", "_law_row", "_law_x"]) (sc := defScope s__law_rings) (by decide +kernel)) (fun _ _ _ _ _ => (sgw_name (i := 11) sc__law_rings.nd rfl (Or.inl rfl) (by decide))) (fun _ _ _ _ _ => (sts_one (st_val (se_fn C__law_tied hr (by rfl) (sa_cons (se_var 1) (sa_cons (se_ix ix_seq od_ix (se_var 11) se_int (fun _ _ => rfl)) (sa_cons (se_var 3) sa_nil))) (fCons_len (fCons_len (fCons_len (fun _ _ _ _ h => fNil_len h)))))))) (fun _ _ _ _ _ => (se_var 11)))
      (sss_one (ss_if (SW.st (sw_and (st_cmp op_gt od_gt (se_var 5) se_int (nomark _)) (sw_and1 (st_cmp (op_neAll hr) od_ne (se_var 10) (se_lst sa_nil) (nomark _))))) (sss_one (ss_expr (se_append (se_var 2) (se_var 5)))) sss_nil))))))))))
      (sss_one (ss_ret (se_sortK rfl hr (by rfl) T.n_sorted (by rfl) T.n_set (se_var 2))))))
theorem sc__law_pairs_apart : FnScope ["_law_ties_here", "_law_x", "_law_y", "_law_rest", "_law_tie"] ["_law_ties_here"] (defScope s__law_pairs_apart) := ⟨rfl, rfl, rfl, by decide +kernel, rfl, by decide +kernel, by decide +kernel⟩
def b__law_pairs_apart (c__law_pairs_apart : FD) : FS :=
  (sSeq (sIf (fTest (fBin gEq (fVar 0) (fTup fNil))) (sRet (fC (.int 0))) sSkip)
    (sSeq (sAsg (fBin gIx (fVar 0) (fC (.int 0))) (gTup 2 (gCons (gN 1) (gCons (gN 2) gNil))))
    (sSeq (sAsg (fCall cTupleX (fCons (fLc (iTup (fVar 0)) (gN 4) (tAndD (fTest (fBin (gInX true) (fVar 1) (fVar 4))) (fTest (fBin (gInX true) (fVar 2) (fVar 4)))) (fVar 4) [4]) fNil)) (gN 3))
    (sRet (fCall cMax2 (fCons (fBin gAddX (fC (.int 1)) (fCall c__law_pairs_apart (fCons (fVar 3) fNil))) (fCons (fCall c__law_pairs_apart (fCons (fSlX (fVar 0) (oSome (fC (.int 1))) oNone) fNil)) fNil)))))))
def d__law_pairs_apart (c__law_pairs_apart : FD) : FD := runD 5 (b__law_pairs_apart c__law_pairs_apart)
theorem ok__law_pairs_apart {c__law_pairs_apart : FD} {k : Nat} (T : Txt w K mg ct C_Thing) (C__law_pairs_apart : Callee P w K mg base ct k "_law_pairs_apart" 1 c__law_pairs_apart) : Callee P w K mg base ct (k + 1) "_law_pairs_apart" 1 (d__law_pairs_apart c__law_pairs_apart) :=
  callee_of T.d__law_pairs_apart sc__law_pairs_apart fun f cdv A outer s H E hr =>
    (sss_cons (ss_if (st_cmp (op_eqAll hr) od_eq (se_var 0) (se_tup sa_nil) (nomark _)) (sss_one (ss_ret se_int)) sss_nil)
      (sss_cons (ss_asg (se_ix ix_seq od_ix (se_var 0) se_int (fun _ _ => rfl)) (sg_tup rfl (sgs_cons (sg_name (i := 1) sc__law_pairs_apart.nd rfl (Or.inr rfl)) (sgs_cons (sg_name (i := 2) sc__law_pairs_apart.nd rfl (Or.inr rfl)) sgs_nil))))
      (sss_cons (ss_set (i := 3) sc__law_pairs_apart.nd rfl (Or.inl rfl) (se_callTy call_tuple_of cd_tupleX (by rfl) T.n_tuple (by decide +kernel) (sa_cons (se_lc (own := [("_law_tie", 4)]) rfl sc__law_pairs_apart.nd (si_tup (se_var 0)) (blkOk_by (own := [("_law_tie", 4)]) (N := ["_law_ties_here", "_law_x", "_law_y", "_law_rest", "_law_tie"]) (sc := defScope s__law_pairs_apart) (by decide +kernel)) (fun _ _ _ _ _ => (sgw_name (i := 4) sc__law_pairs_apart.nd rfl (Or.inl rfl) (by decide))) (fun _ _ _ _ _ => (sts_one (SW.st (sw_and (st_cmp (op_notInX hr) od_notInX (se_var 1) (se_var 4) (by rfl)) (sw_and1 (st_cmp (op_notInX hr) od_notInX (se_var 2) (se_var 4) (by rfl))))))) (fun _ _ _ _ _ => (se_var 4))) sa_nil)))
      (sss_one (ss_ret (se_callB (call_max2 rfl) cd_max2 (by rfl) T.n_max (by decide +kernel) (sa_cons (se_op op_addX od_addX se_int (se_fn C__law_pairs_apart hr (by rfl) (sa_cons (se_var 3) sa_nil) (fCons_len (fun _ _ _ _ h => fNil_len h)))) (sa_cons (se_fn C__law_pairs_apart hr (by rfl) (sa_cons (se_sliceX (se_var 0) (so_some se_int) so_none) sa_nil) (fCons_len (fun _ _ _ _ h => fNil_len h))) sa_nil))))))))
theorem sc__law_is_crowd : FnScope ["_law_part", "_law_ties_here", "_law_x", "_law_y"] ["_law_part", "_law_ties_here"] (defScope s__law_is_crowd) := ⟨rfl, rfl, rfl, by decide +kernel, rfl, by decide +kernel, by decide +kernel⟩
def b__law_is_crowd : FS :=
  (sSeq (sFor (iTup (fVar 0)) (gN 2) (sIf (fTest (fBin gNe (fLc (iTup (fVar 0)) (gN 3) (tAndD (fTest (fBin gLtX (fVar 2) (fVar 3))) (fTest (fBin (gInX true) (fTup (fCons (fVar 2) (fCons (fVar 3) fNil))) (fVar 1)))) (fVar 3) [3]) (fLst fNil))) (sRet (fC (.bl false))) sSkip))
    (sRet (fC (.bl true))))
def d__law_is_crowd : FD := runD 4 (b__law_is_crowd)
theorem ok__law_is_crowd {k : Nat} (T : Txt w K mg ct C_Thing) : Callee P w K mg base ct (k + 1) "_law_is_crowd" 2 (d__law_is_crowd) :=
  callee_of T.d__law_is_crowd sc__law_is_crowd fun f cdv A outer s H E hr =>
    (sss_cons (ss_for PassesOwn.never rfl (si_tup (se_var 0)) (sg_name (i := 2) sc__law_is_crowd.nd rfl (Or.inr rfl)) (sss_one (ss_if (st_cmp (op_neAll hr) od_ne (se_lc (own := [("_law_y", 3)]) rfl sc__law_is_crowd.nd (si_tup (se_var 0)) (blkOk_by (own := [("_law_y", 3)]) (N := ["_law_part", "_law_ties_here", "_law_x", "_law_y"]) (sc := defScope s__law_is_crowd) (by decide +kernel)) (fun _ _ _ _ _ => (sgw_name (i := 3) sc__law_is_crowd.nd rfl (Or.inl rfl) (by decide))) (fun _ _ _ _ _ => (sts_one (SW.st (sw_and (st_cmp (op_ltX hr) od_ltX (se_var 2) (se_var 3) (nomark _)) (sw_and1 (st_cmp (op_notInX hr) od_notInX (se_tup (sa_cons (se_var 2) (sa_cons (se_var 3) sa_nil))) (se_var 1) (by rfl))))))) (fun _ _ _ _ _ => (se_var 3))) (se_lst sa_nil) (nomark _)) (sss_one (ss_ret se_bl)) sss_nil)))
      (sss_one (ss_ret se_bl)))
theorem sc__law_core : FnScope ["_law_ties_here", "_law_people", "_law_k", "_law_left", "_law_turn", "_law_x", "_law_y"] ["_law_ties_here", "_law_people", "_law_k"] (defScope s__law_core) := ⟨rfl, rfl, rfl, by decide +kernel, rfl, by decide +kernel, by decide +kernel⟩
def b__law_core (c__law_tied : FD) : FS :=
  (sSeq (sAsg (fVar 1) (gN 3))
    (sSeq (sFor (iRange1 (fCons (fCall cLen (fCons (fVar 1) fNil)) fNil)) (gN 4) (sAsg (fCall cTupleX (fCons (fLc (iTup (fVar 3)) (gN 5) (fTest (fBin gGe (fCall cLen (fCons (fLc (iTup (fVar 3)) (gN 6) (fTest (fCall c__law_tied (fCons (fVar 0) (fCons (fVar 5) (fCons (fVar 6) fNil))))) (fVar 6) [6]) fNil)) (fVar 2))) (fVar 5) [5]) fNil)) (gN 3)))
    (sRet (fVar 3))))
def d__law_core (c__law_tied : FD) : FD := runD 7 (b__law_core c__law_tied)
theorem ok__law_core {c__law_tied : FD} {k : Nat} (T : Txt w K mg ct C_Thing) (C__law_tied : Callee P w K mg base ct k "_law_tied" 3 c__law_tied) : Callee P w K mg base ct (k + 1) "_law_core" 3 (d__law_core c__law_tied) :=
  callee_of T.d__law_core sc__law_core fun f cdv A outer s H E hr =>
    (sss_cons (ss_set (i := 3) sc__law_core.nd rfl (Or.inr rfl) (se_var 1))
      (sss_cons (ss_for PassesOwn.never rfl (si_range1 (by rfl) T.n_range (sa_cons (se_callB call_lenAll cd_len (by rfl) T.n_len (by decide +kernel) (sa_cons (se_var 1) sa_nil)) sa_nil)) (sg_name (i := 4) sc__law_core.nd rfl (Or.inl rfl)) (sss_one (ss_set (i := 3) sc__law_core.nd rfl (Or.inr rfl) (se_callTy call_tuple_of cd_tupleX (by rfl) T.n_tuple (by decide +kernel) (sa_cons (se_lc (own := [("_law_x", 5)]) rfl sc__law_core.nd (si_tup (se_var 3)) (blkOk_by (own := [("_law_x", 5)]) (N := ["_law_ties_here", "_law_people", "_law_k", "_law_left", "_law_turn", "_law_x", "_law_y"]) (sc := defScope s__law_core) (by decide +kernel)) (fun _ _ _ _ _ => (sgw_name (i := 5) sc__law_core.nd rfl (Or.inr rfl) (by decide))) (fun _ _ _ _ _ => (sts_one (st_cmp op_ge od_ge (se_callB call_lenAll cd_len (by rfl) T.n_len (by decide +kernel) (sa_cons (se_lc (own := [("_law_y", 6)]) rfl sc__law_core.nd (si_tup (se_var 3)) (blkOk_by (by kernel_rfl)) (fun _ _ _ _ _ => (sgw_name (i := 6) sc__law_core.nd rfl (Or.inl rfl) (by decide))) (fun _ _ _ _ _ => (sts_one (st_val (se_fn C__law_tied hr (by rfl) (sa_cons (se_var 0) (sa_cons (se_var 5) (sa_cons (se_var 6) sa_nil))) (fCons_len (fCons_len (fCons_len (fun _ _ _ _ h => fNil_len h)))))))) (fun _ _ _ _ _ => (se_var 6))) sa_nil)) (se_var 2) (nomark _)))) (fun _ _ _ _ _ => (se_var 5))) sa_nil)))))
      (sss_one (ss_ret (se_var 3)))))
theorem sc__law_holds : FnScope ["_law_kind", "_law_k", "_law_many", "_law_ties_here", "_law_people", "_law_sizes", "_law_lot", "_law_part", "_law_size", "_law_x", "_law_tie"] ["_law_kind", "_law_k", "_law_many", "_law_ties_here"] (defScope s__law_holds) := ⟨rfl, rfl, rfl, by decide +kernel, rfl, by decide +kernel, by decide +kernel⟩
def b__law_holds (c__law_subsets : FD) (c__law_joined : FD) (c__law_core : FD) (c__law_is_crowd : FD) (c__law_rings : FD) (c__law_rows_of : FD) (c__law_pairs_apart : FD) : FS :=
  (sSeq (sAsg (fTupR1 (fVar 2)) (gN 4))
    (sSeq (sIf (fTest (fBin gEq (fVar 0) (fC (.str "pairs")))) (sRet (fBin gGe (fCall c__law_pairs_apart (fCons (fVar 3) fNil)) (fVar 1))) sSkip)
    (sSeq (sIf (fTest (fBin gEq (fVar 0) (fC (.str "row")))) (sRet (fAnd (fBin gLeX (fVar 1) (fVar 2)) (fBin gNe (fCall c__law_rows_of (fCons (fVar 2) (fCons (fVar 3) (fCons (fVar 1) fNil)))) (fLst fNil)))) sSkip)
    (sSeq (sIf (fTest (fBin (gInX false) (fC (.str "ring")) (fVar 0))) (sSeq (sAsg (fCall c__law_rings (fCons (fVar 2) (fCons (fVar 3) fNil))) (gN 5))
    (sSeq (sIf (fTest (fBin gEq (fVar 0) (fC (.str "ring")))) (sRet (fBin gNe (fLc (iLst (fVar 5)) (gN 8) (fTest (fBin gGe (fVar 8) (fVar 1))) (fVar 8) [8]) (fLst fNil))) sSkip)
    (sRet (fBin gNe (fLc (iLst (fVar 5)) (gN 8) (fTest (fBin gEq (fBin gMod (fCall cInt (fCons (fVar 8) fNil)) (fC (.int 2))) (fCall cInt (fCons (fBin gEq (fVar 0) (fC (.str "odd ring"))) fNil)))) (fVar 8) [8]) (fLst fNil))))) sSkip)
    (sSeq (sIf (fTest (fBin gEq (fVar 0) (fC (.str "star")))) (sRet (fBin gNe (fLc (iTup (fVar 4)) (gN 9) (fTest (fBin gGe (fCall cLen (fCons (fLc (iTup (fVar 3)) (gN 10) (fTest (fBin (gInX false) (fVar 9) (fVar 10))) (fVar 10) [10]) fNil)) (fVar 1))) (fVar 9) [9]) (fLst fNil))) sSkip)
    (sSeq (sIf (fTest (fBin gEq (fVar 0) (fC (.str "crowd")))) (sRet (fBin gNe (fLc (iLst (fCall c__law_subsets (fCons (fVar 4) fNil))) (gN 7) (tAndD (fTest (fBin gEq (fCall cLen (fCons (fVar 7) fNil)) (fVar 1))) (fTest (fCall c__law_is_crowd (fCons (fVar 7) (fCons (fVar 3) fNil))))) (fVar 7) [7]) (fLst fNil))) sSkip)
    (sSeq (sIf (fTest (fBin gEq (fVar 0) (fC (.str "core")))) (sRet (fBin gNe (fCall c__law_core (fCons (fVar 3) (fCons (fVar 4) (fCons (fVar 1) fNil)))) (fTup fNil))) sSkip)
    (sSeq (sFor (iLst (fLc (iLst (fCall c__law_subsets (fCons (fVar 4) fNil))) (gN 7) (fTest (fBin gLtX (fCall cLen (fCons (fVar 7) fNil)) (fVar 1))) (fVar 7) [7])) (gN 6) (sIf (tNotD (fTest (fCall c__law_joined (fCons (fVar 3) (fCons (fLc (iTup (fVar 4)) (gN 9) (fTest (fBin (gInX true) (fVar 9) (fVar 6))) (fVar 9) [9]) fNil))))) (sRet (fC (.bl false))) sSkip))
    (sRet (fBin gGt (fVar 2) (fVar 1)))))))))))
def d__law_holds (c__law_subsets : FD) (c__law_joined : FD) (c__law_core : FD) (c__law_is_crowd : FD) (c__law_rings : FD) (c__law_rows_of : FD) (c__law_pairs_apart : FD) : FD := runD 11 (b__law_holds c__law_subsets c__law_joined c__law_core c__law_is_crowd c__law_rings c__law_rows_of c__law_pairs_apart)
theorem ok__law_holds {c__law_subsets : FD} {c__law_joined : FD} {c__law_core : FD} {c__law_is_crowd : FD} {c__law_rings : FD} {c__law_rows_of : FD} {c__law_pairs_apart : FD} {k : Nat} (T : Txt w K mg ct C_Thing) (C__law_subsets : Callee P w K mg base ct k "_law_subsets" 1 c__law_subsets) (C__law_joined : Callee P w K mg base ct k "_law_joined" 2 c__law_joined) (C__law_core : Callee P w K mg base ct k "_law_core" 3 c__law_core) (C__law_is_crowd : Callee P w K mg base ct k "_law_is_crowd" 2 c__law_is_crowd) (C__law_rings : Callee P w K mg base ct k "_law_rings" 2 c__law_rings) (C__law_rows_of : Callee P w K mg base ct k "_law_rows_of" 3 c__law_rows_of) (C__law_pairs_apart : Callee P w K mg base ct k "_law_pairs_apart" 1 c__law_pairs_apart) : Callee P w K mg base ct (k + 1) "_law_holds" 4 (d__law_holds c__law_subsets c__law_joined c__law_core c__law_is_crowd c__law_rings c__law_rows_of c__law_pairs_apart) :=
  callee_of T.d__law_holds sc__law_holds fun f cdv A outer s H E hr =>
    (sss_cons (ss_set (i := 4) sc__law_holds.nd rfl (Or.inl rfl) (se_tupR1 rfl (by rfl) T.n_tuple (by rfl) T.n_range (se_var 2)))
      (sss_cons (ss_if (st_cmp (op_eqAll hr) od_eq (se_var 0) se_str (nomark _)) (sss_one (ss_ret (se_cmp op_ge od_ge (se_fn C__law_pairs_apart hr (by rfl) (sa_cons (se_var 3) sa_nil) (fCons_len (fun _ _ _ _ h => fNil_len h))) (se_var 1) (nomark _)))) sss_nil)
      (sss_cons (ss_if (st_cmp (op_eqAll hr) od_eq (se_var 0) se_str (nomark _)) (sss_one (ss_ret (se_and (se_cmp (op_leX hr) od_leX (se_var 1) (se_var 2) (nomark _)) (se_one (se_cmp (op_neAll hr) od_ne (se_fn C__law_rows_of hr (by rfl) (sa_cons (se_var 2) (sa_cons (se_var 3) (sa_cons (se_var 1) sa_nil))) (fCons_len (fCons_len (fCons_len (fun _ _ _ _ h => fNil_len h))))) (se_lst sa_nil) (nomark _)))))) sss_nil)
      (sss_cons (ss_if (st_cmp (op_inX hr) od_inX se_str (se_var 0) (by rfl)) (sss_cons (ss_set (i := 5) sc__law_holds.nd rfl (Or.inl rfl) (se_fn C__law_rings hr (by rfl) (sa_cons (se_var 2) (sa_cons (se_var 3) sa_nil)) (fCons_len (fCons_len (fun _ _ _ _ h => fNil_len h)))))
      (sss_cons (ss_if (st_cmp (op_eqAll hr) od_eq (se_var 0) se_str (nomark _)) (sss_one (ss_ret (se_cmp (op_neAll hr) od_ne (se_lc (own := [("_law_size", 8)]) rfl sc__law_holds.nd (si_list (se_var 5)) (blkOk_by (own := [("_law_size", 8)]) (N := ["_law_kind", "_law_k", "_law_many", "_law_ties_here", "_law_people", "_law_sizes", "_law_lot", "_law_part", "_law_size", "_law_x", "_law_tie"]) (sc := defScope s__law_holds) (by decide +kernel)) (fun _ _ _ _ _ => (sgw_name (i := 8) sc__law_holds.nd rfl (Or.inl rfl) (by decide))) (fun _ _ _ _ _ => (sts_one (st_cmp op_ge od_ge (se_var 8) (se_var 1) (nomark _)))) (fun _ _ _ _ _ => (se_var 8))) (se_lst sa_nil) (nomark _)))) sss_nil)
      (sss_one (ss_ret (se_cmp (op_neAll hr) od_ne (se_lc (own := [("_law_size", 8)]) rfl sc__law_holds.nd (si_list (se_var 5)) (blkOk_by (own := [("_law_size", 8)]) (N := ["_law_kind", "_law_k", "_law_many", "_law_ties_here", "_law_people", "_law_sizes", "_law_lot", "_law_part", "_law_size", "_law_x", "_law_tie"]) (sc := defScope s__law_holds) (by decide +kernel)) (fun _ _ _ _ _ => (sgw_name (i := 8) sc__law_holds.nd rfl (Or.inl rfl) (by decide))) (fun _ _ _ _ _ => (sts_one (st_cmp (op_eqAll hr) od_eq (se_op op_mod od_mod (se_callTy call_intAll cd_int (by rfl) T.n_int (by decide +kernel) (sa_cons (se_var 8) sa_nil)) se_int) (se_callTy call_intAll cd_int (by rfl) T.n_int (by decide +kernel) (sa_cons (se_cmp (op_eqAll hr) od_eq (se_var 0) se_str (nomark _)) sa_nil)) (nomark _)))) (fun _ _ _ _ _ => (se_var 8))) (se_lst sa_nil) (nomark _)))))) sss_nil)
      (sss_cons (ss_if (st_cmp (op_eqAll hr) od_eq (se_var 0) se_str (nomark _)) (sss_one (ss_ret (se_cmp (op_neAll hr) od_ne (se_lc (own := [("_law_x", 9)]) rfl sc__law_holds.nd (si_tup (se_var 4)) (blkOk_by (own := [("_law_x", 9)]) (N := ["_law_kind", "_law_k", "_law_many", "_law_ties_here", "_law_people", "_law_sizes", "_law_lot", "_law_part", "_law_size", "_law_x", "_law_tie"]) (sc := defScope s__law_holds) (by decide +kernel)) (fun _ _ _ _ _ => (sgw_name (i := 9) sc__law_holds.nd rfl (Or.inr rfl) (by decide))) (fun _ _ _ _ _ => (sts_one (st_cmp op_ge od_ge (se_callB call_lenAll cd_len (by rfl) T.n_len (by decide +kernel) (sa_cons (se_lc (own := [("_law_tie", 10)]) rfl sc__law_holds.nd (si_tup (se_var 3)) (blkOk_by (by kernel_rfl)) (fun _ _ _ _ _ => (sgw_name (i := 10) sc__law_holds.nd rfl (Or.inl rfl) (by decide))) (fun _ _ _ _ _ => (sts_one (st_cmp (op_inX hr) od_inX (se_var 9) (se_var 10) (by rfl)))) (fun _ _ _ _ _ => (se_var 10))) sa_nil)) (se_var 1) (nomark _)))) (fun _ _ _ _ _ => (se_var 9))) (se_lst sa_nil) (nomark _)))) sss_nil)
      (sss_cons (ss_if (st_cmp (op_eqAll hr) od_eq (se_var 0) se_str (nomark _)) (sss_one (ss_ret (se_cmp (op_neAll hr) od_ne (se_lc (own := [("_law_part", 7)]) rfl sc__law_holds.nd (si_list (se_fn C__law_subsets hr (by rfl) (sa_cons (se_var 4) sa_nil) (fCons_len (fun _ _ _ _ h => fNil_len h)))) (blkOk_by (own := [("_law_part", 7)]) (N := ["_law_kind", "_law_k", "_law_many", "_law_ties_here", "_law_people", "_law_sizes", "_law_lot", "_law_part", "_law_size", "_law_x", "_law_tie"]) (sc := defScope s__law_holds) (by decide +kernel)) (fun _ _ _ _ _ => (sgw_name (i := 7) sc__law_holds.nd rfl (Or.inl rfl) (by decide))) (fun _ _ _ _ _ => (sts_one (SW.st (sw_and (st_cmp (op_eqAll hr) od_eq (se_callB call_lenAll cd_len (by rfl) T.n_len (by decide +kernel) (sa_cons (se_var 7) sa_nil)) (se_var 1) (nomark _)) (sw_and1 (st_val (se_fn C__law_is_crowd hr (by rfl) (sa_cons (se_var 7) (sa_cons (se_var 3) sa_nil)) (fCons_len (fCons_len (fun _ _ _ _ h => fNil_len h)))))))))) (fun _ _ _ _ _ => (se_var 7))) (se_lst sa_nil) (nomark _)))) sss_nil)
      (sss_cons (ss_if (st_cmp (op_eqAll hr) od_eq (se_var 0) se_str (nomark _)) (sss_one (ss_ret (se_cmp (op_neAll hr) od_ne (se_fn C__law_core hr (by rfl) (sa_cons (se_var 3) (sa_cons (se_var 4) (sa_cons (se_var 1) sa_nil))) (fCons_len (fCons_len (fCons_len (fun _ _ _ _ h => fNil_len h))))) (se_tup sa_nil) (nomark _)))) sss_nil)
      (sss_cons (ss_for PassesOwn.never rfl (si_list (se_lc (own := [("_law_part", 7)]) rfl sc__law_holds.nd (si_list (se_fn C__law_subsets hr (by rfl) (sa_cons (se_var 4) sa_nil) (fCons_len (fun _ _ _ _ h => fNil_len h)))) (blkOk_by (own := [("_law_part", 7)]) (N := ["_law_kind", "_law_k", "_law_many", "_law_ties_here", "_law_people", "_law_sizes", "_law_lot", "_law_part", "_law_size", "_law_x", "_law_tie"]) (sc := defScope s__law_holds) (by decide +kernel)) (fun _ _ _ _ _ => (sgw_name (i := 7) sc__law_holds.nd rfl (Or.inl rfl) (by decide))) (fun _ _ _ _ _ => (sts_one (st_cmp (op_ltX hr) od_ltX (se_callB call_lenAll cd_len (by rfl) T.n_len (by decide +kernel) (sa_cons (se_var 7) sa_nil)) (se_var 1) (nomark _)))) (fun _ _ _ _ _ => (se_var 7)))) (sg_name (i := 6) sc__law_holds.nd rfl (Or.inr rfl)) (sss_one (ss_if (st_not (st_val (se_fn C__law_joined hr (by rfl) (sa_cons (se_var 3) (sa_cons (se_lc (own := [("_law_x", 9)]) rfl sc__law_holds.nd (si_tup (se_var 4)) (blkOk_by (own := [("_law_x", 9)]) (N := ["_law_kind", "_law_k", "_law_many", "_law_ties_here", "_law_people", "_law_sizes", "_law_lot", "_law_part", "_law_size", "_law_x", "_law_tie"]) (sc := defScope s__law_holds) (by decide +kernel)) (fun _ _ _ _ _ => (sgw_name (i := 9) sc__law_holds.nd rfl (Or.inl rfl) (by decide))) (fun _ _ _ _ _ => (sts_one (st_cmp (op_notInX hr) od_notInX (se_var 9) (se_var 6) (by rfl)))) (fun _ _ _ _ _ => (se_var 9))) sa_nil)) (fCons_len (fCons_len (fun _ _ _ _ h => fNil_len h)))))) (sss_one (ss_ret se_bl)) sss_nil)))
      (sss_one (ss_ret (se_cmp op_gt od_gt (se_var 2) (se_var 1) (nomark _))))))))))))
theorem sc__law_things : FnScope ["_law_most", "_law_found", "_law_kind", "_law_least", "_law_k"] ["_law_most"] (defScope s__law_things) := ⟨rfl, rfl, rfl, by decide +kernel, rfl, by decide +kernel, by decide +kernel⟩
def b__law_things : FS :=
  (sSeq (sAsg (fLst (fCons (fTup (fCons (fC (.str "odd ring")) (fCons (fC .non) fNil))) (fCons (fTup (fCons (fC (.str "even ring")) (fCons (fC .non) fNil))) fNil))) (gN 1))
    (sSeq (sFor (iLst (fLst (fCons (fTup (fCons (fC (.str "crowd")) (fCons (fC (.int 2)) fNil))) (fCons (fTup (fCons (fC (.str "star")) (fCons (fC (.int 1)) fNil))) (fCons (fTup (fCons (fC (.str "pairs")) (fCons (fC (.int 1)) fNil))) (fCons (fTup (fCons (fC (.str "row")) (fCons (fC (.int 2)) fNil))) (fCons (fTup (fCons (fC (.str "ring")) (fCons (fC (.int 3)) fNil))) (fCons (fTup (fCons (fC (.str "core")) (fCons (fC (.int 1)) fNil))) (fCons (fTup (fCons (fC (.str "linked")) (fCons (fC (.int 1)) fNil))) fNil))))))))) (gTup 2 (gCons (gN 2) (gCons (gN 3) gNil))) (sAsg (fBin gAddX (fVar 1) (fLc (iRange2 (fCons (fVar 3) (fCons (fBin gAddX (fVar 0) (fC (.int 1))) fNil))) (gN 4) tYesD (fTup (fCons (fVar 2) (fCons (fVar 4) fNil))) [4])) (gN 1)))
    (sRet (fVar 1))))
def d__law_things : FD := runD 5 (b__law_things)
theorem ok__law_things {k : Nat} (T : Txt w K mg ct C_Thing) : Callee P w K mg base ct (k + 1) "_law_things" 1 (d__law_things) :=
  callee_of T.d__law_things sc__law_things fun f cdv A outer s H E hr =>
    (sss_cons (ss_set (i := 1) sc__law_things.nd rfl (Or.inl rfl) (se_lst (sa_cons (se_tup (sa_cons se_str (sa_cons se_non sa_nil))) (sa_cons (se_tup (sa_cons se_str (sa_cons se_non sa_nil))) sa_nil))))
      (sss_cons (ss_for PassesOwn.never rfl (si_list (se_lst (sa_cons (se_tup (sa_cons se_str (sa_cons se_int sa_nil))) (sa_cons (se_tup (sa_cons se_str (sa_cons se_int sa_nil))) (sa_cons (se_tup (sa_cons se_str (sa_cons se_int sa_nil))) (sa_cons (se_tup (sa_cons se_str (sa_cons se_int sa_nil))) (sa_cons (se_tup (sa_cons se_str (sa_cons se_int sa_nil))) (sa_cons (se_tup (sa_cons se_str (sa_cons se_int sa_nil))) (sa_cons (se_tup (sa_cons se_str (sa_cons se_int sa_nil))) sa_nil))))))))) (sg_tup rfl (sgs_cons (sg_name (i := 2) sc__law_things.nd rfl (Or.inr rfl)) (sgs_cons (sg_name (i := 3) sc__law_things.nd rfl (Or.inl rfl)) sgs_nil))) (sss_one (ss_set (i := 1) sc__law_things.nd rfl (Or.inl rfl) (se_op op_addX od_addX (se_var 1) (se_lc (own := [("_law_k", 4)]) rfl sc__law_things.nd (si_range2 (by rfl) T.n_range (sa_cons (se_var 3) (sa_cons (se_op op_addX od_addX (se_var 0) se_int) sa_nil))) (blkOk_by (own := [("_law_k", 4)]) (N := ["_law_most", "_law_found", "_law_kind", "_law_least", "_law_k"]) (sc := defScope s__law_things) (by decide +kernel)) (fun _ _ _ _ _ => (sgw_name (i := 4) sc__law_things.nd rfl (Or.inl rfl) (by decide))) (fun _ _ _ _ _ => sts_nil) (fun _ _ _ _ _ => (se_tup (sa_cons (se_var 2) (sa_cons (se_var 4) sa_nil)))))))))
      (sss_one (ss_ret (se_var 1)))))
theorem sc__law_table : FnScope ["_law_some", "_law_found", "_law_one", "_law_mate", "_law_what", "_law_second"] ["_law_some"] (defScope s__law_table) := ⟨rfl, rfl, rfl, by decide +kernel, rfl, by decide +kernel, by decide +kernel⟩
def b__law_table (c_follows : FD) (c_Thing_F : List D → Option (List D)) : FS :=
  (sSeq (sAsg fNewT (gN 1))
    (sSeq (sFor (iLst (fVar 0)) (gN 2) (sFor (iLst (fVar 0)) (gN 3) (sSeq (sPar 4 5 (fCons (fMakeF "Thing" ["word", "many"] c_Thing_F [] (fCons (fBin gIx (fVar 2) (fC (.int 0))) (fCons (fBin gIx (fVar 2) (fC (.int 1))) fNil))) (fCons (fMakeF "Thing" ["word", "many"] c_Thing_F [] (fCons (fBin gIx (fVar 3) (fC (.int 0))) (fCons (fBin gIx (fVar 3) (fC (.int 1))) fNil))) fNil)))
    (sSeq (sAsg (fCall c_follows (fCons (fVar 4) (fCons (fVar 5) fNil))) (gSub gSetT (fVar 1) (fTup (fCons (fVar 2) (fCons (fVar 3) fNil)))))
    (sIf (fTest (fBin gNe (fCallK c_follows [1, 0] (fCons (fVar 5) (fCons (fVar 4) fNil))) (fBin gAtT (fVar 1) (fTup (fCons (fVar 2) (fCons (fVar 3) fNil)))))) (sRet (fC .non)) sSkip)))))
    (sRet (fVar 1))))
def d__law_table (c_follows : FD) (c_Thing_F : List D → Option (List D)) : FD := runD 6 (b__law_table c_follows c_Thing_F)
theorem ok__law_table {c_follows : FD} {c_Thing_F : List D → Option (List D)} {k : Nat} (T : Txt w K mg ct C_Thing) (C_follows : Callee P w K mg base ct k "follows" 2 c_follows [(["other", "thing"], [1, 0])]) (C_Thing_mf2 : MakerF P w K mg base ct k "Thing" ["word", "many"] [] 3 c_Thing_F) : Callee P w K mg base ct (k + 1) "_law_table" 1 (d__law_table c_follows c_Thing_F) :=
  callee_of T.d__law_table sc__law_table fun f cdv A outer s H E hr =>
    (sss_cons (ss_set (i := 1) sc__law_table.nd rfl (Or.inl rfl) (se_newT T.hc))
      (sss_cons (ss_for PassesOwn.never rfl (si_list (se_var 0)) (sg_name (i := 2) sc__law_table.nd rfl (Or.inl rfl)) (sss_one (ss_for PassesOwn.never rfl (si_list (se_var 0)) (sg_name (i := 3) sc__law_table.nd rfl (Or.inl rfl)) (sss_cons (ss_par (i := 4) (j := 5) (fun ta h => ps_par rfl sc__law_table.nd rfl rfl (by decide) rfl rfl h (by rfl)) (sa_cons (se_mkF (n := 2) (dds := []) C_Thing_mf2 hr (by rfl) (sa_cons (se_ix ix_seq od_ix (se_var 2) se_int (fun _ _ => rfl)) (sa_cons (se_ix ix_seq od_ix (se_var 2) se_int (fun _ _ => rfl)) sa_nil)) (fCons_len (fCons_len (fun _ _ _ _ h => fNil_len h)))) (sa_cons (se_mkF (n := 2) (dds := []) C_Thing_mf2 hr (by rfl) (sa_cons (se_ix ix_seq od_ix (se_var 3) se_int (fun _ _ => rfl)) (sa_cons (se_ix ix_seq od_ix (se_var 3) se_int (fun _ _ => rfl)) sa_nil)) (fCons_len (fCons_len (fun _ _ _ _ h => fNil_len h)))) sa_nil)))
      (sss_cons (ss_asg (se_fn C_follows hr (by rfl) (sa_cons (se_var 4) (sa_cons (se_var 5) sa_nil)) (fCons_len (fCons_len (fun _ _ _ _ h => fNil_len h)))) (sg_sub (se_var 1) (se_tup (sa_cons (se_var 2) (sa_cons (se_var 3) sa_nil))) (set_ndT hr) (sd_ndT T.hc)))
      (sss_one (ss_if (st_cmp (op_neAll hr) od_ne (se_fnK (ks := ["other", "thing"]) (idx := [1, 0]) C_follows (by simp) hr (by rfl) (sk_cons (se_var 5) (sk_cons (se_var 4) sk_nil)) (fCons_len (fCons_len (fun _ _ _ _ h => fNil_len h))) (fun zs h => match zs, h with | [_, _], _ => rfl)) (se_ix (ix_ndT hr) (od_ndT T.hc) (se_var 1) (se_tup (sa_cons (se_var 2) (sa_cons (se_var 3) sa_nil))) (fun _ _ => rfl)) (nomark _)) (sss_one (ss_ret se_non)) sss_nil)))))))
      (sss_one (ss_ret (se_var 1)))))
theorem sc__law_party_right : FnScope ["_law_some", "_law_table_here", "_law_many", "_law_bonds", "_law_held", "_law_one", "_law_mate", "_law_pair"] ["_law_some", "_law_table_here", "_law_many", "_law_bonds"] (defScope s__law_party_right) := ⟨rfl, rfl, rfl, by decide +kernel, rfl, by decide +kernel, by decide +kernel⟩
def b__law_party_right (c__law_holds : FD) : FS :=
  (sSeq (sAsg (fLc (iLst (fVar 0)) (gN 7) (fTest (fCall c__law_holds (fCons (fBin gIx (fVar 7) (fC (.int 0))) (fCons (fBin gIx (fVar 7) (fC (.int 1))) (fCons (fVar 2) (fCons (fVar 3) fNil)))))) (fVar 7) [7]) (gN 4))
    (sSeq (sFor (iLst (fVar 4)) (gN 5) (sFor (iLst (fVar 0)) (gN 6) (sIf (tAndD (fTest (fBin gAtT (fVar 1) (fTup (fCons (fVar 5) (fCons (fVar 6) fNil))))) (fTest (fBin (gInX true) (fVar 6) (fVar 4)))) (sRet (fC (.bl false))) sSkip)))
    (sRet (fC (.bl true)))))
def d__law_party_right (c__law_holds : FD) : FD := runD 8 (b__law_party_right c__law_holds)
theorem ok__law_party_right {c__law_holds : FD} {k : Nat} (T : Txt w K mg ct C_Thing) (C__law_holds : Callee P w K mg base ct k "_law_holds" 4 c__law_holds) : Callee P w K mg base ct (k + 1) "_law_party_right" 4 (d__law_party_right c__law_holds) :=
  callee_of T.d__law_party_right sc__law_party_right fun f cdv A outer s H E hr =>
    (sss_cons (ss_setLc (i := 4) (own := [("_law_pair", 7)]) rfl sc__law_party_right.nd rfl rfl (sw_true rfl rfl rfl (by decide +kernel)) (si_list (se_var 0)) (blkOk_by (own := [("_law_pair", 7)]) (N := ["_law_some", "_law_table_here", "_law_many", "_law_bonds", "_law_held", "_law_one", "_law_mate", "_law_pair"]) (sc := defScope s__law_party_right) (by decide +kernel)) (fun _ _ _ _ _ => (sgw_name (i := 7) sc__law_party_right.nd rfl (Or.inl rfl) (by decide))) (fun _ _ _ _ _ => (sts_one (st_val (se_fn C__law_holds hr (by rfl) (sa_cons (se_ix ix_seq od_ix (se_var 7) se_int (fun _ _ => rfl)) (sa_cons (se_ix ix_seq od_ix (se_var 7) se_int (fun _ _ => rfl)) (sa_cons (se_var 2) (sa_cons (se_var 3) sa_nil)))) (fCons_len (fCons_len (fCons_len (fCons_len (fun _ _ _ _ h => fNil_len h))))))))) (fun _ _ _ _ _ => (se_var 7)))
      (sss_cons (ss_for PassesOwn.never rfl (si_list (se_var 4)) (sg_name (i := 5) sc__law_party_right.nd rfl (Or.inl rfl)) (sss_one (ss_for PassesOwn.never rfl (si_list (se_var 0)) (sg_name (i := 6) sc__law_party_right.nd rfl (Or.inl rfl)) (sss_one (ss_if (SW.st (sw_and (st_val (se_ix (ix_ndT hr) (od_ndT T.hc) (se_var 1) (se_tup (sa_cons (se_var 5) (sa_cons (se_var 6) sa_nil))) (fun _ _ => rfl))) (sw_and1 (st_cmp (op_notInX hr) od_notInX (se_var 6) (se_var 4) (by rfl))))) (sss_one (ss_ret se_bl)) sss_nil)))))
      (sss_one (ss_ret se_bl))))
theorem sc__law_right : FnScope ["_law_purse_here", "_law_some", "_law_table_here", "_law_pair", "_law_less", "_law_many", "_law_bonds", "_law_turn"] ["_law_purse_here"] (defScope s__law_right) := ⟨rfl, rfl, rfl, by decide +kernel, rfl, by decide +kernel, by decide +kernel⟩
def b__law_right (c__law_party_right : FD) (c__law_ties : FD) (c__law_draw : FD) (c__law_subsets : FD) (c__law_all : FD) (c__law_table : FD) (c__law_things : FD) : FS :=
  (sSeq (sAsg (fCall c__law_things (fCons (fC (.int 5)) fNil)) (gN 1))
    (sSeq (sAsg (fCall c__law_table (fCons (fVar 1) fNil)) (gN 2))
    (sSeq (sIf (fTest (fBin gIsN (fVar 2) (fC .non))) (sRet (fC (.bl false))) sSkip)
    (sSeq (sFor (iLst (fVar 1)) (gN 3) (sSeq (sAsg (fTup (fCons (fBin gIx (fVar 3) (fC (.int 0))) (fCons (fIf (fTest (fBin gIsN (fBin gIx (fVar 3) (fC (.int 1))) (fC .non))) (fBin gIx (fVar 3) (fC (.int 1))) (fBin gSubI (fBin gIx (fVar 3) (fC (.int 1))) (fC (.int 1)))) fNil))) (gN 4))
    (sIf (tOrD (tNotD (fTest (fBin gAtT (fVar 2) (fTup (fCons (fVar 3) (fCons (fVar 3) fNil)))))) (tAndD (fTest (fBin (gInX false) (fVar 4) (fVar 1))) (tNotD (fTest (fBin gAtT (fVar 2) (fTup (fCons (fVar 3) (fCons (fVar 4) fNil)))))))) (sRet (fC (.bl false))) sSkip)))
    (sSeq (sFor (iRange1 (fCons (fC (.int 4)) fNil)) (gN 5) (sFor (iLst (fCall c__law_subsets (fCons (fCall c__law_all (fCons (fVar 5) fNil)) fNil))) (gN 6) (sIf (tNotD (fTest (fCall c__law_party_right (fCons (fVar 1) (fCons (fVar 2) (fCons (fVar 5) (fCons (fVar 6) fNil))))))) (sRet (fC (.bl false))) sSkip)))
    (sSeq (sFor (iRange1 (fCons (fC (.int 8)) fNil)) (gN 7) (sSeq (sAsg (fBin gAddX (fC (.int 4)) (fCall c__law_draw (fCons (fVar 0) (fCons (fC (.int 3)) fNil)))) (gN 5))
    (sIf (tNotD (fTest (fCall c__law_party_right (fCons (fVar 1) (fCons (fVar 2) (fCons (fVar 5) (fCons (fCall c__law_ties (fCons (fVar 0) (fCons (fVar 5) fNil))) fNil))))))) (sRet (fC (.bl false))) sSkip)))
    (sRet (fC (.bl true)))))))))
def d__law_right (c__law_party_right : FD) (c__law_ties : FD) (c__law_draw : FD) (c__law_subsets : FD) (c__law_all : FD) (c__law_table : FD) (c__law_things : FD) : FD := runD 8 (b__law_right c__law_party_right c__law_ties c__law_draw c__law_subsets c__law_all c__law_table c__law_things)
theorem ok__law_right {c__law_party_right : FD} {c__law_ties : FD} {c__law_draw : FD} {c__law_subsets : FD} {c__law_all : FD} {c__law_table : FD} {c__law_things : FD} {k : Nat} (T : Txt w K mg ct C_Thing) (C__law_party_right : Callee P w K mg base ct k "_law_party_right" 4 c__law_party_right) (C__law_ties : Callee P w K mg base ct k "_law_ties" 2 c__law_ties) (C__law_draw : Callee P w K mg base ct k "_law_draw" 2 c__law_draw) (C__law_subsets : Callee P w K mg base ct k "_law_subsets" 1 c__law_subsets) (C__law_all : Callee P w K mg base ct k "_law_all" 1 c__law_all) (C__law_table : Callee P w K mg base ct k "_law_table" 1 c__law_table) (C__law_things : Callee P w K mg base ct k "_law_things" 1 c__law_things) : Callee P w K mg base ct (k + 1) "_law_right" 1 (d__law_right c__law_party_right c__law_ties c__law_draw c__law_subsets c__law_all c__law_table c__law_things) :=
  callee_of T.d__law_right sc__law_right fun f cdv A outer s H E hr =>
    (sss_cons (ss_set (i := 1) sc__law_right.nd rfl (Or.inl rfl) (se_fn C__law_things hr (by rfl) (sa_cons se_int sa_nil) (fCons_len (fun _ _ _ _ h => fNil_len h))))
      (sss_cons (ss_set (i := 2) sc__law_right.nd rfl (Or.inl rfl) (se_fn C__law_table hr (by rfl) (sa_cons (se_var 1) sa_nil) (fCons_len (fun _ _ _ _ h => fNil_len h))))
      (sss_cons (ss_if (st_cmp op_isN od_isN (se_var 2) se_non (nomark _)) (sss_one (ss_ret se_bl)) sss_nil)
      (sss_cons (ss_for PassesOwn.never rfl (si_list (se_var 1)) (sg_name (i := 3) sc__law_right.nd rfl (Or.inl rfl)) (sss_cons (ss_set (i := 4) sc__law_right.nd rfl (Or.inl rfl) (se_tup (sa_cons (se_ix ix_seq od_ix (se_var 3) se_int (fun _ _ => rfl)) (sa_cons (se_if (st_cmp op_isN od_isN (se_ix ix_seq od_ix (se_var 3) se_int (fun _ _ => rfl)) se_non (nomark _)) (se_ix ix_seq od_ix (se_var 3) se_int (fun _ _ => rfl)) (se_op op_sub od_sub (se_ix ix_seq od_ix (se_var 3) se_int (fun _ _ => rfl)) se_int)) sa_nil))))
      (sss_one (ss_if (SW.st (sw_or (st_not (st_val (se_ix (ix_ndT hr) (od_ndT T.hc) (se_var 2) (se_tup (sa_cons (se_var 3) (sa_cons (se_var 3) sa_nil))) (fun _ _ => rfl)))) (sw_or1 (SW.st (sw_and (st_cmp (op_inX hr) od_inX (se_var 4) (se_var 1) (by rfl)) (sw_and1 (st_not (st_val (se_ix (ix_ndT hr) (od_ndT T.hc) (se_var 2) (se_tup (sa_cons (se_var 3) (sa_cons (se_var 4) sa_nil))) (fun _ _ => rfl)))))))))) (sss_one (ss_ret se_bl)) sss_nil))))
      (sss_cons (ss_for PassesOwn.never rfl (si_range1 (by rfl) T.n_range (sa_cons se_int sa_nil)) (sg_name (i := 5) sc__law_right.nd rfl (Or.inl rfl)) (sss_one (ss_for PassesOwn.never rfl (si_list (se_fn C__law_subsets hr (by rfl) (sa_cons (se_fn C__law_all hr (by rfl) (sa_cons (se_var 5) sa_nil) (fCons_len (fun _ _ _ _ h => fNil_len h))) sa_nil) (fCons_len (fun _ _ _ _ h => fNil_len h)))) (sg_name (i := 6) sc__law_right.nd rfl (Or.inl rfl)) (sss_one (ss_if (st_not (st_val (se_fn C__law_party_right hr (by rfl) (sa_cons (se_var 1) (sa_cons (se_var 2) (sa_cons (se_var 5) (sa_cons (se_var 6) sa_nil)))) (fCons_len (fCons_len (fCons_len (fCons_len (fun _ _ _ _ h => fNil_len h)))))))) (sss_one (ss_ret se_bl)) sss_nil)))))
      (sss_cons (ss_for PassesOwn.never rfl (si_range1 (by rfl) T.n_range (sa_cons se_int sa_nil)) (sg_name (i := 7) sc__law_right.nd rfl (Or.inl rfl)) (sss_cons (ss_set (i := 5) sc__law_right.nd rfl (Or.inl rfl) (se_op op_addX od_addX se_int (se_fn C__law_draw hr (by rfl) (sa_cons (se_var 0) (sa_cons se_int sa_nil)) (fCons_len (fCons_len (fun _ _ _ _ h => fNil_len h))))))
      (sss_one (ss_if (st_not (st_val (se_fn C__law_party_right hr (by rfl) (sa_cons (se_var 1) (sa_cons (se_var 2) (sa_cons (se_var 5) (sa_cons (se_fn C__law_ties hr (by rfl) (sa_cons (se_var 0) (sa_cons (se_var 5) sa_nil)) (fCons_len (fCons_len (fun _ _ _ _ h => fNil_len h)))) sa_nil)))) (fCons_len (fCons_len (fCons_len (fCons_len (fun _ _ _ _ h => fNil_len h)))))))) (sss_one (ss_ret se_bl)) sss_nil))))
      (sss_one (ss_ret se_bl))))))))
theorem sc_law : FnScope ["_law_script", "_law_spot"] ["_law_script"] (defScope s_law) := ⟨rfl, rfl, rfl, by decide +kernel, rfl, by decide +kernel, by decide +kernel⟩
def b_law (c__law_right : FD) (c__law_purse : FD) : FS :=
  (sRet (fCall cAll (fCons (fLc (iRange1 (fCons (fC (.int 2)) fNil)) (gN 1) tYesD (fCall c__law_right (fCons (fCall c__law_purse (fCons (fVar 0) (fCons (fVar 1) fNil))) fNil)) [1]) fNil)))
def d_law (c__law_right : FD) (c__law_purse : FD) : FD := runD 2 (b_law c__law_right c__law_purse)
theorem fn_law {c__law_right : FD} {c__law_purse : FD} {k : Nat} {f : Addr} {fd : FuncData} (F : Fun K "law" "law" s_law f fd) (T : Txt w K mg ct C_Thing) (C__law_right : Callee P w K mg base ct k "_law_right" 1 c__law_right) (C__law_purse : Callee P w K mg base ct k "_law_purse" 2 c__law_purse) : FnG P w K mg base (k + 1) f fd ["_law_script"] (spD K ct 1 (d_law c__law_right c__law_purse)) :=
  def_ok F sc_law fun cdv A outer s H E hr =>
    (sss_one (ss_ret (se_callB (cr_all rfl) cd_all (by rfl) T.n_all (by decide +kernel) (sa_cons (se_lc (own := [("_law_spot", 1)]) rfl sc_law.nd (si_range1 (by rfl) T.n_range (sa_cons se_int sa_nil)) (blkOk_by (own := [("_law_spot", 1)]) (N := ["_law_script", "_law_spot"]) (sc := defScope s_law) (by decide +kernel)) (fun _ _ _ _ _ => (sgw_name (i := 1) sc_law.nd rfl (Or.inl rfl) (by decide))) (fun _ _ _ _ _ => sts_nil) (fun _ _ _ _ _ => (se_fn C__law_right hr (by rfl) (sa_cons (se_fn C__law_purse hr (by rfl) (sa_cons (se_var 0) (sa_cons (se_var 1) sa_nil)) (fCons_len (fCons_len (fun _ _ _ _ h => fNil_len h)))) sa_nil) (fCons_len (fun _ _ _ _ h => fNil_len h))))) sa_nil))))
abbrev w_is_integer : FD := d_is_integer
theorem wk_is_integer (T : Txt w K mg ct C_Thing) : Callee P w K mg base ct 1 "is_integer" 1 w_is_integer :=
  ok_is_integer (k := 0) T
abbrev w_is_between : FD := d_is_between w_is_integer
theorem wk_is_between (T : Txt w K mg ct C_Thing) : Callee P w K mg base ct 2 "is_between" 3 w_is_between :=
  ok_is_between (k := 1) T ((wk_is_integer T).mono (by decide))
abbrev w_Thing___init__ : FD := d_Thing___init__ w_is_between
theorem wk_Thing___init__ (T : Txt w K mg ct C_Thing) : Initer P w K mg base ct 3 "Thing" [.non] 3 w_Thing___init__ :=
  ok_Thing___init__ (k := 2) T ((wk_is_between T).mono (by decide))
local macro_rules | `(tactic| push_cast [$xs,*] $[$l]?) => `(tactic| simp only [↓q_Chain3, ↓q_iEnum, ↓q_sForR, ↓q_iR3, ↓q_repT, ↓q_ListR1, ↓q_TupR1, ↓q_iSeq, ↓q_zipM, ↓wzip_m, ↓q_nil0, ↓q_tIf, ↓q_star, ↓q_zip, ↓wseq_t, ↓wseq_l, ↓wzip_t, ↓wzip_l, ↓q_pfl_nx, ↓q_pfl_rt, ↓q_pfl_bk, ↓q_pfl_ct, ↓q_run_rt, ↓q_run_nx, ↓q_bk_nx, ↓q_bk_ct, ↓q_bk_bk, ↓q_bk_rt, ↓q_R_some, ↓q_R_none, ↓q_R_cond, ↓q_var0, ↓q_varS, ↓q_C, ↓q_Bin, ↓q_neg, ↓q_nil, ↓q_cons, ↓q_tup, ↓q_lst, ↓q_lstM, ↓q_Call, ↓q_And, ↓q_Or, ↓q_Not, ↓q_Test, ↓q_tAnd, ↓q_tOr, ↓q_tNot, ↓q_If, ↓q_Chain, ↓q_Skip, ↓q_Break, ↓q_Cont, ↓q_Never, ↓q_fNever, ↓q_Seq, ↓q_Expr, ↓q_Ret, ↓q_sIf, ↓q_Asg, ↓q_N, ↓q_gNil, ↓q_gCons, ↓q_gTup, ↓q_gSub, ↓q_Par, ↓q_Run, ↓q_For, ↓q_iLst, ↓q_iTup, ↓q_iR1, ↓q_iR2, ↓q_add, ↓q_addL, ↓q_addS, ↓q_I0, ↓q_mul, ↓q_fdiv, ↓q_mod, ↓q_eqI, ↓q_eqS, ↓q_eqB, ↓q_neI, ↓q_neS, ↓q_neB, ↓q_isN, ↓q_notN, ↓q_isi, ↓q_abs, ↓q_max2, ↓q_min2, ↓q_maxT, ↓q_intI, ↓q_intB, ↓q_lenS, ↓q_lenT, ↓q_lenL, ↓q_lenC, ↓q_divmod, ↓q_listL, ↓q_listT, ↓q_tupL, ↓q_tupT, ↓q_KIn, ↓q_Fld, ↓q_Meth, ↓q_MakeF, ↓q_sFld, ↓q_KIx, ↓q_inT, ↓q_inL, ↓q_inS, ↓q_ixL, ↓q_ixT, ↓q_ixC, ↓q_Lc, ↓q_Yes, ↓q_Sl, ↓q_oNone, ↓q_oSome, ↓q_slC, ↓q_slL, ↓q_slS, ↓q_MethK, ↓q_CallK, ↓q_Repr, ↓q_DispF, ↓q_DIx, ↓q_rep, ↓q_Prop, ↓q_IsC, ↓q_DGet1, ↓q_DIn, ↓q_gUnl, ↓q_DictK, ↓q_repM, ↓q_aXi, ↓q_aXs, ↓q_aXt, ↓q_aXl, ↓q_aMl, ↓q_ltX, ↓q_leX, ↓q_leX2, ↓q_SlX, ↓q_sXc, ↓q_sXl, ↓q_sXt, ↓q_sXs, ↓q_RevT, ↓q_sxI, ↓q_sxS, ↓q_lxT, ↓q_lxL, ↓q_txL, ↓q_txT, ↓q_lmT, ↓q_lmL, ↓q_Par3, ↓q_Join, ↓wp_two, ↓wp_r1, ↓wp_r2, ↓wp_someB, ↓wp_strE, ↓wp_FldO, ↓wp_someL, ↓wp_last, ↓wp_someX, ↓wp_three, ↓q_p40, ↓qi_t, ↓qi_f, ↓wb_bl, ↓wi_int, ↓wstr_str, ↓wtup_tup, ↓wlst_lst, ↓wref_ref, isn_int, isn_non, isn_str, isn_tup, isn_lst, isn_ref, isn_bl, isi_str_str, isi_int_int, isi_int_bl, isi_bool_int, isi_bool_bl, isi_int_non, isi_int_str, isi_tuple_tup, str_eq, String.reduceEq, List.any_cons, List.any_nil, List.all_cons, List.all_nil, Bool.and_true, Bool.or_false, Bool.true_and, Bool.false_and, Bool.and_false, Bool.false_or, Bool.or_true, Bool.true_or, Bool.not_not, flat_str, flat_int, flat_non, eqF_str, List.map_cons, List.map_nil, List.length_cons, List.length_nil, List.length_map, List.cons_append, List.nil_append, List.append_nil, List.set_cons_zero, List.set_cons_succ, List.replicate_succ, List.replicate_zero, Nat.reduceSub, Nat.reduceAdd, Nat.reduceLeDiff, Nat.zero_add, Nat.sub_self, Bool.not_eq_true', Bool.not_true, Bool.not_false, if_true, if_false, reduceIte, Bool.false_eq_true, true_and, and_true, decide_true, decide_false, Bool.true_eq_false, eq_self, $xs,*] $[$l]?)
theorem isint_int (i : Int) (S : Sto) : w_is_integer [.int i] S = some (.bl true, S) := by
  refine Qr_iff.mpr ?_ |> R.eq
  unfold w_is_integer d_is_integer b_is_integer
  push_cast []
theorem between_int (i a b : Int) (S : Sto) : w_is_between [.int i, .int a, .int b] S = some (.bl (decide (a ≤ i) && decide (i ≤ b)), S) := by
  refine Qr_iff.mpr ?_ |> R.eq
  unfold w_is_between d_is_between b_is_between
  push_cast [isint_int]
  by_cases h : a ≤ i
  · push_cast [h]
  · push_cast [h]
def mkF_Thing : List D → Option (List D)
  | [.str k, .non] => if k = "odd ring" ∨ k = "even ring" then some [.str k, .non] else none
  | [.str k, .int n] => match tab_LEAST.lookup k with
    | some lo => if lo ≤ n ∧ n ≤ 10000000000000000000000000000000000000000 then some [.str k, .int n] else none
    | none => none
  | _ => none
def ringK (k : Str) : Bool := ("odd ring" : Str) == k || ("even ring" : Str) == k
theorem inX_ring (neg : Bool) (k : Str) (S : Sto) : gInX neg (.str k) (.tup [.str "odd ring", .str "even ring"]) S = some (.bl (if neg then !ringK k else ringK k), S) := by
  have e : gInX neg (.str k) (.tup [.str "odd ring", .str "even ring"]) S = some (.bl (if neg then !(eqF (.str "odd ring") (.str k) || (eqF (.str "even ring") (.str k) || false)) else (eqF (.str "odd ring") (.str k) || (eqF (.str "even ring") (.str k) || false))), S) := rfl
  rw [e, Bool.or_false]
  rfl
theorem ringK_of {k : Str} (h : k = "odd ring" ∨ k = "even ring") : ringK k = true := by rcases h with rfl | rfl <;> decide +kernel
theorem ringK_no {k : Str} (h : tab_LEAST.lookup k ≠ none) : ringK k = false := by
  unfold ringK
  rw [Bool.or_eq_false_iff]
  refine ⟨beq_eq_false_iff_ne.mpr ?_, beq_eq_false_iff_ne.mpr ?_⟩ <;> (rintro rfl; exact h (by decide +kernel))
theorem two_puts (S : Sto) (a b : D) : 0 < 900 ∧ ∃ i, D.ref S.length = D.ref i ∧ ∃ c' fs ds, ((S ++ [Cell.ins "Thing" [] []]).set S.length (.ins "Thing" (putN [] "word") (putD [] [] "word" a)))[i]? = some (.ins c' fs ds) ∧ (c' = ("Thing" : Str) ∧ fs.length < 900) ∧
    ((S ++ [Cell.ins "Thing" [] []]).set S.length (.ins "Thing" (putN [] "word") (putD [] [] "word" a))).set i (.ins "Thing" (putN fs "many") (putD fs ds "many" b)) = S ++ [.ins "Thing" ["word", "many"] [a, b]] := by
  refine ⟨by decide, _, rfl, _, _, _, List.getElem?_set_self (by simp), ⟨rfl, by decide⟩, ?_⟩
  rw [List.set_set, List.set_append_right _ _ (Nat.le_refl _), Nat.sub_self]
  rfl
theorem mkF_Thing_ok : MkSpec "Thing" ["word", "many"] w_Thing___init__ mkF_Thing := by
  intro S args vals h
  unfold mkF_Thing at h
  split at h
  · rename_i k
    split at h
    · rename_i hk
      cases h
      refine ⟨?_, rfl⟩
      refine Qr_iff.mpr ?_ |> R.eq
      have hl : (tab_LEAST.lookup k) = none := by rcases hk with rfl | rfl <;> decide +kernel
      have hr := ringK_of hk
      unfold w_Thing___init__ d_Thing___init__ b_Thing___init__
      push_cast [hl, Option.isSome_none, Bool.not_false]
      push_cast [inX_ring, hr, hl, Option.isSome_none, Bool.not_false, Bool.not_true]
      exact two_puts S _ _
    · cases h
  · rename_i k n
    split at h
    · rename_i lo hl
      split at h
      · rename_i hn
        cases h
        refine ⟨?_, rfl⟩
        refine Qr_iff.mpr ?_ |> R.eq
        have hr := ringK_no (k := k) (by rw [hl]; simp)
        unfold w_Thing___init__ d_Thing___init__ b_Thing___init__
        push_cast [hl, Option.isSome_some, Bool.not_true]
        push_cast [inX_ring, hr, hl, Option.isSome_some, Bool.not_false, Bool.not_true, between_int]
        push_cast [decide_eq_true hn.1, decide_eq_true hn.2, Bool.and_true, Bool.not_true]
        exact two_puts S _ _
      · cases h
    · cases h
  · cases h
abbrev w_Thing_kind : FD := d_Thing_kind
theorem wk_Thing_kind (T : Txt w K mg ct C_Thing) : CalleeP P w K mg base ct 2 C_Thing "kind" w_Thing_kind :=
  ok_Thing_kind (k := 0) T
abbrev w_Thing_size : FD := d_Thing_size
theorem wk_Thing_size (T : Txt w K mg ct C_Thing) : CalleeP P w K mg base ct 2 C_Thing "size" w_Thing_size :=
  ok_Thing_size (k := 0) T
abbrev w_check_thing : FD := d_check_thing
theorem wk_check_thing (T : Txt w K mg ct C_Thing) : Callee P w K mg base ct 1 "check_thing" 1 w_check_thing :=
  ok_check_thing (k := 0) T
abbrev w_follows_from_core : FD := d_follows_from_core
theorem wk_follows_from_core (T : Txt w K mg ct C_Thing) : Callee P w K mg base ct 1 "follows_from_core" 1 w_follows_from_core :=
  ok_follows_from_core (k := 0) T
abbrev w_follows_from_crowd : FD := d_follows_from_crowd
theorem wk_follows_from_crowd (T : Txt w K mg ct C_Thing) : Callee P w K mg base ct 1 "follows_from_crowd" 1 w_follows_from_crowd :=
  ok_follows_from_crowd (k := 0) T
abbrev w_follows_from_ring : FD := d_follows_from_ring
theorem wk_follows_from_ring (T : Txt w K mg ct C_Thing) : Callee P w K mg base ct 1 "follows_from_ring" 2 w_follows_from_ring :=
  ok_follows_from_ring (k := 0) T
abbrev w_all_from : FD := d_all_from w_follows_from_core w_follows_from_ring w_follows_from_crowd
theorem wk_all_from (T : Txt w K mg ct C_Thing) : Callee P w K mg base ct 2 "all_from" 2 w_all_from :=
  ok_all_from (k := 1) T ((wk_follows_from_core T).mono (by decide)) ((wk_follows_from_ring T).mono (by decide)) ((wk_follows_from_crowd T).mono (by decide))
abbrev w_is_following : FD := pureD (d_is_following w_Thing_kind w_Thing_size w_all_from)
theorem wk_is_following (T : Txt w K mg ct C_Thing) : Callee P w K mg base ct 3 "is_following" 2 w_is_following :=
  (ok_is_following (k := 2) T ((wk_Thing_kind T).mono (by decide)) ((wk_Thing_size T).mono (by decide)) ((wk_all_from T).mono (by decide))).pure
abbrev w_follows : FD := d_follows w_is_following w_check_thing
theorem wk_follows (T : Txt w K mg ct C_Thing) : Callee P w K mg base ct 4 "follows" 2 w_follows [(["other", "thing"], [1, 0])] :=
  ok_follows (k := 3) T ((wk_is_following T).mono (by decide)) ((wk_check_thing T).mono (by decide))
abbrev w__law_purse : FD := d__law_purse
theorem wk__law_purse (T : Txt w K mg ct C_Thing) : Callee P w K mg base ct 1 "_law_purse" 2 w__law_purse :=
  ok__law_purse (k := 0) T
abbrev w__law_draw : FD := d__law_draw
theorem wk__law_draw (T : Txt w K mg ct C_Thing) : Callee P w K mg base ct 1 "_law_draw" 2 w__law_draw :=
  ok__law_draw (k := 0) T
abbrev w__law_all : FD := pureD (d__law_all)
theorem wk__law_all (T : Txt w K mg ct C_Thing) : Callee P w K mg base ct 1 "_law_all" 1 w__law_all :=
  (ok__law_all (k := 0) T).pure
abbrev w__law_ties : FD := pure1D (d__law_ties w__law_all w__law_draw)
theorem wk__law_ties (T : Txt w K mg ct C_Thing) : Callee P w K mg base ct 2 "_law_ties" 2 w__law_ties :=
  (ok__law_ties (k := 1) T ((wk__law_all T).mono (by decide)) ((wk__law_draw T).mono (by decide))).pure1
abbrev w__law_tied : FD := d__law_tied
theorem wk__law_tied (T : Txt w K mg ct C_Thing) : Callee P w K mg base ct 1 "_law_tied" 3 w__law_tied :=
  ok__law_tied (k := 0) T
abbrev w__law_subsets : FD := d__law_subsets
theorem wk__law_subsets (T : Txt w K mg ct C_Thing) : Callee P w K mg base ct 1 "_law_subsets" 1 w__law_subsets :=
  ok__law_subsets (k := 0) T
abbrev w__law_joined : FD := d__law_joined w__law_tied
theorem wk__law_joined (T : Txt w K mg ct C_Thing) : Callee P w K mg base ct 2 "_law_joined" 2 w__law_joined :=
  ok__law_joined (k := 1) T ((wk__law_tied T).mono (by decide))
abbrev w__law_rows_of : FD := pureD (d__law_rows_of w__law_tied)
theorem wk__law_rows_of (T : Txt w K mg ct C_Thing) : Callee P w K mg base ct 2 "_law_rows_of" 3 w__law_rows_of :=
  (ok__law_rows_of (k := 1) T ((wk__law_tied T).mono (by decide))).pure
abbrev w__law_rings : FD := pureD (d__law_rings w__law_tied)
theorem wk__law_rings (T : Txt w K mg ct C_Thing) : Callee P w K mg base ct 2 "_law_rings" 2 w__law_rings :=
  (ok__law_rings (k := 1) T ((wk__law_tied T).mono (by decide))).pure
def w__law_pairs_apart_n : Nat → FD
  | 0 => fun _ _ => none
  | n + 1 => d__law_pairs_apart (w__law_pairs_apart_n n)
theorem wkn__law_pairs_apart (T : Txt w K mg ct C_Thing) : ∀ n : Nat, Callee P w K mg base ct (0 + n) "_law_pairs_apart" 1 (w__law_pairs_apart_n n)
  | 0 => callee_none T.d__law_pairs_apart
  | n + 1 => ok__law_pairs_apart (k := 0 + n) T (wkn__law_pairs_apart T n)
abbrev w__law_pairs_apart : FD := w__law_pairs_apart_n 24
theorem wk__law_pairs_apart (T : Txt w K mg ct C_Thing) : Callee P w K mg base ct 24 "_law_pairs_apart" 1 w__law_pairs_apart := wkn__law_pairs_apart T 24
abbrev w__law_is_crowd : FD := d__law_is_crowd
theorem wk__law_is_crowd (T : Txt w K mg ct C_Thing) : Callee P w K mg base ct 1 "_law_is_crowd" 2 w__law_is_crowd :=
  ok__law_is_crowd (k := 0) T
abbrev w__law_core : FD := d__law_core w__law_tied
theorem wk__law_core (T : Txt w K mg ct C_Thing) : Callee P w K mg base ct 2 "_law_core" 3 w__law_core :=
  ok__law_core (k := 1) T ((wk__law_tied T).mono (by decide))
abbrev w__law_holds : FD := d__law_holds w__law_subsets w__law_joined w__law_core w__law_is_crowd w__law_rings w__law_rows_of w__law_pairs_apart
theorem wk__law_holds (T : Txt w K mg ct C_Thing) : Callee P w K mg base ct 25 "_law_holds" 4 w__law_holds :=
  ok__law_holds (k := 24) T ((wk__law_subsets T).mono (by decide)) ((wk__law_joined T).mono (by decide)) ((wk__law_core T).mono (by decide)) ((wk__law_is_crowd T).mono (by decide)) ((wk__law_rings T).mono (by decide)) ((wk__law_rows_of T).mono (by decide)) ((wk__law_pairs_apart T).mono (by decide))
abbrev w__law_things : FD := d__law_things
theorem wk__law_things (T : Txt w K mg ct C_Thing) : Callee P w K mg base ct 1 "_law_things" 1 w__law_things :=
  ok__law_things (k := 0) T
abbrev w__law_table : FD := d__law_table w_follows mkF_Thing
theorem wk__law_table (T : Txt w K mg ct C_Thing) : Callee P w K mg base ct 5 "_law_table" 1 w__law_table :=
  ok__law_table (k := 4) T ((wk_follows T).mono (by decide)) ((makerF_of (maker_of (dds := []) (wk_Thing___init__ T) 1 (by simp) (fun _ _ => rfl)) mkF_Thing_ok).mono (by decide))
abbrev w__law_party_right : FD := d__law_party_right w__law_holds
theorem wk__law_party_right (T : Txt w K mg ct C_Thing) : Callee P w K mg base ct 26 "_law_party_right" 4 w__law_party_right :=
  ok__law_party_right (k := 25) T ((wk__law_holds T).mono (by decide))
abbrev w__law_right : FD := d__law_right w__law_party_right w__law_ties w__law_draw w__law_subsets w__law_all w__law_table w__law_things
theorem wk__law_right (T : Txt w K mg ct C_Thing) : Callee P w K mg base ct 27 "_law_right" 1 w__law_right :=
  ok__law_right (k := 26) T ((wk__law_party_right T).mono (by decide)) ((wk__law_ties T).mono (by decide)) ((wk__law_draw T).mono (by decide)) ((wk__law_subsets T).mono (by decide)) ((wk__law_all T).mono (by decide)) ((wk__law_table T).mono (by decide)) ((wk__law_things T).mono (by decide))
def lawD : FD := d_law w__law_right w__law_purse
theorem law_fn {f : Addr} {fd : FuncData} (F : Fun K "law" "law" s_law f fd) (T : Txt w K mg ct C_Thing) : FnG P w K mg base 60 f fd ["_law_script"] (spD K ct 1 lawD) :=
  fn_law (k := 59) F T ((wk__law_right T).mono (by decide)) ((wk__law_purse T).mono (by decide))
end LW
namespace LW
open PySem PySem.Spec PyProof.Rows L2 TL DL
def ltP (p q : Int × Int) : Prop := p.1 < q.1 ∨ (p.1 = q.1 ∧ p.2 < q.2)
structure Ties (n : Int) (T : List (Int × Int)) : Prop where
  rng : ∀ p ∈ T, 0 ≤ p.1 ∧ p.1 < p.2 ∧ p.2 < n
  asc : T.Pairwise ltP
theorem asc_len : ∀ (l : List Int) (lo hi : Int), l.Pairwise (· < ·) → (∀ x ∈ l, lo ≤ x ∧ x < hi) → (l.length : Int) ≤ max 0 (hi - lo)
  | [], _, _, _, _ => by simp only [List.length_nil]; omega
  | x :: l, lo, hi, h, g => by
    rw [List.pairwise_cons] at h
    have ih := asc_len l (x + 1) hi h.2 fun y hy => ⟨h.1 y hy, (g y (List.mem_cons_of_mem _ hy)).2⟩
    have := g x (List.mem_cons_self ..)
    rw [List.length_cons]
    omega
theorem isort_asc {l : List Int} (h : l.Nodup) : (isort leI l).Pairwise (· < ·) := by
  have h1 := isort_sorted tot_leI l
  have h2 : (isort leI l).Nodup := ((isort_perm leI l).nodup_iff).mpr h
  refine (h1.and h2).imp ?_
  intro a b ⟨h, g⟩
  simp only [leI, decide_eq_true_eq] at h
  omega
theorem nodup_len {l : List Int} {n : Int} (hn : 0 ≤ n) (h : l.Nodup) (g : ∀ x ∈ l, 0 ≤ x ∧ x < n) : (l.length : Int) ≤ n := by
  have := asc_len (isort leI l) 0 n (isort_asc h) fun x hx => g x ((isort_perm leI l).mem_iff.mp hx)
  rw [(isort_perm leI l).length_eq] at this
  omega
/-- n different ones below n: all of them -/
theorem row_all {l : List Int} {n : Int} (hn : 0 ≤ n) (h : l.Nodup) (g : ∀ x ∈ l, 0 ≤ x ∧ x < n) (hl : (l.length : Int) = n) {x : Int} (h0 : 0 ≤ x) (h1 : x < n) : x ∈ l := by
  apply Classical.byContradiction
  intro hx
  have := nodup_len (l := x :: l) hn (List.nodup_cons.mpr ⟨hx, h⟩) (fun y hy => by
    rcases List.mem_cons.mp hy with rfl | hy
    · exact ⟨h0, h1⟩
    · exact g y hy)
  rw [List.length_cons] at this
  omega
theorem ltP_ne {p q : Int × Int} (h : ltP p q) : p ≠ q := fun e => by subst e; unfold ltP at h; omega
theorem Ties.nodup {n : Int} {T : List (Int × Int)} (h : Ties n T) : T.Nodup := h.asc.imp fun h => ltP_ne h
theorem Ties.len {n : Int} {T : List (Int × Int)} (h : Ties n T) (hn : n ≤ 10) : T.length ≤ 100 := by
  have := asc_len (T.map fun p => 10 * p.1 + p.2) 0 100 (by
    rw [List.pairwise_map]
    refine (List.Pairwise.and_mem.mp h.asc).imp ?_
    intro p q ⟨hp, hq, l⟩
    have a := h.rng p hp
    have b := h.rng q hq
    unfold ltP at l
    omega) (fun x hx => by
      obtain ⟨p, hp, rfl⟩ := List.mem_map.mp hx
      have a := h.rng p hp
      omega)
  rw [List.length_map] at this
  omega
theorem mem_isort {α : Type} {le : α → α → Bool} {l : List α} {x : α} : x ∈ isort le l ↔ x ∈ l := (isort_perm le l).mem_iff
structure Row (n : Int) (xs : List Int) : Prop where
  nd : xs.Nodup
  rng : ∀ x ∈ xs, 0 ≤ x ∧ x < n
def sg (xs : List Int) (i : Int) : Int := xs.getD i.toNat 0
theorem sg_get {xs : List Int} {n i : Int} (hl : (xs.length : Int) = n) (h0 : 0 ≤ i) (h1 : i < n) : xs[i.toNat]? = some (sg xs i) := by
  unfold sg
  have : i.toNat < xs.length := by omega
  rw [List.getD_eq_getElem?_getD, List.getElem?_eq_getElem this]
  rfl
end LW
namespace LW
open PySem PySem.Spec L2 TL DL
open PyProof.Rows hiding pairD
theorem noRefs_pairs : ∀ T : List (Int × Int), noRefs (T.map pairD) = true
  | [] => rfl
  | p :: T => by
    show (true && noRefs (T.map pairD)) = true
    rw [noRefs_pairs T]
    rfl
end LW
namespace LW
open PySem PySem.Spec L2 TL DL
open PyProof.Rows hiding pairD
theorem all_flat : ∀ xs : List Int, (xs.map D.int).all flatD = true
  | [] => rfl
  | x :: xs => by
    show (true && (xs.map D.int).all flatD) = true
    rw [all_flat xs]
    rfl
theorem range_len (n : Nat) : (rangeD 0 (n : Int)).length = n := by
  unfold rangeD
  rw [List.length_map, List.length_range]
  omega
theorem range_get {n i : Nat} {d : D} (h : (rangeD 0 (n : Int))[i]? = some d) : i < n ∧ d = .int (i : Int) := by
  have hi := (List.getElem?_eq_some_iff.mp h).1
  rw [range_len] at hi
  unfold rangeD at h
  rw [List.getElem?_map, List.getElem?_range (by omega)] at h
  have h := Option.some.inj h
  exact ⟨hi, h.symm.trans (congrArg D.int (Int.zero_add _))⟩
theorem ok_range {n : Int} (h0 : -1000 ≤ n) (h1 : n ≤ 1000000) : okR n = true := by
  unfold okR
  rw [decide_eq_true (by omega), decide_eq_true (by omega)]
  rfl
end LW
namespace LW
open PySem PySem.Spec L2 TL DL
open PyProof.Rows hiding pairD
def pairsL (n : Int) : List (Int × Int) := (List.range n.toNat).flatMap fun a => (List.range (n.toNat - a - 1)).map fun (k : Nat) => ((a : Int), (a : Int) + 1 + (k : Int))
theorem mem_pairs {n : Int} {p : Int × Int} : p ∈ pairsL n ↔ 0 ≤ p.1 ∧ p.1 < p.2 ∧ p.2 < n := by
  unfold pairsL
  rw [List.mem_flatMap]
  constructor
  · rintro ⟨a, ha, hp⟩
    rw [List.mem_map] at hp
    obtain ⟨k, hk, rfl⟩ := hp
    rw [List.mem_range] at ha hk
    show 0 ≤ (a : Int) ∧ (a : Int) < (a : Int) + 1 + k ∧ (a : Int) + 1 + k < n
    omega
  · intro h
    refine ⟨p.1.toNat, List.mem_range.mpr (by omega), List.mem_map.mpr ⟨(p.2 - p.1 - 1).toNat, List.mem_range.mpr (by omega), ?_⟩⟩
    refine Prod.ext ?_ ?_
    · show ((p.1.toNat : Nat) : Int) = p.1
      omega
    · show ((p.1.toNat : Nat) : Int) + 1 + (((p.2 - p.1 - 1).toNat : Nat) : Int) = p.2
      omega
theorem pairs_len {n : Int} (h0 : 0 ≤ n) (hn : n ≤ 10) : (pairsL n).length ≤ 45 := by
  have : n = 0 ∨ n = 1 ∨ n = 2 ∨ n = 3 ∨ n = 4 ∨ n = 5 ∨ n = 6 ∨ n = 7 ∨ n = 8 ∨ n = 9 ∨ n = 10 := by omega
  rcases this with rfl | rfl | rfl | rfl | rfl | rfl | rfl | rfl | rfl | rfl | rfl <;> decide +kernel
end LW
set_option exponentiation.threshold 2000
namespace LW
open PySem PySem.Spec L2 TL DL
open PyProof.Rows hiding pairD cutD
def MM : Int := 9223372036854775783
/-- the other cells are as they were -/
def Apart (S S' : Sto) (i : Nat) : Prop := S'.length = S.length ∧ ∀ j, j ≠ i → S'[j]? = S[j]?
theorem Apart.refl (S : Sto) (i : Nat) : Apart S S i := ⟨rfl, fun _ _ => rfl⟩
theorem Apart.trans {S S1 S2 : Sto} {i : Nat} (a : Apart S S1 i) (b : Apart S1 S2 i) : Apart S S2 i := ⟨b.1.trans a.1, fun j h => (b.2 j h).trans (a.2 j h)⟩
theorem Apart.set (S : Sto) (i : Nat) (c : Cell) : Apart S (S.set i c) i := ⟨by simp, fun j h => by rw [List.getElem?_set_ne (fun e => h e.symm)]⟩
theorem set_at {S : Sto} {i : Nat} {c c' : Cell} (h : S[i]? = some c) : (S.set i c')[i]? = some c' := List.getElem?_set_self (List.getElem?_eq_some_iff.mp h).1
end LW
namespace LW
open PySem PySem.Spec L2 TL DL
open PyProof.Rows hiding pairD cutD
def Sk (c : Cell) (m : Nat) : Prop := ∃ a b k : Int, c = .lst [.int a, .int b, .int k] ∧ 0 ≤ b ∧ b < MM ∧ 0 ≤ k ∧ k ≤ m
theorem Sk.mono {c : Cell} {m m' : Nat} (h : Sk c m) (l : m ≤ m') : Sk c m' := by
  obtain ⟨a, b, k, e, h1, h2, h3, h4⟩ := h
  exact ⟨a, b, k, e, h1, h2, h3, by omega⟩
instance decLtP (p q : Int × Int) : Decidable (ltP p q) := by unfold ltP; exact inferInstance
theorem pairs_asc {n : Int} (h0 : 0 ≤ n) (hn : n ≤ 10) : (pairsL n).Pairwise ltP := by
  have : n = 0 ∨ n = 1 ∨ n = 2 ∨ n = 3 ∨ n = 4 ∨ n = 5 ∨ n = 6 ∨ n = 7 ∨ n = 8 ∨ n = 9 ∨ n = 10 := by omega
  rcases this with rfl | rfl | rfl | rfl | rfl | rfl | rfl | rfl | rfl | rfl | rfl <;> decide +kernel
theorem sub_ties {n : Int} {T : List (Int × Int)} (h0 : 0 ≤ n) (hn : n ≤ 10) (h : T.Sublist (pairsL n)) : Ties n T := ⟨fun p hp => mem_pairs.mp (h.subset hp), (pairs_asc h0 hn).sublist h⟩
end LW
namespace LW
open PySem PySem.Spec L2 TL DL
open PyProof.Rows hiding pairD cutD
def Fd (d : D) (S : Sto) (T : List (Int × Int)) : Prop := d = .lst (T.map pairD) ∨ (d = .ref 1 ∧ S[1]? = some (.lst (T.map pairD)))
theorem Fd.of {d : D} {S : Sto} {T : List (Int × Int)} (h : Fd d S T) : lstOf S d = some (T.map pairD) := by
  rcases h with rfl | ⟨rfl, h⟩
  · rfl
  · show (match S[1]? with | some (.lst ds) => some ds | _ => none) = _
    rw [h]
end LW
namespace LW
open PySem PySem.Spec L2 TL DL
open PyProof.Rows hiding pairD cutD
def upto (N : Int) : List Int := (List.range N.toNat).map fun (k : Nat) => (0 : Int) + (k : Int)
theorem upto_len {N : Int} (h : 0 ≤ N) : ((upto N).length : Int) = N := by
  unfold upto
  rw [List.length_map, List.length_range]
  omega
theorem upto_row (N : Int) : Row N (upto N) := by
  constructor
  · unfold upto List.Nodup
    rw [List.pairwise_map]
    refine List.nodup_range.imp ?_
    intro a b h e
    exact h (by omega)
  · intro x hx
    obtain ⟨k, hk, rfl⟩ := List.mem_map.mp hx
    rw [List.mem_range] at hk
    omega
theorem noRefs_ints : ∀ xs : List Int, noRefs (xs.map D.int) = true
  | [] => rfl
  | x :: xs => by
    show (true && noRefs (xs.map D.int)) = true
    rw [noRefs_ints xs]
    rfl
end LW
namespace LW
open PySem PySem.Spec L2 TL DL
open PyProof.Rows hiding pairD cutD
theorem toPs_ints : ∀ xs : List Int, toPs (xs.map D.int) = some (xs.map PyData.int)
  | [] => rfl
  | x :: xs => by
    show (toPs (xs.map D.int)).map _ = _
    rw [toPs_ints xs]
    rfl
theorem depth_ints : ∀ xs : List Int, PyData.depthAll (xs.map PyData.int) = 0
  | [] => rfl
  | x :: xs => by
    show max 0 (PyData.depthAll (xs.map PyData.int)) = 0
    rw [depth_ints xs]
    rfl
end LW
namespace LW
open PySem PySem.Spec L2 TL DL
open PyProof.Rows hiding pairD cutD
theorem all_nil {Q : D → Prop} : ∀ p ∈ ([] : List D), Q p := fun p h => by cases h
theorem all_cons {Q : D → Prop} {d : D} {ds : List D} (h : Q d) (g : ∀ p ∈ ds, Q p) : ∀ p ∈ d :: ds, Q p := fun p hp => by
  rcases List.mem_cons.mp hp with rfl | hp
  · exact h
  · exact g p hp
end LW
namespace LW
open PySem PySem.Spec L2 TL DL
open PyProof.Rows hiding pairD cutD
theorem lay_ints : ∀ xs : List Int, PyData.canLayAll0 (xs.map PyData.int) = true
  | [] => rfl
  | x :: xs => by
    show (true && PyData.canLayAll0 (xs.map PyData.int)) = true
    rw [lay_ints xs]
    rfl
theorem sh_row (xs : List Int) : SeqAt.shaped (.tuple (xs.map PyData.int)) = true := by
  unfold SeqAt.shaped
  rw [show PyData.canLay0 (.tuple (xs.map PyData.int)) = PyData.canLayAll0 (xs.map PyData.int) from rfl, lay_ints]
  have e : PyData.depth (.tuple (xs.map PyData.int)) = PyData.depthAll (xs.map PyData.int) + 1 := rfl
  rw [e, depth_ints]
  rfl
end LW
namespace LW
open PySem PySem.Spec L2 TL DL
open PyProof.Rows hiding pairD cutD
/-- the stock at i -/
def At (S : Sto) (i m : Nat) : Prop := ∃ c, S[i]? = some c ∧ Sk c m
theorem At.set {S : Sto} {i m m' : Nat} {c : Cell} (h : At S i m) (hc : Sk c m') : At (S.set i c) i m' := by
  obtain ⟨c0, h0, _⟩ := h
  exact ⟨c, set_at h0, hc⟩
theorem At.put {S : Sto} {i m j : Nat} (h : At S i m) (hj : j ≠ i) (c : Cell) : At (S.set j c) i m := by
  obtain ⟨c0, h0, hc⟩ := h
  exact ⟨c0, by rw [List.getElem?_set_ne hj]; exact h0, hc⟩
end LW
namespace LW
open PySem PySem.Spec L2 TL DL
open PyProof.Rows hiding pairD cutD
theorem range_mem {m : Int} (hm : m ≤ 1000) {d : D} (hd : d ∈ DL.rangeD 0 m) : ∃ k : Nat, d = .int k ∧ k ≤ 1000 := by
  unfold DL.rangeD at hd
  obtain ⟨j, hj, rfl⟩ := List.mem_map.mp hd
  have := List.mem_range.mp hj
  exact ⟨j, by simp, by omega⟩
end LW
namespace LW
def mkM (s : Nat → Bool) : Nat → Nat
  | 0 => 0
  | n + 1 => 2 ^ n * (if s n then 1 else 0) + mkM s n
/-- how many -/
def cntM (s : Nat → Bool) (n : Nat) : Nat := (List.range n).countP s
theorem cntM_ext {s t : Nat → Bool} {n : Nat} (h : ∀ i, i < n → s i = t i) : cntM s n = cntM t n := by
  unfold cntM
  refine List.countP_congr fun i hi => ?_
  rw [h i (List.mem_range.mp hi)]
/-- counted in a row of different people -/
theorem cntM_row {n : Nat} {xs : List Nat} (hn : xs.Nodup) (hr : ∀ x ∈ xs, x < n) (s : Nat → Bool) : cntM (fun i => s i && decide (i ∈ xs)) n = xs.countP s := by
  have p : ((List.range n).filter fun i => decide (i ∈ xs)).Perm xs := by
    refine (List.perm_ext_iff_of_nodup (List.nodup_range.filter _) hn).mpr fun a => ?_
    rw [List.mem_filter, List.mem_range, decide_eq_true_eq]
    exact ⟨fun h => h.2, fun h => ⟨hr a h, h⟩⟩
  rw [← p.countP_eq]
  unfold cntM
  rw [List.countP_filter]
end LW
namespace LW
open PySem PySem.Spec L2 TL DL
open PyProof.Rows hiding pairD cutD
theorem lcQ {α : Type} {g : FG} {t : FT} {f : FE} {env : DEnv} {S : Sto} (φ ψ : α → D) (p : α → Bool) : ∀ {l : List α}, (∀ x ∈ l, R (g (φ x) env S) fun e S1 => R (t e S1) fun b S2 => b = p x ∧ S2 = S ∧ (p x = true → R (f e S) fun y S3 => y = ψ x ∧ S3 = S)) → lcD g t f env (l.map φ) S = some ((l.filter p).map ψ, S)
  | [], _ => rfl
  | x :: l, h => by
    obtain ⟨e, S1, h1, b, S2, h2, rfl, rfl, h3⟩ := h x (List.mem_cons_self ..)
    have ih := lcQ φ ψ p (l := l) fun y hy => h y (List.mem_cons_of_mem _ hy)
    show (g (φ x) env S2).bind _ = _
    rw [h1]
    show (t e S1).bind _ = _
    rw [h2]
    show (if p x = true then (f e S2).bind _ else lcD g t f env (l.map φ) S2) = _
    rw [List.filter_cons]
    split
    · rename_i hp
      obtain ⟨y, S3, h4, rfl, rfl⟩ := h3 hp
      rw [h4]
      show (lcD g t f env (l.map φ) S3).bind _ = _
      rw [ih]
      rfl
    · exact ih
theorem lcM {α : Type} {g : FG} {f : FE} {env : DEnv} {S : Sto} (φ ψ : α → D) {l : List α} (h : ∀ x ∈ l, R (g (φ x) env S) fun e S1 => R (f e S1) fun y S3 => y = ψ x ∧ S3 = S) (hg : ∀ x ∈ l, R (g (φ x) env S) fun e S1 => S1 = S) : lcD g tYesD f env (l.map φ) S = some (l.map ψ, S) := by
  rw [lcQ φ ψ (fun _ => true) fun x hx => ?_, List.filter_eq_self.mpr fun _ _ => rfl]
  obtain ⟨e, S1, h1, h2⟩ := h x hx
  obtain ⟨e', S1', h1', rfl⟩ := hg x hx
  rw [h1] at h1'
  cases h1'
  exact ⟨e, S1, h1, true, S1, rfl, rfl, rfl, fun _ => h2⟩
theorem forQ {α : Type} {g : FG} {body : FS} {S : Sto} (φ : α → D) (Q : α → Prop) (E : DEnv → Prop) : ∀ {l : List α} {env : DEnv}, E env → (∀ x ∈ l, ∀ e, E e → R (g (φ x) e S) fun e1 S1 => R (body e1 S1) fun fl S2 => S2 = S ∧ ((∃ e2, fl = .nx e2 ∧ E e2 ∧ Q x) ∨ (fl = .rt (.bl false) ∧ ¬ Q x))) →
    R (forD g body (l.map φ) env S) fun fl S2 => S2 = S ∧ ((∃ e2, fl = .nx e2 ∧ E e2 ∧ ∀ x ∈ l, Q x) ∨ (fl = .rt (.bl false) ∧ ¬ ∀ x ∈ l, Q x))
  | [], env, h0, _ => ⟨_, _, rfl, rfl, Or.inl ⟨env, rfl, h0, fun x hx => by cases hx⟩⟩
  | x :: l, env, h0, hs => by
    obtain ⟨e1, S1, h1, fl, S2, h2, rfl, h3⟩ := hs x (List.mem_cons_self ..) env h0
    rw [R]
    show ∃ a S', (g (φ x) env S2).bind _ = some (a, S') ∧ _
    rw [h1]
    show ∃ a S', (body e1 S1).bind _ = some (a, S') ∧ _
    rw [h2]
    rcases h3 with ⟨e2, rfl, h4, h5⟩ | ⟨rfl, h5⟩
    · obtain ⟨fl, S3, h6, rfl, h7⟩ := forQ φ Q E (l := l) h4 fun y hy => hs y (List.mem_cons_of_mem _ hy)
      refine ⟨fl, S3, h6, rfl, ?_⟩
      rcases h7 with ⟨e3, rfl, h8, h9⟩ | ⟨rfl, h8⟩
      · refine Or.inl ⟨e3, rfl, h8, fun y hy => ?_⟩
        rcases List.mem_cons.mp hy with rfl | hy
        · exact h5
        · exact h9 y hy
      · exact Or.inr ⟨rfl, fun h => h8 fun y hy => h y (List.mem_cons_of_mem _ hy)⟩
    · exact ⟨_, _, rfl, rfl, Or.inr ⟨rfl, fun h => h5 (h x (List.mem_cons_self ..))⟩⟩
theorem asInts_of : ∀ bs : List Int, asInts (bs.map D.int) = some bs
  | [] => rfl
  | b :: bs => by
    show (asInts (bs.map D.int)).map _ = _
    rw [asInts_of bs]
    rfl
end LW
namespace LW
open PySem PySem.Spec L2 TL DL
open PyProof.Rows hiding pairD cutD
def tB (T : List (Int × Int)) (p q : Int) : Bool := decide ((min p q, max p q) ∈ T)
theorem tB_comm (T : List (Int × Int)) (p q : Int) : tB T p q = tB T q p := by
  unfold tB
  rw [Int.min_comm, Int.max_comm]
/-- ties in any order, each once -/
structure TS (n : Int) (T : List (Int × Int)) : Prop where
  rng : ∀ p ∈ T, 0 ≤ p.1 ∧ p.1 < p.2 ∧ p.2 < n
  nodup : T.Nodup
theorem Ties.ts {n : Int} {T : List (Int × Int)} (h : Ties n T) : TS n T := ⟨h.rng, h.nodup⟩
theorem tB_selfS {n : Int} {T : List (Int × Int)} (h : TS n T) (p : Int) : tB T p p = false := decide_eq_false fun hm => by
  have := h.rng _ hm
  simp only [Int.min_self, Int.max_self] at this
  omega
theorem tB_self {n : Int} {T : List (Int × Int)} (h : Ties n T) (p : Int) : tB T p p = false := tB_selfS h.ts p
theorem tB_lt {T : List (Int × Int)} {p q : Int} (h : p < q) : tB T p q = decide ((p, q) ∈ T) := by
  unfold tB
  rw [Int.min_eq_left (by omega), Int.max_eq_right (by omega)]
def inB (xs : List Int) (i : Nat) : Bool := decide ((i : Int) ∈ xs)
end LW
namespace LW
open PySem PySem.Spec L2 TL DL
open PyProof.Rows hiding pairD cutD
theorem inX_of {neg : Bool} {a b : D} {S : Sto} {r : D × Sto} (h : gInB neg a b S = some r) : gInX neg a b S = some r := by
  unfold gInX
  rw [h]
structure NKind (k : Str) (lo : Int) : Prop where
  sp : 32 ∉ tl k
  lk : tab_LEAST.lookup k = some lo
  n1 : k ≠ "odd"
  n2 : k ≠ "even"
  len : k.length ≤ 100
theorem nk_crowd : NKind "crowd" 2 := ⟨by decide +kernel, by decide +kernel, by decide +kernel, by decide +kernel, by decide +kernel⟩
theorem nk_star : NKind "star" 1 := ⟨by decide +kernel, by decide +kernel, by decide +kernel, by decide +kernel, by decide +kernel⟩
theorem nk_pairs : NKind "pairs" 1 := ⟨by decide +kernel, by decide +kernel, by decide +kernel, by decide +kernel, by decide +kernel⟩
theorem nk_row : NKind "row" 2 := ⟨by decide +kernel, by decide +kernel, by decide +kernel, by decide +kernel, by decide +kernel⟩
theorem nk_ring : NKind "ring" 3 := ⟨by decide +kernel, by decide +kernel, by decide +kernel, by decide +kernel, by decide +kernel⟩
theorem nk_core : NKind "core" 1 := ⟨by decide +kernel, by decide +kernel, by decide +kernel, by decide +kernel, by decide +kernel⟩
theorem nk_linked : NKind "linked" 1 := ⟨by decide +kernel, by decide +kernel, by decide +kernel, by decide +kernel, by decide +kernel⟩
inductive NK1 : Str → Int → Prop
  | crowd : NK1 "crowd" 2
  | star : NK1 "star" 1
  | pairs : NK1 "pairs" 1
  | row : NK1 "row" 2
  | ring : NK1 "ring" 3
  | core : NK1 "core" 1
  | linked : NK1 "linked" 1
theorem NK1.kind {o : Str} {lo : Int} (h : NK1 o lo) : NKind o lo ∧ 0 ≤ lo := by
  cases h with
  | crowd => exact ⟨nk_crowd, by decide⟩
  | star => exact ⟨nk_star, by decide⟩
  | pairs => exact ⟨nk_pairs, by decide⟩
  | row => exact ⟨nk_row, by decide⟩
  | ring => exact ⟨nk_ring, by decide⟩
  | core => exact ⟨nk_core, by decide⟩
  | linked => exact ⟨nk_linked, by decide⟩
theorem NK1.or {o : Str} {lo : Int} (h : NK1 o lo) : o = "crowd" ∨ o = "star" ∨ o = "pairs" ∨ o = "row" ∨ o = "ring" ∨ o = "core" ∨ o = "linked" := by
  cases h <;> simp
end LW
namespace LW
open PySem PySem.Spec L2 TL DL
open PyProof.Rows hiding pairD cutD
theorem sh_lst (xs : List Int) : SeqAt.shaped (.list (xs.map PyData.int)) = true := by
  unfold SeqAt.shaped
  rw [show PyData.canLay0 (.list (xs.map PyData.int)) = PyData.canLayAll0 (xs.map PyData.int) from rfl, lay_ints]
  have e : PyData.depth (.list (xs.map PyData.int)) = PyData.depthAll (xs.map PyData.int) + 1 := rfl
  rw [e, depth_ints]
  rfl
theorem rangeN (n : Int) : rangeD 0 n = (List.range n.toNat).map fun (k : Nat) => D.int (0 + (k : Int)) := by
  unfold rangeD
  rw [Int.sub_zero]
end LW
namespace LW
open PySem PySem.Spec L2 TL DL
open PyProof.Rows hiding pairD cutD
theorem cut_drop {α : Type} (ds : List α) (i : Nat) : DL.cutD ds (some (i : Int)) none = ds.drop i := by
  unfold DL.cutD
  rw [HT.sIx_nat, HT.sIx_none]
  by_cases h : i ≤ ds.length
  · rw [Nat.min_eq_left h, List.take_of_length_le (by rw [List.length_drop]; omega)]
  · rw [Nat.min_eq_right (by omega), List.drop_of_length_le (Nat.le_refl _), List.drop_of_length_le (by omega), List.take_nil]
theorem cut_takeA {α : Type} (ds : List α) (i : Nat) : DL.cutD ds none (some (i : Int)) = ds.take i := by
  unfold DL.cutD
  rw [HT.sIx_nat, HT.sIx_none, List.drop_zero, Nat.sub_zero]
  by_cases h : i ≤ ds.length
  · rw [Nat.min_eq_left h]
  · rw [Nat.min_eq_right (by omega), List.take_of_length_le (Nat.le_refl _), List.take_of_length_le (by omega)]
end LW
namespace LW
open PySem PySem.Spec L2 TL DL
open PyProof.Rows hiding pairD cutD
theorem cntM_int {N : Nat} {xs : List Int} (h : Row (N : Int) xs) (t : Int → Bool) : cntM (fun i => t (i : Int) && inB xs i) N = xs.countP t := by
  have nd : (xs.map Int.toNat).Nodup := by
    unfold List.Nodup
    rw [List.pairwise_map]
    refine (List.Pairwise.and_mem.mp h.nd).imp ?_
    rintro a b ⟨ha, hb, hne⟩ e
    have := h.rng a ha
    have := h.rng b hb
    exact hne (by omega)
  have e := cntM_row (n := N) nd (fun x hx => by
    obtain ⟨y, hy, rfl⟩ := List.mem_map.mp hx
    have := h.rng y hy
    omega) (fun i => t (i : Int))
  rw [List.countP_map] at e
  have e2 : xs.countP ((fun (i : Nat) => t (i : Int)) ∘ Int.toNat) = xs.countP t := by
    refine List.countP_congr fun x hx => ?_
    have := h.rng x hx
    show t ((x.toNat : Nat) : Int) = true ↔ _
    rw [show ((x.toNat : Nat) : Int) = x by omega]
  rw [← e2, ← e]
  refine cntM_ext fun i _ => ?_
  congr 1
  unfold inB
  refine decide_eq_decide.mpr ?_
  rw [List.mem_map]
  constructor
  · intro hi
    exact ⟨_, hi, by omega⟩
  · rintro ⟨y, hy, e⟩
    have := h.rng y hy
    rw [show (i : Int) = y by omega]
    exact hy
end LW
namespace LW
open PySem PySem.Spec L2 TL DL
open PyProof.Rows hiding pairD cutD
open Tk
theorem q_forQ {α : Type} {g : FG} {body : FS} {S : Sto} {P : Tk → Fl → Sto → Prop} {env : DEnv} (φ : α → D) (Y : α → Prop) (js : List Nat) {l : List α}
    (hs : ∀ x ∈ l, ∀ e, frm js env e → Qr go (g (φ x) e S) fun tk e1 S1 => Qr tk (body e1 S1) fun _ fl S2 => S2 = S ∧ ((∃ e2, fl = .nx e2 ∧ frm js env e2 ∧ Y x) ∨ (fl = .rt (.bl false) ∧ ¬ Y x)))
    (h1 : (∀ x ∈ l, Y x) → ∀ e, frm js env e → P go (.nx e) S) (h2 : (¬ ∀ x ∈ l, Y x) → P go (.rt (.bl false)) S) : Qr go (forD g body (l.map φ) env S) P := by
  obtain ⟨fl, S2, e, rfl, h⟩ := forQ (env := env) φ Y (frm js env) (frm_refl js env) hs
  rcases h with ⟨e2, rfl, hf, ha⟩ | ⟨rfl, hn⟩
  · exact ⟨_, _, e, h1 ha _ hf⟩
  · exact ⟨_, _, e, h2 hn⟩
theorem range0 (n : Int) : rangeD 0 n = (List.range n.toNat).map fun (k : Nat) => D.int (k : Int) := by
  rw [rangeN]
  simp only [Int.zero_add]
theorem false_of' {X : Prop} (h : ¬ X) : ∃ b, D.bl false = .bl b ∧ (b = true ↔ X) := ⟨false, rfl, fun h => (by cases h), fun x => absurd x h⟩
theorem true_of' {X : Prop} (h : X) : ∃ b, D.bl true = .bl b ∧ (b = true ↔ X) := ⟨true, rfl, fun _ => h, fun _ => rfl⟩
theorem atI_sg {xs : List Int} {i : Int} (h0 : 0 ≤ i) (h1 : i < xs.length) : L2.atI (xs.map D.int) i = some (.int (sg xs i)) := by
  obtain ⟨k, rfl⟩ := Int.eq_ofNat_of_zero_le h0
  have := sg_get (xs := xs) rfl h0 h1
  rw [Int.toNat_natCast] at this
  exact atI_nat (by rw [List.getElem?_map, this]; rfl)
theorem q_lcM {α : Type} {g : FG} {f : FE} {env : DEnv} {S : Sto} {P : Tk → List D → Sto → Prop} (φ ψ : α → D) {l : List α} (h : ∀ x ∈ l, Qr go (g (φ x) env S) fun tk e S1 => S1 = S ∧ Qr tk (f e S) fun _ y S3 => y = ψ x ∧ S3 = S) (p : P go (l.map ψ) S) : Qr go (lcD g tYesD f env (l.map φ) S) P := by
  refine ⟨_, _, lcM φ ψ (fun x hx => ?_) (fun x hx => ?_), p⟩
  · obtain ⟨e, S1, h1, rfl, h2⟩ := h x hx
    exact ⟨e, S1, h1, h2⟩
  · obtain ⟨e, S1, h1, rfl, h2⟩ := h x hx
    exact ⟨e, S1, h1, rfl⟩
theorem q_lcQ {α : Type} {g : FG} {t : FT} {f : FE} {env : DEnv} {S : Sto} {P : Tk → List D → Sto → Prop} (φ ψ : α → D) (p : α → Bool) {l : List α} (h : ∀ x ∈ l, Qr go (g (φ x) env S) fun tk e S1 => Qr tk (t e S1) fun tk b S2 => b = p x ∧ S2 = S ∧ (p x = true → Qr tk (f e S) fun _ y S3 => y = ψ x ∧ S3 = S)) (q : P go ((l.filter p).map ψ) S) : Qr go (lcD g t f env (l.map φ) S) P :=
  ⟨_, _, lcQ φ ψ p h, q⟩
end LW
namespace LW
open PySem PySem.Spec L2 TL DL
open PyProof.Rows hiding pairD cutD
open Tk
theorem cut_take1 (xs : List Int) : DL.cutD (xs.map D.int) none (some 1) = (xs.take 1).map D.int := by
  have := cut_takeA (xs.map D.int) 1
  rw [List.map_take]
  exact this
/-- a comprehension whose turns change the store -/
theorem q_lcE {g : FG} {f : FE} {env : DEnv} {P : Tk → List D → Sto → Prop} (K : D → Prop) (J : Nat → Sto → Prop) {items : List D} {S : Sto} (h0 : J 0 S) (hs : ∀ i d S', items[i]? = some d → J i S' → Qr go (g d env S') fun tk e S1 => Qr tk (f e S1) fun _ y S2 => K y ∧ J (i + 1) S2)
    (k : ∀ ys S', (∀ y ∈ ys, K y) → ys.length = items.length → J items.length S' → P go ys S') : Qr go (lcD g tYesD f env items S) P := by
  suffices h : ∀ (r : List D) (i : Nat) (S : Sto), items.drop i = r → J i S → ∃ ys S', lcD g tYesD f env r S = some (ys, S') ∧ (∀ y ∈ ys, K y) ∧ ys.length = r.length ∧ J (i + r.length) S' by
    obtain ⟨ys, S', e, h1, h2, h3⟩ := h items 0 S rfl h0
    exact ⟨ys, S', e, k ys S' h1 h2 (by simpa using h3)⟩
  intro r
  induction r with
  | nil => intro i S _ hi; exact ⟨[], S, rfl, fun y hy => (by cases hy), rfl, hi⟩
  | cons d r ih =>
    intro i S hd hi
    have q1 : items[i]? = some d := by
      have := congrArg (fun l => l[0]?) hd
      simpa using this
    have q2 : items.drop (i + 1) = r := by
      have := congrArg List.tail hd
      simpa [List.tail_drop] using this
    obtain ⟨e, S1, e1, y, S2, e2, hy, h2⟩ := hs i d S q1 hi
    obtain ⟨ys, S3, e3, h3, h4, h5⟩ := ih (i + 1) S2 q2 h2
    refine ⟨y :: ys, S3, ?_, fun z hz => ?_, by rw [List.length_cons, List.length_cons, h4], by rw [List.length_cons]; rwa [Nat.add_assoc, Nat.add_comm 1] at h5⟩
    · show ((g d env S).bind _) = _
      rw [e1]
      show ((f e S1).bind _) = _
      rw [e2]
      show ((lcD g tYesD f env r S2).bind _) = _
      rw [e3]
      rfl
    · rcases List.mem_cons.mp hz with rfl | hz
      · exact hy
      · exact h3 z hz
end LW
set_option exponentiation.threshold 2000
namespace LW
open PySem PySem.Spec PyProof.Rows L2 DL
def Prs (S : Sto) (i : Nat) : Prop := ∃ a b : Int, S[i]? = some (.lst [.int a, .int b]) ∧ 0 ≤ b ∧ b < 2147483647
theorem small_lit {i : Int} (h : -1000000000000000000000 ≤ i) (h2 : i ≤ 1000000000000000000000) : smallI i = true := small_bd (a := 80) (by
  unfold Bd
  have : (2 : Nat) ^ 80 = 1208925819614629174706176 := by decide
  omega) (by decide) (by decide)
theorem lg_lit {i : Int} (h : 0 ≤ i) (h2 : i ≤ 10000000000000000000000000000000000000000000000000000000000000000000000000000000000) : lgI i := lg_bd (a := 300) (by
  unfold Bd
  have : (2 : Nat) ^ 300 = 2037035976334486086268445688409378161051468393665936250636140449354381299763336706183397376 := by decide
  omega) (by decide)
theorem r_draw {S : Sto} {i : Nat} {m : Int} {P : D → Sto → Prop} (h : Prs S i) (hm : 0 < m) (hm2 : m ≤ 10000000000000000000000000000000000000000000000000000000000000000000000000000000000)
    (k : ∀ r S', 0 ≤ r → r < m → Prs S' i → Apart S S' i → P (.int r) S') : R (w__law_draw [.ref i, .int m] S) P := by
  obtain ⟨a, b, hc, hb, hb2⟩ := h
  unfold w__law_draw d__law_draw b__law_draw
  simp only [R_some, wb_bl, wi_int, wstr_str, wtup_tup, wlst_lst, wref_ref, wp_var0, wp_varS, wp_C, wp_Bin, wp_neg, wp_nil, wp_cons, wp_tup, wp_lst, wp_lstM, wp_Call, wp_And, wp_Or, wp_Not, wp_Test, wp_tAnd, wp_tOr, wp_tNot, wp_If, wp_Chain, wp_Skip, wp_Break, wp_Cont, wp_Never, wp_fNever, wp_Seq, wp_pfl_nx, wp_pfl_rt, wp_pfl_bk, wp_pfl_ct, wp_Expr, wp_Ret, wp_sIf, wp_Asg, wp_N, wp_gNil, wp_gCons, wp_gTup, wp_gSub, wp_Par, wp_two, wp_Run, wp_run_rt, wp_run_nx, wp_bk_nx, wp_bk_ct, wp_bk_bk, wp_bk_rt, wp_r1, wp_r2, wp_add, wp_addL, wp_addS, wp_mul, wp_fdiv, wp_mod, wp_I0, wp_eqI, wp_eqS, wp_eqB, wp_neI, wp_neS, wp_neB, wp_isN, wp_notN, isn_int, isn_non, isn_str, isn_tup, isn_lst, isn_ref, isn_bl, wp_isi, wp_someB, isi_str_str, isi_int_int, isi_int_bl, isi_bool_int, isi_bool_bl, isi_int_non, isi_int_str, isi_tuple_tup, wp_abs, wp_max2, wp_min2, wp_maxT, wp_intI, wp_intB, wp_lenS, wp_lenT, wp_lenL, wp_lenC, wp_divmod, wp_listL, wp_listT, wp_tupL, wp_tupT, wp_KIn, wp_strE, wp_Fld, wp_FldO, wp_Meth, wp_MakeF, wp_someL, wp_iR1, wp_iR2, wp_iLst, wp_iTup, wp_Prop, wp_IsC, wp_DGet1, wp_DIn, wp_gUnl, wp_DictK, wp_rep, wp_MethK, wp_CallK, wp_DispF, wp_DIx, wp_someX, wp_ixL, wp_ixT, wp_ixC, atI0, atI1, atI2, ixN0, ixN1, wp_Sl, wp_oNone, wp_oSome, wp_slC, wp_slL, wp_slS, str_eq, String.reduceEq, in_ring_crowd, in_ring_star, in_ring_pairs, in_ring_row, in_ring_ring, in_ring_core, in_ring_linked, in_ring_odd_ring, in_ring_even_ring, Bool.or_self, Bool.and_self, wp_Lc, wp_Yes, wp_pow10_9, wp_pow10_18, wp_pow10_40, wp_For, wp_sFld, wp_last, set_last, wp_KIx, wp_inT, wp_inL, eqF_str, flat_str, flat_int, flat_non, List.any_cons, List.any_nil, List.all_cons, List.all_nil, Bool.and_true, Bool.or_false, Bool.true_and, Bool.false_and, Bool.and_false, Bool.false_or, Bool.or_true, Bool.true_or, Bool.not_not, List.map_cons, List.map_nil, List.length_cons, List.length_nil, List.cons_append, List.nil_append, List.append_nil, List.set_cons_zero, List.set_cons_succ, List.replicate_succ, List.replicate_zero, Nat.reduceSub, Nat.reduceAdd, Nat.reduceLeDiff, Nat.zero_add, Nat.sub_self, decide_eq_true_eq, Bool.not_eq_true', Bool.not_eq_eq_eq_not, Bool.not_true, Bool.not_false, decide_eq_false_iff_not, if_true, if_false, reduceIte, Bool.false_eq_true, true_and, and_true, decide_true, decide_false, Bool.true_eq_false, eq_self, wp_ixR hc, wp_setR hc, wp_aXi, wp_ltX, wp_leX, wp_SlX, wp_sXc, wp_sXl, wp_aXl, wp_intI]
  have hs : smallI b = true := small_lit (by omega) (by omega)
  by_cases ha : 0 < a
  · rw [if_pos ha]
    refine ⟨⟨hm, lg_lit (by omega) hm2⟩, k _ _ (Int.emod_nonneg _ (by omega)) (Int.emod_lt_of_pos _ hm) ⟨a / m, b, set_at hc, hb, hb2⟩ (Apart.set _ _ _)⟩
  · rw [if_neg ha]
    have hc2 : (S.set i (Cell.lst [.int a, .int ((b * 69621 + 40503) % 2147483647)]))[i]? = some (.lst [.int a, .int ((b * 69621 + 40503) % 2147483647)]) := set_at hc
    simp only [R_some, wb_bl, wi_int, wstr_str, wtup_tup, wlst_lst, wref_ref, wp_var0, wp_varS, wp_C, wp_Bin, wp_neg, wp_nil, wp_cons, wp_tup, wp_lst, wp_lstM, wp_Call, wp_And, wp_Or, wp_Not, wp_Test, wp_tAnd, wp_tOr, wp_tNot, wp_If, wp_Chain, wp_Skip, wp_Break, wp_Cont, wp_Never, wp_fNever, wp_Seq, wp_pfl_nx, wp_pfl_rt, wp_pfl_bk, wp_pfl_ct, wp_Expr, wp_Ret, wp_sIf, wp_Asg, wp_N, wp_gNil, wp_gCons, wp_gTup, wp_gSub, wp_Par, wp_two, wp_Run, wp_run_rt, wp_run_nx, wp_bk_nx, wp_bk_ct, wp_bk_bk, wp_bk_rt, wp_r1, wp_r2, wp_add, wp_addL, wp_addS, wp_mul, wp_fdiv, wp_mod, wp_I0, wp_eqI, wp_eqS, wp_eqB, wp_neI, wp_neS, wp_neB, wp_isN, wp_notN, isn_int, isn_non, isn_str, isn_tup, isn_lst, isn_ref, isn_bl, wp_isi, wp_someB, isi_str_str, isi_int_int, isi_int_bl, isi_bool_int, isi_bool_bl, isi_int_non, isi_int_str, isi_tuple_tup, wp_abs, wp_max2, wp_min2, wp_maxT, wp_intI, wp_intB, wp_lenS, wp_lenT, wp_lenL, wp_lenC, wp_divmod, wp_listL, wp_listT, wp_tupL, wp_tupT, wp_KIn, wp_strE, wp_Fld, wp_FldO, wp_Meth, wp_MakeF, wp_someL, wp_iR1, wp_iR2, wp_iLst, wp_iTup, wp_Prop, wp_IsC, wp_DGet1, wp_DIn, wp_gUnl, wp_DictK, wp_rep, wp_MethK, wp_CallK, wp_DispF, wp_DIx, wp_someX, wp_ixL, wp_ixT, wp_ixC, atI0, atI1, atI2, ixN0, ixN1, wp_Sl, wp_oNone, wp_oSome, wp_slC, wp_slL, wp_slS, str_eq, String.reduceEq, in_ring_crowd, in_ring_star, in_ring_pairs, in_ring_row, in_ring_ring, in_ring_core, in_ring_linked, in_ring_odd_ring, in_ring_even_ring, Bool.or_self, Bool.and_self, wp_Lc, wp_Yes, wp_pow10_9, wp_pow10_18, wp_pow10_40, wp_For, wp_sFld, wp_last, set_last, wp_KIx, wp_inT, wp_inL, eqF_str, flat_str, flat_int, flat_non, List.any_cons, List.any_nil, List.all_cons, List.all_nil, Bool.and_true, Bool.or_false, Bool.true_and, Bool.false_and, Bool.and_false, Bool.false_or, Bool.or_true, Bool.true_or, Bool.not_not, List.map_cons, List.map_nil, List.length_cons, List.length_nil, List.cons_append, List.nil_append, List.append_nil, List.set_cons_zero, List.set_cons_succ, List.replicate_succ, List.replicate_zero, Nat.reduceSub, Nat.reduceAdd, Nat.reduceLeDiff, Nat.zero_add, Nat.sub_self, decide_eq_true_eq, Bool.not_eq_true', Bool.not_eq_eq_eq_not, Bool.not_true, Bool.not_false, decide_eq_false_iff_not, if_true, if_false, reduceIte, Bool.false_eq_true, true_and, and_true, decide_true, decide_false, Bool.true_eq_false, eq_self, wp_ixR hc2, wp_aXi, wp_ltX, wp_leX, wp_SlX, wp_sXc, wp_sXl, wp_aXl, wp_intI]
    refine ⟨⟨hs, small_lit (by decide) (by decide)⟩, by decide, ⟨by decide, lg_lit (by decide) (by decide)⟩, hm, ?_⟩
    exact k _ _ (Int.emod_nonneg _ (by omega)) (Int.emod_lt_of_pos _ hm) ⟨a, _, hc2, Int.emod_nonneg _ (by decide), Int.emod_lt_of_pos _ (by decide)⟩ (Apart.set _ _ _)
theorem r_purse (ns : List Int) (hns : ns.length ≤ 63) (k : Int) (h0 : 0 ≤ k) (hk : k ≤ 1000) (S : Sto) {P : D → Sto → Prop} (hP : ∀ S', S'.length = S.length + 1 → Prs S' S.length → (∀ j, j < S.length → S'[j]? = S[j]?) → P (.ref S.length) S') : R (w__law_purse [.scr ns, .int k] S) P := by
  have hcell : ∀ Q : D → Sto → Prop, (∀ z, Q (.int z) S) → R ((fIf (fTest (fBin gLt (fVar 1) (fCall cLen (fCons (fVar 0) fNil)))) (fBin gIx (fVar 0) (fVar 1)) (fBin gMul (fC (.int 7919)) (fBin gAdd (fVar 1) (fC (.int 5))))) [some (.scr ns), some (.int k), none, none, none] S) Q := by
    intro Q hQ
    simp only [R_some, wb_bl, wi_int, wstr_str, wtup_tup, wlst_lst, wref_ref, wp_var0, wp_varS, wp_C, wp_Bin, wp_neg, wp_nil, wp_cons, wp_tup, wp_lst, wp_lstM, wp_Call, wp_And, wp_Or, wp_Not, wp_Test, wp_tAnd, wp_tOr, wp_tNot, wp_If, wp_Chain, wp_Skip, wp_Break, wp_Cont, wp_Never, wp_fNever, wp_Seq, wp_pfl_nx, wp_pfl_rt, wp_pfl_bk, wp_pfl_ct, wp_Expr, wp_Ret, wp_sIf, wp_Asg, wp_N, wp_gNil, wp_gCons, wp_gTup, wp_gSub, wp_Par, wp_two, wp_Run, wp_run_rt, wp_run_nx, wp_bk_nx, wp_bk_ct, wp_bk_bk, wp_bk_rt, wp_r1, wp_r2, wp_add, wp_addL, wp_addS, wp_mul, wp_fdiv, wp_mod, wp_I0, wp_eqI, wp_eqS, wp_eqB, wp_neI, wp_neS, wp_neB, wp_isN, wp_notN, isn_int, isn_non, isn_str, isn_tup, isn_lst, isn_ref, isn_bl, wp_isi, wp_someB, isi_str_str, isi_int_int, isi_int_bl, isi_bool_int, isi_bool_bl, isi_int_non, isi_int_str, isi_tuple_tup, wp_abs, wp_max2, wp_min2, wp_maxT, wp_intI, wp_intB, wp_lenS, wp_lenT, wp_lenL, wp_lenC, wp_divmod, wp_listL, wp_listT, wp_tupL, wp_tupT, wp_KIn, wp_strE, wp_Fld, wp_FldO, wp_Meth, wp_MakeF, wp_someL, wp_iR1, wp_iR2, wp_iLst, wp_iTup, wp_Prop, wp_IsC, wp_DGet1, wp_DIn, wp_gUnl, wp_DictK, wp_rep, wp_MethK, wp_CallK, wp_DispF, wp_DIx, wp_someX, wp_ixL, wp_ixT, wp_ixC, atI0, atI1, atI2, ixN0, ixN1, wp_Sl, wp_oNone, wp_oSome, wp_slC, wp_slL, wp_slS, str_eq, String.reduceEq, in_ring_crowd, in_ring_star, in_ring_pairs, in_ring_row, in_ring_ring, in_ring_core, in_ring_linked, in_ring_odd_ring, in_ring_even_ring, Bool.or_self, Bool.and_self, wp_Lc, wp_Yes, wp_pow10_9, wp_pow10_18, wp_pow10_40, wp_For, wp_sFld, wp_last, set_last, wp_KIx, wp_inT, wp_inL, eqF_str, flat_str, flat_int, flat_non, List.any_cons, List.any_nil, List.all_cons, List.all_nil, Bool.and_true, Bool.or_false, Bool.true_and, Bool.false_and, Bool.and_false, Bool.false_or, Bool.or_true, Bool.true_or, Bool.not_not, List.map_cons, List.map_nil, List.length_cons, List.length_nil, List.cons_append, List.nil_append, List.append_nil, List.set_cons_zero, List.set_cons_succ, List.replicate_succ, List.replicate_zero, Nat.reduceSub, Nat.reduceAdd, Nat.reduceLeDiff, Nat.zero_add, Nat.sub_self, decide_eq_true_eq, Bool.not_eq_true', Bool.not_eq_eq_eq_not, Bool.not_true, Bool.not_false, decide_eq_false_iff_not, if_true, if_false, reduceIte, Bool.false_eq_true, true_and, and_true, decide_true, decide_false, Bool.true_eq_false, eq_self, wp_aXi, wp_ltX, wp_leX, wp_SlX, wp_sXc, wp_sXl, wp_aXl, wp_intI]
    split
    · rename_i hk
      obtain ⟨x, hx, _⟩ := atI_in (xs := ns) h0 hk
      exact ⟨x, hx, hQ x⟩
    · exact ⟨⟨small_lit (by decide) (by decide), small_lit (by omega) (by omega)⟩, hQ _⟩
  unfold w__law_purse d__law_purse b__law_purse
  simp only [R_some, wb_bl, wi_int, wstr_str, wtup_tup, wlst_lst, wref_ref, wp_var0, wp_varS, wp_C, wp_Bin, wp_neg, wp_nil, wp_cons, wp_tup, wp_lst, wp_lstM, wp_Call, wp_And, wp_Or, wp_Not, wp_Test, wp_tAnd, wp_tOr, wp_tNot, wp_Chain, wp_Skip, wp_Break, wp_Cont, wp_Never, wp_fNever, wp_Seq, wp_pfl_nx, wp_pfl_rt, wp_pfl_bk, wp_pfl_ct, wp_Expr, wp_Ret, wp_sIf, wp_Asg, wp_N, wp_gNil, wp_gCons, wp_gTup, wp_gSub, wp_Par, wp_two, wp_Run, wp_run_rt, wp_run_nx, wp_bk_nx, wp_bk_ct, wp_bk_bk, wp_bk_rt, wp_r1, wp_r2, wp_add, wp_addL, wp_addS, wp_mul, wp_fdiv, wp_mod, wp_I0, wp_eqI, wp_eqS, wp_eqB, wp_neI, wp_neS, wp_neB, wp_isN, wp_notN, isn_int, isn_non, isn_str, isn_tup, isn_lst, isn_ref, isn_bl, wp_isi, wp_someB, isi_str_str, isi_int_int, isi_int_bl, isi_bool_int, isi_bool_bl, isi_int_non, isi_int_str, isi_tuple_tup, wp_abs, wp_max2, wp_min2, wp_maxT, wp_intI, wp_intB, wp_lenS, wp_lenT, wp_lenL, wp_lenC, wp_divmod, wp_listL, wp_listT, wp_tupL, wp_tupT, wp_KIn, wp_strE, wp_Fld, wp_FldO, wp_Meth, wp_MakeF, wp_someL, wp_iR1, wp_iR2, wp_iLst, wp_iTup, wp_Prop, wp_IsC, wp_DGet1, wp_DIn, wp_gUnl, wp_DictK, wp_rep, wp_MethK, wp_CallK, wp_DispF, wp_DIx, wp_someX, wp_ixL, wp_ixT, wp_ixC, atI0, atI1, atI2, ixN0, ixN1, wp_Sl, wp_oNone, wp_oSome, wp_slC, wp_slL, wp_slS, str_eq, String.reduceEq, in_ring_crowd, in_ring_star, in_ring_pairs, in_ring_row, in_ring_ring, in_ring_core, in_ring_linked, in_ring_odd_ring, in_ring_even_ring, Bool.or_self, Bool.and_self, wp_Lc, wp_Yes, wp_pow10_9, wp_pow10_18, wp_pow10_40, wp_sFld, wp_last, set_last, wp_KIx, wp_inT, wp_inL, eqF_str, flat_str, flat_int, flat_non, List.any_cons, List.any_nil, List.all_cons, List.all_nil, Bool.and_true, Bool.or_false, Bool.true_and, Bool.false_and, Bool.and_false, Bool.false_or, Bool.or_true, Bool.true_or, Bool.not_not, List.map_cons, List.map_nil, List.length_cons, List.length_nil, List.cons_append, List.nil_append, List.append_nil, List.set_cons_zero, List.set_cons_succ, List.replicate_succ, List.replicate_zero, Nat.reduceSub, Nat.reduceAdd, Nat.reduceLeDiff, Nat.zero_add, Nat.sub_self, decide_eq_true_eq, Bool.not_eq_true', Bool.not_eq_eq_eq_not, Bool.not_true, Bool.not_false, decide_eq_false_iff_not, if_true, if_false, reduceIte, Bool.false_eq_true, true_and, and_true, decide_true, decide_false, Bool.true_eq_false, eq_self, wp_aXi, wp_ltX, wp_leX, wp_SlX, wp_sXc, wp_sXl, wp_aXl, wp_intI]
  refine hcell _ fun z => ?_
  refine r_forM (S1 := S) (items := (cutD ns none (some 5)).map D.int ++ [D.int z]) ?_ (fun env S2 => S2 = S ∧ ∃ (b : Int) (e : Option D), env = [some (.scr ns), some (.int k), some (.int z), some (.int b), e] ∧ 0 ≤ b ∧ b < 2147483647) ⟨rfl, _, _, rfl, by omega, by omega⟩ ?_ ?_
  · rw [← R_eq]
    simp only [R_some, wb_bl, wi_int, wstr_str, wtup_tup, wlst_lst, wref_ref, wp_var0, wp_varS, wp_C, wp_Bin, wp_neg, wp_nil, wp_cons, wp_tup, wp_lst, wp_lstM, wp_Call, wp_And, wp_Or, wp_Not, wp_Test, wp_tAnd, wp_tOr, wp_tNot, wp_If, wp_Chain, wp_Skip, wp_Break, wp_Cont, wp_Never, wp_fNever, wp_Seq, wp_pfl_nx, wp_pfl_rt, wp_pfl_bk, wp_pfl_ct, wp_Expr, wp_Ret, wp_sIf, wp_Asg, wp_N, wp_gNil, wp_gCons, wp_gTup, wp_gSub, wp_Par, wp_two, wp_Run, wp_run_rt, wp_run_nx, wp_bk_nx, wp_bk_ct, wp_bk_bk, wp_bk_rt, wp_r1, wp_r2, wp_add, wp_addL, wp_addS, wp_mul, wp_fdiv, wp_mod, wp_I0, wp_eqI, wp_eqS, wp_eqB, wp_neI, wp_neS, wp_neB, wp_isN, wp_notN, isn_int, isn_non, isn_str, isn_tup, isn_lst, isn_ref, isn_bl, wp_isi, wp_someB, isi_str_str, isi_int_int, isi_int_bl, isi_bool_int, isi_bool_bl, isi_int_non, isi_int_str, isi_tuple_tup, wp_abs, wp_max2, wp_min2, wp_maxT, wp_intI, wp_intB, wp_lenS, wp_lenT, wp_lenL, wp_lenC, wp_divmod, wp_listL, wp_listT, wp_tupL, wp_tupT, wp_KIn, wp_strE, wp_Fld, wp_FldO, wp_Meth, wp_MakeF, wp_someL, wp_iR1, wp_iR2, wp_iLst, wp_iTup, wp_Prop, wp_IsC, wp_DGet1, wp_DIn, wp_gUnl, wp_DictK, wp_rep, wp_MethK, wp_CallK, wp_DispF, wp_DIx, wp_someX, wp_ixL, wp_ixT, wp_ixC, atI0, atI1, atI2, ixN0, ixN1, wp_Sl, wp_oNone, wp_oSome, wp_slC, wp_slL, wp_slS, str_eq, String.reduceEq, in_ring_crowd, in_ring_star, in_ring_pairs, in_ring_row, in_ring_ring, in_ring_core, in_ring_linked, in_ring_odd_ring, in_ring_even_ring, Bool.or_self, Bool.and_self, wp_Lc, wp_Yes, wp_pow10_9, wp_pow10_18, wp_pow10_40, wp_For, wp_sFld, wp_last, set_last, wp_KIx, wp_inT, wp_inL, eqF_str, flat_str, flat_int, flat_non, List.any_cons, List.any_nil, List.all_cons, List.all_nil, Bool.and_true, Bool.or_false, Bool.true_and, Bool.false_and, Bool.and_false, Bool.false_or, Bool.or_true, Bool.true_or, Bool.not_not, List.map_cons, List.map_nil, List.length_cons, List.length_nil, List.cons_append, List.nil_append, List.append_nil, List.set_cons_zero, List.set_cons_succ, List.replicate_succ, List.replicate_zero, Nat.reduceSub, Nat.reduceAdd, Nat.reduceLeDiff, Nat.zero_add, Nat.sub_self, decide_eq_true_eq, Bool.not_eq_true', Bool.not_eq_eq_eq_not, Bool.not_true, Bool.not_false, decide_eq_false_iff_not, if_true, if_false, reduceIte, Bool.false_eq_true, true_and, and_true, decide_true, decide_false, Bool.true_eq_false, eq_self, wp_aXi, wp_ltX, wp_leX, wp_SlX, wp_sXc, wp_sXl, wp_aXl, wp_intI]
    rw [List.length_map]
    unfold DL.cutD
    rw [List.length_take, List.length_drop]
    omega
  · rintro d hd env S2 ⟨rfl, b, e, rfl, hb, hb2⟩
    have hz : ∃ y, d = .int y := by
      rcases List.mem_append.mp hd with q | q
      · obtain ⟨y, _, rfl⟩ := List.mem_map.mp q
        exact ⟨y, rfl⟩
      · exact ⟨z, by simpa using q⟩
    obtain ⟨y, rfl⟩ := hz
    simp only [R_some, wb_bl, wi_int, wstr_str, wtup_tup, wlst_lst, wref_ref, wp_var0, wp_varS, wp_C, wp_Bin, wp_neg, wp_nil, wp_cons, wp_tup, wp_lst, wp_lstM, wp_Call, wp_And, wp_Or, wp_Not, wp_Test, wp_tAnd, wp_tOr, wp_tNot, wp_If, wp_Chain, wp_Skip, wp_Break, wp_Cont, wp_Never, wp_fNever, wp_Seq, wp_pfl_nx, wp_pfl_rt, wp_pfl_bk, wp_pfl_ct, wp_Expr, wp_Ret, wp_sIf, wp_Asg, wp_N, wp_gNil, wp_gCons, wp_gTup, wp_gSub, wp_Par, wp_two, wp_Run, wp_run_rt, wp_run_nx, wp_bk_nx, wp_bk_ct, wp_bk_bk, wp_bk_rt, wp_r1, wp_r2, wp_add, wp_addL, wp_addS, wp_mul, wp_fdiv, wp_mod, wp_I0, wp_eqI, wp_eqS, wp_eqB, wp_neI, wp_neS, wp_neB, wp_isN, wp_notN, isn_int, isn_non, isn_str, isn_tup, isn_lst, isn_ref, isn_bl, wp_isi, wp_someB, isi_str_str, isi_int_int, isi_int_bl, isi_bool_int, isi_bool_bl, isi_int_non, isi_int_str, isi_tuple_tup, wp_abs, wp_max2, wp_min2, wp_maxT, wp_intI, wp_intB, wp_lenS, wp_lenT, wp_lenL, wp_lenC, wp_divmod, wp_listL, wp_listT, wp_tupL, wp_tupT, wp_KIn, wp_strE, wp_Fld, wp_FldO, wp_Meth, wp_MakeF, wp_someL, wp_iR1, wp_iR2, wp_iLst, wp_iTup, wp_Prop, wp_IsC, wp_DGet1, wp_DIn, wp_gUnl, wp_DictK, wp_rep, wp_MethK, wp_CallK, wp_DispF, wp_DIx, wp_someX, wp_ixL, wp_ixT, wp_ixC, atI0, atI1, atI2, ixN0, ixN1, wp_Sl, wp_oNone, wp_oSome, wp_slC, wp_slL, wp_slS, str_eq, String.reduceEq, in_ring_crowd, in_ring_star, in_ring_pairs, in_ring_row, in_ring_ring, in_ring_core, in_ring_linked, in_ring_odd_ring, in_ring_even_ring, Bool.or_self, Bool.and_self, wp_Lc, wp_Yes, wp_pow10_9, wp_pow10_18, wp_pow10_40, wp_For, wp_sFld, wp_last, set_last, wp_KIx, wp_inT, wp_inL, eqF_str, flat_str, flat_int, flat_non, List.any_cons, List.any_nil, List.all_cons, List.all_nil, Bool.and_true, Bool.or_false, Bool.true_and, Bool.false_and, Bool.and_false, Bool.false_or, Bool.or_true, Bool.true_or, Bool.not_not, List.map_cons, List.map_nil, List.length_cons, List.length_nil, List.cons_append, List.nil_append, List.append_nil, List.set_cons_zero, List.set_cons_succ, List.replicate_succ, List.replicate_zero, Nat.reduceSub, Nat.reduceAdd, Nat.reduceLeDiff, Nat.zero_add, Nat.sub_self, decide_eq_true_eq, Bool.not_eq_true', Bool.not_eq_eq_eq_not, Bool.not_true, Bool.not_false, decide_eq_false_iff_not, if_true, if_false, reduceIte, Bool.false_eq_true, true_and, and_true, decide_true, decide_false, Bool.true_eq_false, eq_self, wp_aXi, wp_ltX, wp_leX, wp_SlX, wp_sXc, wp_sXl, wp_aXl, wp_intI]
    refine ⟨⟨small_lit (by omega) (by omega), small_lit (by decide) (by decide)⟩, by decide, by decide, ⟨_, _, rfl, Int.emod_nonneg _ (by decide), Int.emod_lt_of_pos _ (by decide)⟩⟩
  · rintro env S2 ⟨rfl, b, e, rfl, hb, hb2⟩
    simp only [R_some, wb_bl, wi_int, wstr_str, wtup_tup, wlst_lst, wref_ref, wp_var0, wp_varS, wp_C, wp_Bin, wp_neg, wp_nil, wp_cons, wp_tup, wp_lst, wp_lstM, wp_Call, wp_And, wp_Or, wp_Not, wp_Test, wp_tAnd, wp_tOr, wp_tNot, wp_If, wp_Chain, wp_Skip, wp_Break, wp_Cont, wp_Never, wp_fNever, wp_Seq, wp_pfl_nx, wp_pfl_rt, wp_pfl_bk, wp_pfl_ct, wp_Expr, wp_Ret, wp_sIf, wp_Asg, wp_N, wp_gNil, wp_gCons, wp_gTup, wp_gSub, wp_Par, wp_two, wp_Run, wp_run_rt, wp_run_nx, wp_bk_nx, wp_bk_ct, wp_bk_bk, wp_bk_rt, wp_r1, wp_r2, wp_add, wp_addL, wp_addS, wp_mul, wp_fdiv, wp_mod, wp_I0, wp_eqI, wp_eqS, wp_eqB, wp_neI, wp_neS, wp_neB, wp_isN, wp_notN, isn_int, isn_non, isn_str, isn_tup, isn_lst, isn_ref, isn_bl, wp_isi, wp_someB, isi_str_str, isi_int_int, isi_int_bl, isi_bool_int, isi_bool_bl, isi_int_non, isi_int_str, isi_tuple_tup, wp_abs, wp_max2, wp_min2, wp_maxT, wp_intI, wp_intB, wp_lenS, wp_lenT, wp_lenL, wp_lenC, wp_divmod, wp_listL, wp_listT, wp_tupL, wp_tupT, wp_KIn, wp_strE, wp_Fld, wp_FldO, wp_Meth, wp_MakeF, wp_someL, wp_iR1, wp_iR2, wp_iLst, wp_iTup, wp_Prop, wp_IsC, wp_DGet1, wp_DIn, wp_gUnl, wp_DictK, wp_rep, wp_MethK, wp_CallK, wp_DispF, wp_DIx, wp_someX, wp_ixL, wp_ixT, wp_ixC, atI0, atI1, atI2, ixN0, ixN1, wp_Sl, wp_oNone, wp_oSome, wp_slC, wp_slL, wp_slS, str_eq, String.reduceEq, in_ring_crowd, in_ring_star, in_ring_pairs, in_ring_row, in_ring_ring, in_ring_core, in_ring_linked, in_ring_odd_ring, in_ring_even_ring, Bool.or_self, Bool.and_self, wp_Lc, wp_Yes, wp_pow10_9, wp_pow10_18, wp_pow10_40, wp_For, wp_sFld, wp_last, set_last, wp_KIx, wp_inT, wp_inL, eqF_str, flat_str, flat_int, flat_non, List.any_cons, List.any_nil, List.all_cons, List.all_nil, Bool.and_true, Bool.or_false, Bool.true_and, Bool.false_and, Bool.and_false, Bool.false_or, Bool.or_true, Bool.true_or, Bool.not_not, List.map_cons, List.map_nil, List.length_cons, List.length_nil, List.cons_append, List.nil_append, List.append_nil, List.set_cons_zero, List.set_cons_succ, List.replicate_succ, List.replicate_zero, Nat.reduceSub, Nat.reduceAdd, Nat.reduceLeDiff, Nat.zero_add, Nat.sub_self, decide_eq_true_eq, Bool.not_eq_true', Bool.not_eq_eq_eq_not, Bool.not_true, Bool.not_false, decide_eq_false_iff_not, if_true, if_false, reduceIte, Bool.false_eq_true, true_and, and_true, decide_true, decide_false, Bool.true_eq_false, eq_self, wp_aXi, wp_ltX, wp_leX, wp_SlX, wp_sXc, wp_sXl, wp_aXl, wp_intI]
    have q : ∀ a : Int, P (.ref S2.length) (S2 ++ [.lst [.int a, .int b]]) := fun a => hP _ (by simp) ⟨a, b, by simp, hb, hb2⟩ fun j hj => by rw [List.getElem?_append_left hj]
    repeat' split
    all_goals exact q _
end LW
namespace LW
open PySem PySem.Spec L2 TL DL
open PyProof.Rows hiding pairD cutD
open Tk
def fst0 (s : Nat → Bool) (i : Nat) : Bool := s i && (List.range i).all fun j => !s j
def step0 (A : Nat → Nat → Bool) (N : Nat) (s u : Nat → Bool) (i : Nat) : Bool := u i || (s i && (List.range N).any fun j => A i j && u j)
def grow (A : Nat → Nat → Bool) (N : Nat) (s : Nat → Bool) : Nat → Nat → Bool
  | 0 => fst0 s
  | t + 1 => step0 A N s (grow A N s t)
def HangL (A : Int → Int → Bool) (xs : List Int) : Prop := ∀ U : Int → Prop, (∀ f, xs[0]? = some f → U f) → (∀ x y, x ∈ xs → y ∈ xs → U x → A x y = true → U y) → ∀ y ∈ xs, U y
/-- what a walk through the neighbours has found -/
structure Found (A : Int → Int → Bool) (xs F : List Int) (t : Nat) : Prop where
  nd : F.Nodup
  sub : ∀ x ∈ F, x ∈ xs
  first : ∀ f, xs[0]? = some f → f ∈ F
  sound : ∀ U : Int → Prop, (∀ f, xs[0]? = some f → U f) → (∀ x y, x ∈ xs → y ∈ xs → U x → A x y = true → U y) → ∀ x ∈ F, U x
  full : F.length = xs.length ∨ ∀ p x, p < t → F[p]? = some x → ∀ y ∈ xs, A x y = true → y ∈ F
theorem found0 {A : Int → Int → Bool} {xs : List Int} (h : xs.Nodup) : Found A xs (xs.take 1) 0 := by
  cases xs with
  | nil => exact ⟨List.nodup_nil, fun x hx => (by cases hx), fun f hf => (by cases hf), fun U _ _ x hx => (by cases hx), Or.inl rfl⟩
  | cons x r => exact ⟨List.nodup_cons.mpr ⟨(by simp), List.nodup_nil⟩, fun y hy => (by rw [List.mem_singleton.mp hy]; exact List.mem_cons_self ..), fun f hf => (by cases hf; exact List.mem_singleton.mpr rfl), fun U hf _ y hy => (by rw [List.mem_singleton.mp hy]; exact hf x rfl), Or.inr fun p x hp => absurd hp (Nat.not_lt_zero _)⟩
theorem nodup_le : ∀ {xs F : List Int}, F.Nodup → (∀ x ∈ F, x ∈ xs) → F.length ≤ xs.length
  | xs, [], _, _ => Nat.zero_le _
  | xs, x :: F, nd, sub => by
    have hx := sub x (List.mem_cons_self ..)
    have n := List.nodup_cons.mp nd
    have ih := nodup_le (xs := xs.erase x) n.2 fun y hy => (List.mem_erase_of_ne (show y ≠ x from fun e => n.1 (by rw [← e]; exact hy))).mpr (sub y (List.mem_cons_of_mem _ hy))
    rw [List.length_erase_of_mem hx] at ih
    have := List.length_pos_of_mem hx
    rw [List.length_cons]
    omega
theorem nodup_full {xs F : List Int} (nd : F.Nodup) (sub : ∀ x ∈ F, x ∈ xs) (h : F.length = xs.length) {y : Int} (hy : y ∈ xs) : y ∈ F := by
  refine Classical.byContradiction fun hn => ?_
  have := nodup_le (xs := xs) (F := y :: F) (List.nodup_cons.mpr ⟨hn, nd⟩) fun z hz => by
    rcases List.mem_cons.mp hz with rfl | hz
    · exact hy
    · exact sub z hz
  rw [List.length_cons] at this
  omega
end LW
namespace LW
open PySem PySem.Spec L2 TL DL
open PyProof.Rows hiding pairD cutD
open Tk
abbrev adj (T : List (Int × Int)) (i j : Nat) : Bool := tB T (i : Int) (j : Int)
end LW
namespace LW
open PySem PySem.Spec L2 TL DL
open PyProof.Rows hiding pairD cutD
open Tk
def del (s : Nat → Bool) (p i : Nat) : Bool := s i && decide (i ≠ p)
theorem del_t {s : Nat → Bool} {p i : Nat} : del s p i = true ↔ s i = true ∧ i ≠ p := by
  unfold del
  rw [Bool.and_eq_true, decide_eq_true_eq]
section
variable {N : Nat} {A : Nat → Nat → Bool} {s t : Nat → Bool} {p k : Nat}
theorem cnt_le : ∀ {N : Nat} {u v : Nat → Bool}, (∀ j, j < N → u j = true → v j = true) → cntM u N ≤ cntM v N := fun {N u v} h =>
  List.countP_mono_left fun j hj => h j (List.mem_range.mp hj)
def CrowdP (N : Nat) (A : Nat → Nat → Bool) (s : Nat → Bool) (k : Nat) : Prop := ∃ c : Nat → Bool, (∀ i, i < N → c i = true → s i = true) ∧ cntM c N = k ∧ ∀ i j, i < N → j < N → c i = true → c j = true → i ≠ j → A i j = true
inductive Mt (N : Nat) (A : Nat → Nat → Bool) : (Nat → Bool) → Nat → Prop
  | nil (s : Nat → Bool) : Mt N A s 0
  | cons {s : Nat → Bool} {k : Nat} (i j : Nat) : i < N → j < N → i ≠ j → s i = true → s j = true → A i j = true → Mt N A (del (del s i) j) k → Mt N A s (k + 1)
theorem mt_mono (h : Mt N A s k) : ∀ {t : Nat → Bool}, (∀ i, i < N → s i = true → t i = true) → Mt N A t k := by
  induction h with
  | nil s => exact fun _ => Mt.nil _
  | @cons s k i j hi hj hne si sj a _ ih =>
    intro t ht
    refine Mt.cons i j hi hj hne (ht i hi si) (ht j hj sj) a (ih fun m hm hd => ?_)
    have := del_t.mp hd
    have h2 := del_t.mp this.1
    exact del_t.mpr ⟨del_t.mpr ⟨ht m hm h2.1, h2.2⟩, this.2⟩
/-- the most pairs -/
def MaxP (N : Nat) (A : Nat → Nat → Bool) (s : Nat → Bool) (b : Nat) : Prop := Mt N A s b ∧ ∀ k, Mt N A s k → k ≤ b
theorem MaxP.ext {b : Nat} (h : MaxP N A s b) (e : ∀ i, i < N → s i = t i) : MaxP N A t b := ⟨mt_mono h.1 fun i hi hs => by rw [← e i hi]; exact hs, fun k g => h.2 k (mt_mono g fun i hi hs => by rw [e i hi]; exact hs)⟩
end
end LW
namespace LW
open PySem PySem.Spec L2 TL DL
open PyProof.Rows hiding pairD cutD
open Tk
section
variable {N : Nat} {A : Nat → Nat → Bool} {r : Bool} {m p q : Nat}
def tbl (N : Nat) (f : Nat → Nat → Bool) : List D := (List.range (2 ^ N)).map fun m => D.int ((mkM (f m) N : Nat) : Int)
end
end LW
namespace LW
open PySem PySem.Spec L2 TL DL
open PyProof.Rows hiding pairD cutD
open Tk
/-- the people of a mask, as a list -/
def mem (N : Nat) (s : Nat → Bool) : List Nat := (List.range N).filter s
theorem mem_mem {N : Nat} {s : Nat → Bool} {i : Nat} : i ∈ mem N s ↔ i < N ∧ s i = true := by
  unfold mem
  rw [List.mem_filter, List.mem_range]
theorem mem_len (N : Nat) (s : Nat → Bool) : (mem N s).length = cntM s N := by
  unfold mem cntM
  rw [List.countP_eq_length_filter]
theorem mem_asc (N : Nat) (s : Nat → Bool) : (mem N s).Pairwise (· < ·) := List.Pairwise.filter _ List.pairwise_lt_range
end LW
namespace LW
open PySem PySem.Spec L2 TL DL
open PyProof.Rows hiding pairD cutD
open Tk
structure Best (N : Nat) (A : Nat → Nat → Bool) (L : List Nat) (n : Nat) : Prop where
  len : L.length = n
  top : ∀ (m : Nat) (b : Nat), L[m]? = some b → MaxP N A m.testBit b
theorem Best.at {N n : Nat} {A : Nat → Nat → Bool} {L : List Nat} (h : Best N A L n) {m : Nat} (hm : m < n) : ∃ b, L[m]? = some b ∧ MaxP N A m.testBit b := by
  obtain ⟨b, hb⟩ : ∃ b, L[m]? = some b := ⟨L[m]'(by rw [h.len]; exact hm), List.getElem?_eq_getElem _⟩
  exact ⟨b, hb, h.top m b hb⟩
end LW
namespace LW
open PySem PySem.Spec L2 TL DL
open PyProof.Rows hiding pairD cutD
open Tk
def CoreP (N : Nat) (A : Nat → Nat → Bool) (k : Int) : Prop := ∃ c : Nat → Bool, (∃ i, i < N ∧ c i = true) ∧ ∀ i, i < N → c i = true → k ≤ ((cntM (fun j => A i j && c j) N : Nat) : Int)
def few (N : Nat) (A : Nat → Nat → Bool) (k : Int) (s : Nat → Bool) (i : Nat) : Bool := decide (((cntM (fun j => A i j && s j) N : Nat) : Int) < k)
end LW
namespace LW
open PySem PySem.Spec L2 TL DL
open PyProof.Rows hiding pairD cutD
open Tk
local macro_rules | `(tactic| push_cast [$xs,*] $[$l]?) => `(tactic| simp only [↓q_Chain3, ↓q_iEnum, ↓q_sForR, ↓q_iR3, ↓q_repT, ↓q_ListR1, ↓q_TupR1, ↓q_iSeq, ↓q_zipM, ↓wzip_m, ↓q_nil0, ↓q_tIf, ↓q_star, ↓q_zip, ↓wseq_t, ↓wseq_l, ↓wzip_t, ↓wzip_l, ↓q_pfl_nx, ↓q_pfl_rt, ↓q_pfl_bk, ↓q_pfl_ct, ↓q_run_rt, ↓q_run_nx, ↓q_bk_nx, ↓q_bk_ct, ↓q_bk_bk, ↓q_bk_rt, ↓q_R_some, ↓q_R_none, ↓q_R_cond, ↓q_var0, ↓q_varS, ↓q_C, ↓q_Bin, ↓q_neg, ↓q_nil, ↓q_cons, ↓q_tup, ↓q_lst, ↓q_lstM, ↓q_Call, ↓q_And, ↓q_Or, ↓q_Not, ↓q_Test, ↓q_tAnd, ↓q_tOr, ↓q_tNot, ↓q_If, ↓q_Chain, ↓q_Skip, ↓q_Break, ↓q_Cont, ↓q_Never, ↓q_fNever, ↓q_Seq, ↓q_Expr, ↓q_Ret, ↓q_sIf, ↓q_Asg, ↓q_N, ↓q_gNil, ↓q_gCons, ↓q_gTup, ↓q_gSub, ↓q_Par, ↓q_Run, ↓q_For, ↓q_iLst, ↓q_iTup, ↓q_iR1, ↓q_iR2, ↓q_add, ↓q_addL, ↓q_addS, ↓q_I0, ↓q_mul, ↓q_fdiv, ↓q_mod, ↓q_eqI, ↓q_eqS, ↓q_eqB, ↓q_neI, ↓q_neS, ↓q_neB, ↓q_isN, ↓q_notN, ↓q_isi, ↓q_abs, ↓q_max2, ↓q_min2, ↓q_maxT, ↓q_intI, ↓q_intB, ↓q_lenS, ↓q_lenT, ↓q_lenL, ↓q_lenC, ↓q_divmod, ↓q_listL, ↓q_listT, ↓q_tupL, ↓q_tupT, ↓q_KIn, ↓q_Fld, ↓q_Meth, ↓q_MakeF, ↓q_sFld, ↓q_KIx, ↓q_inT, ↓q_inL, ↓q_inS, ↓q_ixL, ↓q_ixT, ↓q_ixC, ↓q_Lc, ↓q_Yes, ↓q_Sl, ↓q_oNone, ↓q_oSome, ↓q_slC, ↓q_slL, ↓q_slS, ↓q_MethK, ↓q_CallK, ↓q_Repr, ↓q_DispF, ↓q_DIx, ↓q_rep, ↓q_Prop, ↓q_IsC, ↓q_DGet1, ↓q_DIn, ↓q_gUnl, ↓q_DictK, ↓q_repM, ↓q_aXi, ↓q_aXs, ↓q_aXt, ↓q_aXl, ↓q_aMl, ↓q_ltX, ↓q_leX, ↓q_leX2, ↓q_SlX, ↓q_sXc, ↓q_sXl, ↓q_sXt, ↓q_sXs, ↓q_RevT, ↓q_sxI, ↓q_sxS, ↓q_lxT, ↓q_lxL, ↓q_txL, ↓q_txT, ↓q_lmT, ↓q_lmL, ↓q_Par3, ↓q_Join, ↓wp_two, ↓wp_r1, ↓wp_r2, ↓wp_someB, ↓wp_strE, ↓wp_FldO, ↓wp_someL, ↓wp_last, ↓wp_someX, ↓wp_three, ↓q_p40, ↓qi_t, ↓qi_f, ↓wb_bl, ↓wi_int, ↓wstr_str, ↓wtup_tup, ↓wlst_lst, ↓wref_ref, isn_int, isn_non, isn_str, isn_tup, isn_lst, isn_ref, isn_bl, isi_str_str, isi_int_int, isi_int_bl, isi_bool_int, isi_bool_bl, isi_int_non, isi_int_str, isi_tuple_tup, str_eq, String.reduceEq, List.any_cons, List.any_nil, List.all_cons, List.all_nil, Bool.and_true, Bool.or_false, Bool.true_and, Bool.false_and, Bool.and_false, Bool.false_or, Bool.or_true, Bool.true_or, Bool.not_not, flat_str, flat_int, flat_non, eqF_str, List.map_cons, List.map_nil, List.length_cons, List.length_nil, List.length_map, List.cons_append, List.nil_append, List.append_nil, List.set_cons_zero, List.set_cons_succ, List.replicate_succ, List.replicate_zero, Nat.reduceSub, Nat.reduceAdd, Nat.reduceLeDiff, Nat.zero_add, Nat.sub_self, Bool.not_eq_true', Bool.not_true, Bool.not_false, if_true, if_false, reduceIte, Bool.false_eq_true, true_and, and_true, decide_true, decide_false, Bool.true_eq_false, eq_self, $xs,*] $[$l]?)
theorem drawQ {S : Sto} {i : Nat} {m : Int} {P : Tk → D → Sto → Prop} (h : Prs S i) (hm : 0 < m) (hm2 : m ≤ 1000000) (k : ∀ r S', 0 ≤ r → r < m → Prs S' i → DL.Apart S S' i → P go (.int r) S') : Qr go (w__law_draw [.ref i, .int m] S) P :=
  r_draw h hm (by omega) k
/-- the purse's cell -/
def PC (c : Cell) : Prop := ∃ a b : Int, c = .lst [.int a, .int b] ∧ 0 ≤ b ∧ b < 2147483647
theorem PC.prs {c : Cell} (h : PC c) (r : Sto) : Prs (c :: r) 0 := by
  obtain ⟨a, b, rfl, h0, h1⟩ := h
  exact ⟨a, b, rfl, h0, h1⟩
theorem Prs.pc {S : Sto} {i : Nat} (h : Prs S i) : ∃ c, S[i]? = some c ∧ PC c := by
  obtain ⟨a, b, e, h0, h1⟩ := h
  exact ⟨_, e, a, b, rfl, h0, h1⟩
theorem pc_free {c : Cell} (h : PC c) : cellFree c = true ∧ isTab c = none := by
  obtain ⟨a, b, rfl, _⟩ := h
  exact ⟨rfl, rfl⟩
theorem drawC {c : Cell} {r : Sto} {m : Int} {P : Tk → D → Sto → Prop} (h : PC c) (hm : 0 < m) (hm2 : m ≤ 1000000) (k : ∀ j c', 0 ≤ j → j < m → PC c' → P go (.int j) (c' :: r)) : Qr go (w__law_draw [.ref 0, .int m] (c :: r)) P := by
  refine drawQ (h.prs r) hm hm2 fun j S' h0 h1 hP ap => ?_
  have e : S' = (S'[0]?.getD c) :: r := by
    have hl := ap.1
    cases S' with
    | nil => simp at hl
    | cons c' r' =>
      have : r' = r := by
        apply List.ext_getElem?
        intro i
        have := ap.2 (i + 1) (by omega)
        simpa using this
      rw [this]
      rfl
  obtain ⟨c', hc, hP⟩ := hP.pc
  rw [hc] at e
  rw [e]
  exact k j c' h0 h1 hP
theorem Prs.set {S : Sto} {i : Nat} {c' : Cell} (h : Prs S i) (hc : PC c') : Prs (S.set i c') i := by
  obtain ⟨a, b, e, _, _⟩ := h
  obtain ⟨a', b', rfl, h0, h1⟩ := hc
  exact ⟨a', b', set_at e, h0, h1⟩
theorem all_eq {n : Int} (h0 : 0 ≤ n) (hn : n ≤ 10) (S : Sto) : w__law_all [.int n] S = some (.tup ((pairsL n).map pairD), S) := by
  have : n = 0 ∨ n = 1 ∨ n = 2 ∨ n = 3 ∨ n = 4 ∨ n = 5 ∨ n = 6 ∨ n = 7 ∨ n = 8 ∨ n = 9 ∨ n = 10 := by omega
  rcases this with rfl | rfl | rfl | rfl | rfl | rfl | rfl | rfl | rfl | rfl | rfl <;> kernel_rfl
def pg (L : List (Int × Int)) (k : Nat) : Int × Int := L.getD k (0, 0)
theorem pg_get {L : List (Int × Int)} {k : Nat} (h : k < L.length) : L[k]? = some (pg L k) := by
  unfold pg
  rw [List.getD_eq_getElem?_getD, List.getElem?_eq_getElem h]
  rfl
theorem pg_map (L : List (Int × Int)) : (List.range L.length).map (pg L) = L := by
  apply List.ext_getElem?
  intro i
  by_cases h : i < L.length
  · rw [List.getElem?_map, List.getElem?_range h, pg_get h]
    rfl
  · rw [List.getElem?_eq_none (by rw [List.length_map, List.length_range]; omega), List.getElem?_eq_none (by omega)]
theorem enum_map (L : List (Int × Int)) : enumD 0 (L.map pairD) = (List.range L.length).map fun (k : Nat) => D.tup [.int (k : Int), pairD (pg L k)] := by
  apply List.ext_getElem?
  intro i
  rw [enumD_get, List.getElem?_map, List.getElem?_map]
  by_cases h : i < L.length
  · rw [List.getElem?_range h, pg_get h, Nat.zero_add]
    rfl
  · rw [List.getElem?_eq_none (by omega), List.getElem?_eq_none (by rw [List.length_range]; omega)]
    rfl
theorem eqBB (a b : Bool) (S : Sto) : gEq (.bl a) (.bl b) S = some (.bl (a == b), S) := by cases a <;> cases b <;> rfl
theorem ties_run {N : Int} (h0 : 0 ≤ N) (hn : N ≤ 10) {c : Cell} (hc : PC c) : Qr go (d__law_ties w__law_all w__law_draw [.ref 0, .int N] [c]) fun _ d S' => ∃ c' T, S' = [c'] ∧ PC c' ∧ d = .tup (T.map pairD) ∧ Ties N T := by
  unfold d__law_ties b__law_ties
  push_cast []
  refine drawC hc (by decide) (by decide) fun j c1 j0 j1 hc1 => ?_
  push_cast []
  refine drawC hc1 (by decide) (by decide) fun l c2 l0 l1 hc2 => ?_
  have hpl := pairs_len h0 hn
  push_cast [all_eq h0 hn]
  refine ⟨by omega, ?_⟩
  refine q_lcE (fun d => ∃ k : Int, d = .int k) (fun _ S' => ∃ c', S' = [c'] ∧ PC c') ⟨c2, rfl, hc2⟩ ?_ ?_
  · rintro i d S' hi ⟨c', rfl, hc'⟩
    push_cast [wipeD]
    refine drawC hc' (by omega) (by omega) fun r c3 _ _ hc3 => ?_
    exact ⟨⟨r, rfl⟩, c3, rfl, hc3⟩
  rintro ys S' hy hyl ⟨c3, rfl, hc3⟩
  rw [List.length_map] at hyl
  obtain ⟨ks, rfl⟩ : ∃ ks : List Int, ys = ks.map D.int := by
    clear hyl
    induction ys with
    | nil => exact ⟨[], rfl⟩
    | cons y ys ih =>
      obtain ⟨k, rfl⟩ := hy y (List.mem_cons_self ..)
      obtain ⟨ks, rfl⟩ := ih fun z hz => hy z (List.mem_cons_of_mem _ hz)
      exact ⟨k :: ks, rfl⟩
  rw [List.length_map] at hyl
  push_cast [all_eq h0 hn, enum_map]
  refine ⟨by rw [List.length_range]; omega, ?_⟩
  refine q_lcQ (fun (k : Nat) => D.tup [.int (k : Int), pairD (pg (pairsL N) k)]) (fun (k : Nat) => pairD (pg (pairsL N) k)) (fun (k : Nat) => (decide (sg ks (k : Int) = 0) == decide (l = 0))) (fun k hk => ?_) ?_
  · have hk := List.mem_range.mp hk
    push_cast [wipeD, atI_sg (xs := ks) (i := (k : Int)) (by omega) (by omega), eqBB]
    exact ⟨rfl, fun _ => trivial⟩
  · push_cast []
    refine ⟨c3, ((List.range (pairsL N).length).filter fun (k : Nat) => (decide (sg ks (k : Int) = 0) == decide (l = 0))).map (pg (pairsL N)), rfl, hc3, ?_, sub_ties h0 hn ?_⟩
    · rw [List.map_map]
      rfl
    · have := (List.filter_sublist (l := List.range (pairsL N).length) (p := fun (k : Nat) => (decide (sg ks (k : Int) = 0) == decide (l = 0)))).map (pg (pairsL N))
      rwa [pg_map] at this
end LW
namespace LW
open PySem PySem.Spec L2 TL DL
open PyProof.Rows hiding pairD cutD
open Tk
def nbF (p : Int) (q : Int × Int) : Option Int := if q.1 = p then some q.2 else if q.2 = p then some q.1 else none
def nbU (T : List (Int × Int)) (p : Int) : List Int := T.filterMap (nbF p)
def nbL (T : List (Int × Int)) (p : Int) : List Int := isort leI (nbU T p)
theorem nbU_mem {n : Int} {T : List (Int × Int)} (hT : Ties n T) {p x : Int} : x ∈ nbU T p ↔ tB T p x = true := by
  unfold nbU tB
  rw [List.mem_filterMap, decide_eq_true_eq]
  constructor
  · rintro ⟨q, hq, e⟩
    have r := hT.rng q hq
    have : q = (min p x, max p x) := by
      unfold nbF at e
      split at e
      · cases e
        refine Prod.ext ?_ ?_
        · show q.1 = min p q.2
          omega
        · show q.2 = max p q.2
          omega
      · split at e
        · cases e
          refine Prod.ext ?_ ?_
          · show q.1 = min p q.1
            omega
          · show q.2 = max p q.1
            omega
        · cases e
    rwa [← this]
  · intro h
    have r := hT.rng _ h
    have r : 0 ≤ min p x ∧ min p x < max p x ∧ max p x < n := r
    refine ⟨_, h, ?_⟩
    show (if min p x = p then some (max p x) else if max p x = p then some (min p x) else none) = some x
    by_cases hlt : p < x
    · rw [if_pos (by omega)]
      congr 1
      omega
    · rw [if_neg (by omega), if_pos (by omega)]
      congr 1
      omega
theorem nbU_nd {n : Int} {T : List (Int × Int)} (hT : Ties n T) (p : Int) : (nbU T p).Nodup := by
  unfold nbU List.Nodup
  rw [List.pairwise_filterMap]
  refine (List.Pairwise.and_mem.mp hT.nodup).imp ?_
  rintro q q' ⟨hq, hq', hne⟩ b hb b' hb' e
  subst e
  have r := hT.rng q hq
  have r' := hT.rng q' hq'
  have key : ∀ z : Int × Int, z.1 < z.2 → nbF p z = some b → z = (min p b, max p b) := by
    intro z hz e
    unfold nbF at e
    split at e
    · cases e
      refine Prod.ext ?_ ?_
      · show z.1 = min p z.2
        omega
      · show z.2 = max p z.2
        omega
    · split at e
      · cases e
        refine Prod.ext ?_ ?_
        · show z.1 = min p z.1
          omega
        · show z.2 = max p z.1
          omega
      · cases e
  exact hne ((key q r.2.1 hb).trans (key q' r'.2.1 hb').symm)
theorem nbL_mem {n : Int} {T : List (Int × Int)} (hT : Ties n T) {p x : Int} : x ∈ nbL T p ↔ tB T p x = true := by
  unfold nbL
  rw [mem_isort, nbU_mem hT]
end LW
namespace LW
open PySem PySem.Spec L2 TL DL
open PyProof.Rows hiding pairD cutD
open Tk
theorem in_intsL (neg : Bool) (x : Int) (xs : List Int) (S : Sto) : gInX neg (.int x) (.lst (xs.map D.int)) S = some (.bl (if neg then !decide (x ∈ xs) else decide (x ∈ xs)), S) := by
  have e : gInB neg (.int x) (.lst (xs.map D.int)) S = some (.bl (if neg then !decide (x ∈ xs) else decide (x ∈ xs)), S) := by
    show (if flatD (.int x) = true ∧ (xs.map D.int).all flatD = true then some (D.bl (if neg then !(xs.map D.int).any (fun z => eqF z (.int x)) else (xs.map D.int).any (fun z => eqF z (.int x))), S) else none) = _
    rw [if_pos ⟨rfl, all_flat xs⟩]
    have : ((xs.map D.int).any fun z => eqF z (.int x)) = decide (x ∈ xs) := by
      rw [List.any_map, Bool.eq_iff_iff, List.any_eq_true, decide_eq_true_eq]
      constructor
      · rintro ⟨y, hy, e⟩
        have e : decide (y = x) = true := e
        rw [← of_decide_eq_true e]
        exact hy
      · intro h
        exact ⟨x, h, decide_eq_true rfl⟩
    rw [this]
  exact inX_of e
theorem in_intsT (neg : Bool) (x : Int) (xs : List Int) (S : Sto) : gInX neg (.int x) (.tup (xs.map D.int)) S = some (.bl (if neg then !decide (x ∈ xs) else decide (x ∈ xs)), S) := by
  have e : gInB neg (.int x) (.tup (xs.map D.int)) S = some (.bl (if neg then !decide (x ∈ xs) else decide (x ∈ xs)), S) := by
    show (if flatD (.int x) = true ∧ (xs.map D.int).all flatD = true then some (D.bl (if neg then !(xs.map D.int).any (fun z => eqF z (.int x)) else (xs.map D.int).any (fun z => eqF z (.int x))), S) else none) = _
    rw [if_pos ⟨rfl, all_flat xs⟩]
    have : ((xs.map D.int).any fun z => eqF z (.int x)) = decide (x ∈ xs) := by
      rw [List.any_map, Bool.eq_iff_iff, List.any_eq_true, decide_eq_true_eq]
      constructor
      · rintro ⟨y, hy, e⟩
        have e : decide (y = x) = true := e
        rw [← of_decide_eq_true e]
        exact hy
      · intro h
        exact ⟨x, h, decide_eq_true rfl⟩
    rw [this]
  exact inX_of e
def dg (T : List (Int × Int)) (p : Int) : Nat := (nbL T p).length
structure OkD (N : Nat) (T U : List (Int × Int)) (xs : List Int) : Prop where
  row : Row (N : Int) xs
  adj : ∀ i j : Nat, i < xs.length → j < i → tB T (i : Int) (j : Int) = tB U (sg xs (i : Int)) (sg xs (j : Int))
  deg : ∀ i : Nat, i < xs.length → dg U (sg xs (i : Int)) = dg T (i : Int)
theorem sg_app {xs ys : List Int} {i : Nat} (h : i < xs.length) : sg (xs ++ ys) (i : Int) = sg xs (i : Int) := by
  unfold sg
  rw [Int.toNat_natCast, List.getD_eq_getElem?_getD, List.getD_eq_getElem?_getD, List.getElem?_append_left h]
theorem OkD.pre {N : Nat} {T U : List (Int × Int)} {xs ys : List Int} (h : OkD N T U (xs ++ ys)) : OkD N T U xs := by
  refine ⟨⟨(List.nodup_append.mp h.row.nd).1, fun x hx => h.row.rng x (List.mem_append_left _ hx)⟩, fun i j hi hj => ?_, fun i hi => ?_⟩
  · have := h.adj i j (by rw [List.length_append]; omega) hj
    rw [sg_app hi, sg_app (by omega)] at this
    exact this
  · have := h.deg i (by rw [List.length_append]; omega)
    rwa [sg_app hi] at this
end LW
namespace LW
open PySem PySem.Spec L2 TL DL
open PyProof.Rows hiding pairD cutD
open Tk
abbrev Inn (N : Nat) (ys : List Int) : Prop := ∀ y ∈ ys, 0 ≤ y ∧ y < (N : Int)
abbrev TiedP (T : List (Int × Int)) (zs : List Int) : Prop := zs.Pairwise fun a b => tB T a b = true
end LW
namespace LW
open PySem PySem.Spec L2 TL DL
open PyProof.Rows hiding pairD cutD
open Tk
/-- no common person -/
def apB (p q : Int × Int) : Bool := !(decide (q.1 ∈ [p.1, p.2]) || decide (q.2 ∈ [p.1, p.2]))
abbrev ApartP (V : List (Int × Int)) : Prop := V.Pairwise fun p q => apB p q = true
theorem cut_prsF (ps : List (Int × Int)) (i : Nat) : DL.cutD (ps.map pairD) (some ((i : Int) + 1)) none = (ps.drop (i + 1)).map pairD := by
  have := cut_drop (ps.map pairD) (i + 1)
  rw [List.map_drop, ← this]
  rfl
theorem in_pr (x : Int) (p : Int × Int) (S : Sto) : gInX false (.int x) (pairD p) S = some (.bl (decide (x ∈ [p.1, p.2])), S) := in_intsT false x [p.1, p.2] S
end LW
namespace LW
open PySem PySem.Spec L2 TL DL
open PyProof.Rows hiding pairD cutD
open Tk
inductive Pth (T : List (Int × Int)) (st : Int → Prop) (lo : Int) : List Int → Int → Prop
  | one (p : Int) : st p → Pth T st lo [p] p
  | snoc {r : List Int} {q : Int} (p : Int) : Pth T st lo r q → tB T q p = true → lo ≤ p → p ∉ r → Pth T st lo (r ++ [p]) p
section
variable {N : Nat} {T : List (Int × Int)} {st : Int → Prop} {lo : Int} {r : List Int} {p : Int}
theorem Pth.nd (h : Pth T st lo r p) : r.Nodup := by
  induction h with
  | one p h => exact List.nodup_cons.mpr ⟨List.not_mem_nil, .nil⟩
  | snoc p h _ _ hp ih => exact List.nodup_append.mpr ⟨ih, List.nodup_cons.mpr ⟨List.not_mem_nil, .nil⟩, fun a ha b hb e => hp (by rw [List.mem_singleton.mp hb] at e; exact e ▸ ha)⟩
theorem Pth.last (h : Pth T st lo r p) : ∃ r0, r = r0 ++ [p] := by
  cases h with
  | one p h => exact ⟨[], rfl⟩
  | snoc p h => exact ⟨_, rfl⟩
theorem Pth.mem (h : Pth T st lo r p) : p ∈ r := by
  obtain ⟨r0, rfl⟩ := h.last
  simp
theorem tB_rng {p q : Int} (hT : Ties (N : Int) T) (h : tB T p q = true) : (0 ≤ p ∧ p < N) ∧ (0 ≤ q ∧ q < N) := by
  have := of_decide_eq_true h
  have := hT.rng _ this
  dsimp only at this
  omega
theorem Pth.rng (hT : Ties (N : Int) T) (hs : ∀ p, st p → 0 ≤ p ∧ p < (N : Int)) (h : Pth T st lo r p) : Inn N r := by
  induction h with
  | one p h =>
    intro y hy
    rw [List.mem_singleton.mp hy]
    exact hs p h
  | snoc p h ht _ _ ih =>
    intro y hy
    rcases List.mem_append.mp hy with hy | hy
    · exact ih y hy
    · rw [List.mem_singleton.mp hy]
      exact (tB_rng hT ht).2
theorem Pth.len (hT : Ties (N : Int) T) (hs : ∀ p, st p → 0 ≤ p ∧ p < (N : Int)) (h : Pth T st lo r p) : r.length ≤ N := by
  have := nodup_len (n := (N : Int)) (by omega) h.nd (h.rng hT hs)
  omega
theorem Pth.pos (h : Pth T st lo r p) : 1 ≤ r.length := by
  obtain ⟨r0, rfl⟩ := h.last
  simp
end
abbrev RowL := List Int × Int
theorem toNKs_ints : ∀ xs : List Int, toNKs (xs.map D.int) = some (xs.map NestedKey.num)
  | [] => rfl
  | x :: xs => by
    show (toNK (.int x)).bind _ = _
    show (toNKs (xs.map D.int)).map _ = _
    rw [toNKs_ints xs]
    rfl
theorem nkDs_ints : ∀ xs : List Int, nkDs (xs.map NestedKey.num) = xs.map D.int
  | [] => rfl
  | x :: xs => by
    show D.int x :: nkDs (xs.map NestedKey.num) = _
    rw [nkDs_ints xs]
    rfl
theorem depth_nums : ∀ xs : List Int, NestedKey.depthAll (xs.map NestedKey.num) = 0
  | [] => rfl
  | x :: xs => by
    show max 0 (NestedKey.depthAll (xs.map NestedKey.num)) = 0
    rw [depth_nums xs]
    rfl
theorem isort_ext {xs ys : List Int} (h1 : xs.Nodup) (h2 : ys.Nodup) (h : ∀ x, x ∈ xs ↔ x ∈ ys) : isort leI xs = isort leI ys := by
  have a1 := isort_asc h1
  have a2 := isort_asc h2
  have pm : (isort leI xs).Perm (isort leI ys) := ((isort_perm leI xs).trans ((List.perm_ext_iff_of_nodup h1 h2).mpr h)).trans (isort_perm leI ys).symm
  exact pm.eq_of_pairwise (fun a b _ _ g1 g2 => by omega) a1 a2
def code (N : Nat) (e : RowL) : Int := 16 * ((mkM (inB e.1) N : Nat) : Int) + e.2
end LW
namespace LW
open PySem PySem.Spec L2 TL DL
open PyProof.Rows hiding pairD cutD
open Tk
theorem alike_ints : ∀ xs ys : List Int, PySem.W.alikeAll (NestedKey.datas (xs.map .num)) (NestedKey.datas (ys.map .num)) = true
  | [], _ => by unfold NestedKey.datas PySem.W.alikeAll; rfl
  | x :: xs, [] => rfl
  | x :: xs, y :: ys => by
    show (PySem.W.alike (.int x) (.int y) && PySem.W.alikeAll (NestedKey.datas (xs.map .num)) (NestedKey.datas (ys.map .num))) = true
    rw [alike_ints xs ys]
    rfl
end LW
namespace LW
open PySem PySem.Spec L2 TL DL
open PyProof.Rows hiding pairD cutD
open Tk
theorem Pth.pre {T : List (Int × Int)} {st : Int → Prop} {lo : Int} {r : List Int} {p : Int} (h : Pth T st lo r p) : ∀ m, 1 ≤ m → m ≤ r.length → ∃ r' p', Pth T st lo r' p' ∧ r'.length = m := by
  induction h with
  | one p h =>
    intro m h1 h2
    exact ⟨[p], p, .one p h, by simp at h2; simp; omega⟩
  | @snoc r q p h g1 g2 g3 ih =>
    intro m h1 h2
    by_cases e : m = (r ++ [p]).length
    · exact ⟨_, p, .snoc p h g1 g2 g3, e.symm⟩
    · exact ih m h1 (by rw [List.length_append] at e h2; simp at e h2; omega)
section
variable {N : Nat} {T : List (Int × Int)} (hn : N ≤ 10) (hT : Ties (N : Int) T)
include hn hT
abbrev allP (N : Nat) : Int → Prop := fun p => 0 ≤ p ∧ p < (N : Int)
abbrev onlyP (f : Int) : Int → Prop := fun p => p = f
end
end LW
namespace LW
open PySem PySem.Spec L2 TL DL
open PyProof.Rows hiding pairD cutD
open Tk
local macro_rules | `(tactic| push_cast [$xs,*] $[$l]?) => `(tactic| simp only [↓q_Chain3, ↓q_iEnum, ↓q_sForR, ↓q_iR3, ↓q_repT, ↓q_ListR1, ↓q_TupR1, ↓q_iSeq, ↓q_zipM, ↓wzip_m, ↓q_nil0, ↓q_tIf, ↓q_star, ↓q_zip, ↓wseq_t, ↓wseq_l, ↓wzip_t, ↓wzip_l, ↓q_pfl_nx, ↓q_pfl_rt, ↓q_pfl_bk, ↓q_pfl_ct, ↓q_run_rt, ↓q_run_nx, ↓q_bk_nx, ↓q_bk_ct, ↓q_bk_bk, ↓q_bk_rt, ↓q_R_some, ↓q_R_none, ↓q_R_cond, ↓q_var0, ↓q_varS, ↓q_C, ↓q_Bin, ↓q_neg, ↓q_nil, ↓q_cons, ↓q_tup, ↓q_lst, ↓q_lstM, ↓q_Call, ↓q_And, ↓q_Or, ↓q_Not, ↓q_Test, ↓q_tAnd, ↓q_tOr, ↓q_tNot, ↓q_If, ↓q_Chain, ↓q_Skip, ↓q_Break, ↓q_Cont, ↓q_Never, ↓q_fNever, ↓q_Seq, ↓q_Expr, ↓q_Ret, ↓q_sIf, ↓q_Asg, ↓q_N, ↓q_gNil, ↓q_gCons, ↓q_gTup, ↓q_gSub, ↓q_Par, ↓q_Run, ↓q_For, ↓q_iLst, ↓q_iTup, ↓q_iR1, ↓q_iR2, ↓q_add, ↓q_addL, ↓q_addS, ↓q_I0, ↓q_mul, ↓q_fdiv, ↓q_mod, ↓q_eqI, ↓q_eqS, ↓q_eqB, ↓q_neI, ↓q_neS, ↓q_neB, ↓q_isN, ↓q_notN, ↓q_isi, ↓q_abs, ↓q_max2, ↓q_min2, ↓q_maxT, ↓q_intI, ↓q_intB, ↓q_lenS, ↓q_lenT, ↓q_lenL, ↓q_lenC, ↓q_divmod, ↓q_listL, ↓q_listT, ↓q_tupL, ↓q_tupT, ↓q_KIn, ↓q_Fld, ↓q_Meth, ↓q_MakeF, ↓q_sFld, ↓q_KIx, ↓q_inT, ↓q_inL, ↓q_inS, ↓q_ixL, ↓q_ixT, ↓q_ixC, ↓q_Lc, ↓q_Yes, ↓q_Sl, ↓q_oNone, ↓q_oSome, ↓q_slC, ↓q_slL, ↓q_slS, ↓q_MethK, ↓q_CallK, ↓q_Repr, ↓q_DispF, ↓q_DIx, ↓q_rep, ↓q_Prop, ↓q_IsC, ↓q_DGet1, ↓q_DIn, ↓q_gUnl, ↓q_DictK, ↓q_repM, ↓q_aXi, ↓q_aXs, ↓q_aXt, ↓q_aXl, ↓q_aMl, ↓q_ltX, ↓q_leX, ↓q_leX2, ↓q_SlX, ↓q_sXc, ↓q_sXl, ↓q_sXt, ↓q_sXs, ↓q_RevT, ↓q_sxI, ↓q_sxS, ↓q_lxT, ↓q_lxL, ↓q_txL, ↓q_txT, ↓q_lmT, ↓q_lmL, ↓q_Par3, ↓q_Join, ↓wp_two, ↓wp_r1, ↓wp_r2, ↓wp_someB, ↓wp_strE, ↓wp_FldO, ↓wp_someL, ↓wp_last, ↓wp_someX, ↓wp_three, ↓q_p40, ↓qi_t, ↓qi_f, ↓wb_bl, ↓wi_int, ↓wstr_str, ↓wtup_tup, ↓wlst_lst, ↓wref_ref, isn_int, isn_non, isn_str, isn_tup, isn_lst, isn_ref, isn_bl, isi_str_str, isi_int_int, isi_int_bl, isi_bool_int, isi_bool_bl, isi_int_non, isi_int_str, isi_tuple_tup, str_eq, String.reduceEq, List.any_cons, List.any_nil, List.all_cons, List.all_nil, Bool.and_true, Bool.or_false, Bool.true_and, Bool.false_and, Bool.and_false, Bool.false_or, Bool.or_true, Bool.true_or, Bool.not_not, flat_str, flat_int, flat_non, eqF_str, List.map_cons, List.map_nil, List.length_cons, List.length_nil, List.length_map, List.cons_append, List.nil_append, List.append_nil, List.set_cons_zero, List.set_cons_succ, List.replicate_succ, List.replicate_zero, Nat.reduceSub, Nat.reduceAdd, Nat.reduceLeDiff, Nat.zero_add, Nat.sub_self, Bool.not_eq_true', Bool.not_true, Bool.not_false, if_true, if_false, reduceIte, Bool.false_eq_true, true_and, and_true, decide_true, decide_false, Bool.true_eq_false, eq_self, $xs,*] $[$l]?)
theorem nbL_nd {N : Nat} {T : List (Int × Int)} (hT : Ties (N : Int) T) (p : Int) : (nbL T p).Nodup := (isort_perm leI (nbU T p)).nodup_iff.mpr (nbU_nd hT p)
/-- each of them is tied with so many of them -/
abbrev CoreL (T : List (Int × Int)) (k : Int) (c : List Int) : Prop := ∀ x ∈ c, k ≤ ((c.countP (tB T x) : Nat) : Int)
def lotsL {α : Type} : Nat → List α → List (List α)
  | 0, _ => [[]]
  | _ + 1, [] => []
  | c + 1, x :: xs => (lotsL c xs).map (x :: ·) ++ lotsL (c + 1) xs
theorem lots_mem {α : Type} : ∀ {c : Nat} {xs l : List α}, l ∈ lotsL c xs ↔ l.Sublist xs ∧ l.length = c
  | 0, xs, l => by
    rw [lotsL, List.mem_singleton]
    exact ⟨fun h => by rw [h]; exact ⟨List.nil_sublist _, rfl⟩, fun h => List.length_eq_zero_iff.mp h.2⟩
  | c + 1, [], l => by
    rw [lotsL]
    exact ⟨fun h => (by cases h), fun h => by
      have := List.sublist_nil.mp h.1
      rw [this] at h
      cases h.2⟩
  | c + 1, x :: xs, l => by
    rw [lotsL, List.mem_append, List.mem_map, lots_mem]
    constructor
    · rintro (⟨z, hz, rfl⟩ | h)
      · have := lots_mem.mp hz
        exact ⟨this.1.cons_cons x, by rw [List.length_cons, this.2]⟩
      · exact ⟨h.1.cons x, h.2⟩
    · rintro ⟨h1, h2⟩
      cases h1 with
      | cons _ h => exact Or.inr ⟨h, h2⟩
      | cons_cons _ h => exact Or.inl ⟨_, lots_mem.mpr ⟨h, by simpa using h2⟩, rfl⟩
end LW
namespace LW
open PySem PySem.Spec L2 TL DL
open PyProof.Rows hiding pairD cutD
open Tk
local macro_rules | `(tactic| push_cast [$xs,*] $[$l]?) => `(tactic| simp only [↓q_Chain3, ↓q_iEnum, ↓q_sForR, ↓q_iR3, ↓q_repT, ↓q_ListR1, ↓q_TupR1, ↓q_iSeq, ↓q_zipM, ↓wzip_m, ↓q_nil0, ↓q_tIf, ↓q_star, ↓q_zip, ↓wseq_t, ↓wseq_l, ↓wzip_t, ↓wzip_l, ↓q_pfl_nx, ↓q_pfl_rt, ↓q_pfl_bk, ↓q_pfl_ct, ↓q_run_rt, ↓q_run_nx, ↓q_bk_nx, ↓q_bk_ct, ↓q_bk_bk, ↓q_bk_rt, ↓q_R_some, ↓q_R_none, ↓q_R_cond, ↓q_var0, ↓q_varS, ↓q_C, ↓q_Bin, ↓q_neg, ↓q_nil, ↓q_cons, ↓q_tup, ↓q_lst, ↓q_lstM, ↓q_Call, ↓q_And, ↓q_Or, ↓q_Not, ↓q_Test, ↓q_tAnd, ↓q_tOr, ↓q_tNot, ↓q_If, ↓q_Chain, ↓q_Skip, ↓q_Break, ↓q_Cont, ↓q_Never, ↓q_fNever, ↓q_Seq, ↓q_Expr, ↓q_Ret, ↓q_sIf, ↓q_Asg, ↓q_N, ↓q_gNil, ↓q_gCons, ↓q_gTup, ↓q_gSub, ↓q_Par, ↓q_Run, ↓q_For, ↓q_iLst, ↓q_iTup, ↓q_iR1, ↓q_iR2, ↓q_add, ↓q_addL, ↓q_addS, ↓q_I0, ↓q_mul, ↓q_fdiv, ↓q_mod, ↓q_eqI, ↓q_eqS, ↓q_eqB, ↓q_neI, ↓q_neS, ↓q_neB, ↓q_isN, ↓q_notN, ↓q_isi, ↓q_abs, ↓q_max2, ↓q_min2, ↓q_maxT, ↓q_intI, ↓q_intB, ↓q_lenS, ↓q_lenT, ↓q_lenL, ↓q_lenC, ↓q_divmod, ↓q_listL, ↓q_listT, ↓q_tupL, ↓q_tupT, ↓q_KIn, ↓q_Fld, ↓q_Meth, ↓q_MakeF, ↓q_sFld, ↓q_KIx, ↓q_inT, ↓q_inL, ↓q_inS, ↓q_ixL, ↓q_ixT, ↓q_ixC, ↓q_Lc, ↓q_Yes, ↓q_Sl, ↓q_oNone, ↓q_oSome, ↓q_slC, ↓q_slL, ↓q_slS, ↓q_MethK, ↓q_CallK, ↓q_Repr, ↓q_DispF, ↓q_DIx, ↓q_rep, ↓q_Prop, ↓q_IsC, ↓q_DGet1, ↓q_DIn, ↓q_gUnl, ↓q_DictK, ↓q_repM, ↓q_aXi, ↓q_aXs, ↓q_aXt, ↓q_aXl, ↓q_aMl, ↓q_ltX, ↓q_leX, ↓q_leX2, ↓q_SlX, ↓q_sXc, ↓q_sXl, ↓q_sXt, ↓q_sXs, ↓q_RevT, ↓q_sxI, ↓q_sxS, ↓q_lxT, ↓q_lxL, ↓q_txL, ↓q_txT, ↓q_lmT, ↓q_lmL, ↓q_Par3, ↓q_Join, ↓wp_two, ↓wp_r1, ↓wp_r2, ↓wp_someB, ↓wp_strE, ↓wp_FldO, ↓wp_someL, ↓wp_last, ↓wp_someX, ↓wp_three, ↓q_p40, ↓qi_t, ↓qi_f, ↓wb_bl, ↓wi_int, ↓wstr_str, ↓wtup_tup, ↓wlst_lst, ↓wref_ref, isn_int, isn_non, isn_str, isn_tup, isn_lst, isn_ref, isn_bl, isi_str_str, isi_int_int, isi_int_bl, isi_bool_int, isi_bool_bl, isi_int_non, isi_int_str, isi_tuple_tup, str_eq, String.reduceEq, List.any_cons, List.any_nil, List.all_cons, List.all_nil, Bool.and_true, Bool.or_false, Bool.true_and, Bool.false_and, Bool.and_false, Bool.false_or, Bool.or_true, Bool.true_or, Bool.not_not, flat_str, flat_int, flat_non, eqF_str, List.map_cons, List.map_nil, List.length_cons, List.length_nil, List.length_map, List.cons_append, List.nil_append, List.append_nil, List.set_cons_zero, List.set_cons_succ, List.replicate_succ, List.replicate_zero, Nat.reduceSub, Nat.reduceAdd, Nat.reduceLeDiff, Nat.zero_add, Nat.sub_self, Bool.not_eq_true', Bool.not_true, Bool.not_false, if_true, if_false, reduceIte, Bool.false_eq_true, true_and, and_true, decide_true, decide_false, Bool.true_eq_false, eq_self, $xs,*] $[$l]?)
end LW
namespace LW
open PySem PySem.Spec L2 TL DL
open PyProof.Rows hiding pairD cutD
open Tk
/-- those of so many people who are not among some -/
abbrev outN (N : Nat) (l : List Int) : List Int := (upto (N : Int)).filter fun p => !decide (p ∈ l)
def shCrowd (N : Nat) (T : List (Int × Int)) (k : Int) (d : D) : Prop := ∃ zs : List Int, d = .tup (zs.map D.int) ∧ zs.Sublist (upto (N : Int)) ∧ TiedP T zs ∧ (zs.length : Int) = k
def shStar (N : Nat) (T : List (Int × Int)) (k : Int) (d : D) : Prop := ∃ p : Int, (0 ≤ p ∧ p < N) ∧ k ≤ ((nbL T p).length : Int) ∧ d = .tup ((p :: (nbL T p).take k.toNat).map D.int)
def shPairs (T : List (Int × Int)) (k : Int) (d : D) : Prop := ∃ V : List (Int × Int), d = .tup (V.map pairD) ∧ V.Sublist T ∧ ApartP V ∧ (V.length : Int) = k
def shRow (N : Nat) (T : List (Int × Int)) (k : Int) (d : D) : Prop := ∃ r p, d = .tup (r.map D.int) ∧ Pth T (allP N) 0 r p ∧ (r.length : Int) = k
def shRing (N : Nat) (T : List (Int × Int)) (R : Int → Prop) (d : D) : Prop := ∃ f r p, (0 ≤ f ∧ f < (N : Int)) ∧ d = .tup (r.map D.int) ∧ Pth T (onlyP f) f r p ∧ R (r.length : Int) ∧ tB T p f = true
def shCore (N : Nat) (T : List (Int × Int)) (k : Int) (d : D) : Prop := ∃ c : List Int, d = .tup (c.map D.int) ∧ c ≠ [] ∧ c.Sublist (upto (N : Int)) ∧ CoreL T k c
def shLinked (N : Nat) (T : List (Int × Int)) (k : Int) (d : D) : Prop := d = .tup [] ∧ k < N ∧ ∀ l : List Int, l.Sublist (upto (N : Int)) → (l.length : Int) < k → HangL (tB T) (outN N l)
inductive FK (N : Nat) (T : List (Int × Int)) : Str → D → (D → Prop) → Prop
  | crowd (k : Int) : 2 ≤ k → FK N T "crowd" (.int k) (shCrowd N T k)
  | star (k : Int) : 1 ≤ k → FK N T "star" (.int k) (shStar N T k)
  | pairs (k : Int) : 1 ≤ k → FK N T "pairs" (.int k) (shPairs T k)
  | row (k : Int) : 2 ≤ k → FK N T "row" (.int k) (shRow N T k)
  | ring (k : Int) : 3 ≤ k → k ≤ 1000000 → FK N T "ring" (.int k) (shRing N T fun n => k ≤ n)
  | core (k : Int) : 1 ≤ k → FK N T "core" (.int k) (shCore N T k)
  | linked (k : Int) : 1 ≤ k → FK N T "linked" (.int k) (shLinked N T k)
  | odd : FK N T "odd ring" .non (shRing N T fun n => 3 ≤ n ∧ n % 2 = 1)
  | even : FK N T "even ring" .non (shRing N T fun n => 4 ≤ n ∧ n % 2 = 0)
theorem FK.tup {N : Nat} {T : List (Int × Int)} {kd : Str} {z d : D} {sh : D → Prop} (h : FK N T kd z sh) (s : sh d) : ∃ ds, d = .tup ds := by
  cases h with
  | crowd k => obtain ⟨_, rfl, _⟩ := s; exact ⟨_, rfl⟩
  | star k => obtain ⟨_, _, _, rfl⟩ := s; exact ⟨_, rfl⟩
  | pairs k => obtain ⟨_, rfl, _⟩ := s; exact ⟨_, rfl⟩
  | row k => obtain ⟨_, _, rfl, _⟩ := s; exact ⟨_, rfl⟩
  | ring k => obtain ⟨_, _, _, _, rfl, _⟩ := s; exact ⟨_, rfl⟩
  | core k => obtain ⟨_, rfl, _⟩ := s; exact ⟨_, rfl⟩
  | linked k => obtain ⟨rfl, _⟩ := s; exact ⟨_, rfl⟩
  | odd => obtain ⟨_, _, _, _, rfl, _⟩ := s; exact ⟨_, rfl⟩
  | even => obtain ⟨_, _, _, _, rfl, _⟩ := s; exact ⟨_, rfl⟩
end LW
namespace LW
open PySem PySem.Spec L2 TL DL
open PyProof.Rows hiding pairD cutD
open Tk
local macro_rules | `(tactic| push_cast [$xs,*] $[$l]?) => `(tactic| simp only [↓q_Chain3, ↓q_iEnum, ↓q_sForR, ↓q_iR3, ↓q_repT, ↓q_ListR1, ↓q_TupR1, ↓q_iSeq, ↓q_zipM, ↓wzip_m, ↓q_nil0, ↓q_tIf, ↓q_star, ↓q_zip, ↓wseq_t, ↓wseq_l, ↓wzip_t, ↓wzip_l, ↓q_pfl_nx, ↓q_pfl_rt, ↓q_pfl_bk, ↓q_pfl_ct, ↓q_run_rt, ↓q_run_nx, ↓q_bk_nx, ↓q_bk_ct, ↓q_bk_bk, ↓q_bk_rt, ↓q_R_some, ↓q_R_none, ↓q_R_cond, ↓q_var0, ↓q_varS, ↓q_C, ↓q_Bin, ↓q_neg, ↓q_nil, ↓q_cons, ↓q_tup, ↓q_lst, ↓q_lstM, ↓q_Call, ↓q_And, ↓q_Or, ↓q_Not, ↓q_Test, ↓q_tAnd, ↓q_tOr, ↓q_tNot, ↓q_If, ↓q_Chain, ↓q_Skip, ↓q_Break, ↓q_Cont, ↓q_Never, ↓q_fNever, ↓q_Seq, ↓q_Expr, ↓q_Ret, ↓q_sIf, ↓q_Asg, ↓q_N, ↓q_gNil, ↓q_gCons, ↓q_gTup, ↓q_gSub, ↓q_Par, ↓q_Run, ↓q_For, ↓q_iLst, ↓q_iTup, ↓q_iR1, ↓q_iR2, ↓q_add, ↓q_addL, ↓q_addS, ↓q_I0, ↓q_mul, ↓q_fdiv, ↓q_mod, ↓q_eqI, ↓q_eqS, ↓q_eqB, ↓q_neI, ↓q_neS, ↓q_neB, ↓q_isN, ↓q_notN, ↓q_isi, ↓q_abs, ↓q_max2, ↓q_min2, ↓q_maxT, ↓q_intI, ↓q_intB, ↓q_lenS, ↓q_lenT, ↓q_lenL, ↓q_lenC, ↓q_divmod, ↓q_listL, ↓q_listT, ↓q_tupL, ↓q_tupT, ↓q_KIn, ↓q_Fld, ↓q_Meth, ↓q_MakeF, ↓q_sFld, ↓q_KIx, ↓q_inT, ↓q_inL, ↓q_inS, ↓q_ixL, ↓q_ixT, ↓q_ixC, ↓q_Lc, ↓q_Yes, ↓q_Sl, ↓q_oNone, ↓q_oSome, ↓q_slC, ↓q_slL, ↓q_slS, ↓q_MethK, ↓q_CallK, ↓q_Repr, ↓q_DispF, ↓q_DIx, ↓q_rep, ↓q_Prop, ↓q_IsC, ↓q_DGet1, ↓q_DIn, ↓q_gUnl, ↓q_DictK, ↓q_repM, ↓q_aXi, ↓q_aXs, ↓q_aXt, ↓q_aXl, ↓q_aMl, ↓q_ltX, ↓q_leX, ↓q_leX2, ↓q_SlX, ↓q_sXc, ↓q_sXl, ↓q_sXt, ↓q_sXs, ↓q_RevT, ↓q_sxI, ↓q_sxS, ↓q_lxT, ↓q_lxL, ↓q_txL, ↓q_txT, ↓q_lmT, ↓q_lmL, ↓q_Par3, ↓q_Join, ↓wp_two, ↓wp_r1, ↓wp_r2, ↓wp_someB, ↓wp_strE, ↓wp_FldO, ↓wp_someL, ↓wp_last, ↓wp_someX, ↓wp_three, ↓q_p40, ↓qi_t, ↓qi_f, ↓wb_bl, ↓wi_int, ↓wstr_str, ↓wtup_tup, ↓wlst_lst, ↓wref_ref, isn_int, isn_non, isn_str, isn_tup, isn_lst, isn_ref, isn_bl, isi_str_str, isi_int_int, isi_int_bl, isi_bool_int, isi_bool_bl, isi_int_non, isi_int_str, isi_tuple_tup, str_eq, String.reduceEq, List.any_cons, List.any_nil, List.all_cons, List.all_nil, Bool.and_true, Bool.or_false, Bool.true_and, Bool.false_and, Bool.and_false, Bool.false_or, Bool.or_true, Bool.true_or, Bool.not_not, flat_str, flat_int, flat_non, eqF_str, List.map_cons, List.map_nil, List.length_cons, List.length_nil, List.length_map, List.cons_append, List.nil_append, List.append_nil, List.set_cons_zero, List.set_cons_succ, List.replicate_succ, List.replicate_zero, Nat.reduceSub, Nat.reduceAdd, Nat.reduceLeDiff, Nat.zero_add, Nat.sub_self, Bool.not_eq_true', Bool.not_true, Bool.not_false, if_true, if_false, reduceIte, Bool.false_eq_true, true_and, and_true, decide_true, decide_false, Bool.true_eq_false, eq_self, $xs,*] $[$l]?)
def upF (a b : Int) : List Int := (List.range (b - a).toNat).map fun (k : Nat) => a + (k : Int)
theorem upF_mem {a b x : Int} : x ∈ upF a b ↔ a ≤ x ∧ x < b := by
  unfold upF
  rw [List.mem_map]
  constructor
  · rintro ⟨k, hk, rfl⟩
    have := List.mem_range.mp hk
    omega
  · rintro ⟨h1, h2⟩
    exact ⟨(x - a).toNat, List.mem_range.mpr (by omega), by omega⟩
theorem range_upF (a b : Int) : rangeD a b = (upF a b).map D.int := by
  unfold upF
  rw [List.map_map]
  rfl
end LW
namespace LW
open PySem PySem.Spec L2 TL DL
open PyProof.Rows hiding pairD cutD
open Tk
abbrev ob (k : Str) (z : D) : D := .obj "Thing" ["word", "many"] [.str k, z]
theorem mk_thing {k : Str} {lo n : Int} (h : tab_LEAST.lookup k = some lo) (h1 : lo ≤ n) (h2 : n ≤ 10000000000000000000000000000000000000000) : mkF_Thing [.str k, .int n] = some [.str k, .int n] := by
  show (match tab_LEAST.lookup k with
    | some lo => if lo ≤ n ∧ n ≤ 10000000000000000000000000000000000000000 then some [D.str k, .int n] else none
    | none => none) = _
  rw [h]
  exact if_pos ⟨h1, h2⟩
theorem mk_odd : mkF_Thing [.str "odd ring", .non] = some [.str "odd ring", .non] := rfl
theorem mk_even : mkF_Thing [.str "even ring", .non] = some [.str "even ring", .non] := rfl
theorem sh_tps (T : List (Int × Int)) : SeqAt.shaped (.tuple (T.map pairP)) = true := sh_pairs T
theorem eqT_prs (A B : List (Int × Int)) (S : Sto) : gEq (.tup (A.map pairD)) (.tup (B.map pairD)) S = some (.bl (decide (A = B)), S) := by
  have e : gEq (.tup (A.map pairD)) (.tup (B.map pairD)) S = (eqDeep false (.tup (A.map pairD)) (.tup (B.map pairD))).map fun d => (d, S) := by
    simp only [gEq]
  have tp : ∀ T : List (Int × Int), toP (.tup (T.map pairD)) = some (.tuple (T.map pairP)) := fun T => by
    show (toPs (T.map pairD)).map _ = _
    rw [toPs_pairP]
    rfl
  rw [e]
  unfold eqDeep
  rw [tp, tp]
  show ((if SeqAt.shaped (.tuple (A.map pairP)) = true ∧ SeqAt.shaped (.tuple (B.map pairP)) = true then some (D.bl (PyData.eqvAll (A.map pairP) (B.map pairP))) else none : Option D).map fun d => (d, S)) = _
  rw [if_pos ⟨sh_tps A, sh_tps B⟩, eqvAll_pairs]
  rfl
end LW
namespace LW
open PySem PySem.Spec L2 TL DL
open PyProof.Rows hiding pairD cutD
open Tk
def KLo : List (Str × Nat) := [("crowd", 2), ("star", 1), ("pairs", 1), ("row", 2), ("ring", 3), ("core", 1), ("linked", 1)]
def Th (m : Nat) : List (Str × D) := ([("odd ring", .non), ("even ring", .non)] : List (Str × D)) ++ KLo.flatMap fun p => (List.range (m + 1 - p.2)).map fun (j : Nat) => (p.1, D.int ((p.2 : Int) + (j : Int)))
def thD (p : Str × D) : D := .tup [.str p.1, p.2]
theorem th_mem {m : Nat} {p : Str × D} (h : p ∈ Th m) : p = (("odd ring" : Str), D.non) ∨ p = (("even ring" : Str), D.non) ∨ ∃ (kd : Str) (lo : Nat) (k : Int), (kd, lo) ∈ KLo ∧ (lo : Int) ≤ k ∧ k ≤ m ∧ p = (kd, .int k) := by
  rcases List.mem_append.mp h with h | h
  · rcases List.mem_cons.mp h with h | h
    · exact Or.inl h
    · exact Or.inr (Or.inl (List.mem_singleton.mp h))
  · obtain ⟨q, hq, h⟩ := List.mem_flatMap.mp h
    obtain ⟨j, hj, rfl⟩ := List.mem_map.mp h
    have := List.mem_range.mp hj
    exact Or.inr (Or.inr ⟨q.1, q.2, _, hq, by omega, by omega, rfl⟩)
theorem klo_mem {kd : Str} {lo : Nat} (h : (kd, lo) ∈ KLo) : (kd = "crowd" ∧ lo = 2) ∨ (kd = "star" ∧ lo = 1) ∨ (kd = "pairs" ∧ lo = 1) ∨ (kd = "row" ∧ lo = 2) ∨ (kd = "ring" ∧ lo = 3) ∨ (kd = "core" ∧ lo = 1) ∨ (kd = "linked" ∧ lo = 1) := by
  simp only [KLo, List.mem_cons, List.not_mem_nil, or_false, Prod.mk.injEq] at h
  exact h
theorem num_fk (N : Nat) (T : List (Int × Int)) {kd : Str} {lo : Nat} {k : Int} (h : (kd, lo) ∈ KLo) (h1 : (lo : Int) ≤ k) (h2 : k ≤ 1000) : ∃ sh, FK N T kd (.int k) sh := by
  rcases klo_mem h with ⟨rfl, rfl⟩ | ⟨rfl, rfl⟩ | ⟨rfl, rfl⟩ | ⟨rfl, rfl⟩ | ⟨rfl, rfl⟩ | ⟨rfl, rfl⟩ | ⟨rfl, rfl⟩
  · exact ⟨_, .crowd k (by omega)⟩
  · exact ⟨_, .star k (by omega)⟩
  · exact ⟨_, .pairs k (by omega)⟩
  · exact ⟨_, .row k (by omega)⟩
  · exact ⟨_, .ring k (by omega) (by omega)⟩
  · exact ⟨_, .core k (by omega)⟩
  · exact ⟨_, .linked k (by omega)⟩
theorem klo_tab {kd : Str} {lo : Nat} (h : (kd, lo) ∈ KLo) : tab_LEAST.lookup kd = some (lo : Int) := by
  rcases klo_mem h with ⟨rfl, rfl⟩ | ⟨rfl, rfl⟩ | ⟨rfl, rfl⟩ | ⟨rfl, rfl⟩ | ⟨rfl, rfl⟩ | ⟨rfl, rfl⟩ | ⟨rfl, rfl⟩ <;> decide +kernel
theorem th_fk (N : Nat) (T : List (Int × Int)) {m : Nat} {p : Str × D} (hm : m ≤ 1000) (h : p ∈ Th m) : ∃ sh, FK N T p.1 p.2 sh := by
  rcases th_mem h with rfl | rfl | ⟨kd, lo, k, h1, h2, h3, rfl⟩
  · exact ⟨_, .odd⟩
  · exact ⟨_, .even⟩
  · exact num_fk N T h1 h2 (by omega)
theorem th_mk {m : Nat} {p : Str × D} (hm : m ≤ 1000) (h : p ∈ Th m) : mkF_Thing [.str p.1, p.2] = some [.str p.1, p.2] := by
  rcases th_mem h with rfl | rfl | ⟨kd, lo, k, h1, h2, h3, rfl⟩
  · exact mk_odd
  · exact mk_even
  · exact mk_thing (klo_tab h1) h2 (by omega)
end LW
namespace LW
open PySem PySem.Spec L2 TL DL
open PyProof.Rows hiding pairD cutD
open Tk
local macro_rules | `(tactic| push_cast [$xs,*] $[$l]?) => `(tactic| simp only [↓q_Chain3, ↓q_iEnum, ↓q_sForR, ↓q_iR3, ↓q_repT, ↓q_ListR1, ↓q_TupR1, ↓q_iSeq, ↓q_zipM, ↓wzip_m, ↓q_nil0, ↓q_tIf, ↓q_star, ↓q_zip, ↓wseq_t, ↓wseq_l, ↓wzip_t, ↓wzip_l, ↓q_pfl_nx, ↓q_pfl_rt, ↓q_pfl_bk, ↓q_pfl_ct, ↓q_run_rt, ↓q_run_nx, ↓q_bk_nx, ↓q_bk_ct, ↓q_bk_bk, ↓q_bk_rt, ↓q_R_some, ↓q_R_none, ↓q_R_cond, ↓q_var0, ↓q_varS, ↓q_C, ↓q_Bin, ↓q_neg, ↓q_nil, ↓q_cons, ↓q_tup, ↓q_lst, ↓q_lstM, ↓q_Call, ↓q_And, ↓q_Or, ↓q_Not, ↓q_Test, ↓q_tAnd, ↓q_tOr, ↓q_tNot, ↓q_If, ↓q_Chain, ↓q_Skip, ↓q_Break, ↓q_Cont, ↓q_Never, ↓q_fNever, ↓q_Seq, ↓q_Expr, ↓q_Ret, ↓q_sIf, ↓q_Asg, ↓q_N, ↓q_gNil, ↓q_gCons, ↓q_gTup, ↓q_gSub, ↓q_Par, ↓q_Run, ↓q_For, ↓q_iLst, ↓q_iTup, ↓q_iR1, ↓q_iR2, ↓q_add, ↓q_addL, ↓q_addS, ↓q_I0, ↓q_mul, ↓q_fdiv, ↓q_mod, ↓q_eqI, ↓q_eqS, ↓q_eqB, ↓q_neI, ↓q_neS, ↓q_neB, ↓q_isN, ↓q_notN, ↓q_isi, ↓q_abs, ↓q_max2, ↓q_min2, ↓q_maxT, ↓q_intI, ↓q_intB, ↓q_lenS, ↓q_lenT, ↓q_lenL, ↓q_lenC, ↓q_divmod, ↓q_listL, ↓q_listT, ↓q_tupL, ↓q_tupT, ↓q_KIn, ↓q_Fld, ↓q_Meth, ↓q_MakeF, ↓q_sFld, ↓q_KIx, ↓q_inT, ↓q_inL, ↓q_inS, ↓q_ixL, ↓q_ixT, ↓q_ixC, ↓q_Lc, ↓q_Yes, ↓q_Sl, ↓q_oNone, ↓q_oSome, ↓q_slC, ↓q_slL, ↓q_slS, ↓q_MethK, ↓q_CallK, ↓q_Repr, ↓q_DispF, ↓q_DIx, ↓q_rep, ↓q_Prop, ↓q_IsC, ↓q_DGet1, ↓q_DIn, ↓q_gUnl, ↓q_DictK, ↓q_repM, ↓q_aXi, ↓q_aXs, ↓q_aXt, ↓q_aXl, ↓q_aMl, ↓q_ltX, ↓q_leX, ↓q_leX2, ↓q_SlX, ↓q_sXc, ↓q_sXl, ↓q_sXt, ↓q_sXs, ↓q_RevT, ↓q_sxI, ↓q_sxS, ↓q_lxT, ↓q_lxL, ↓q_txL, ↓q_txT, ↓q_lmT, ↓q_lmL, ↓q_Par3, ↓q_Join, ↓wp_two, ↓wp_r1, ↓wp_r2, ↓wp_someB, ↓wp_strE, ↓wp_FldO, ↓wp_someL, ↓wp_last, ↓wp_someX, ↓wp_three, ↓q_p40, ↓qi_t, ↓qi_f, ↓wb_bl, ↓wi_int, ↓wstr_str, ↓wtup_tup, ↓wlst_lst, ↓wref_ref, isn_int, isn_non, isn_str, isn_tup, isn_lst, isn_ref, isn_bl, isi_str_str, isi_int_int, isi_int_bl, isi_bool_int, isi_bool_bl, isi_int_non, isi_int_str, isi_tuple_tup, str_eq, String.reduceEq, List.any_cons, List.any_nil, List.all_cons, List.all_nil, Bool.and_true, Bool.or_false, Bool.true_and, Bool.false_and, Bool.and_false, Bool.false_or, Bool.or_true, Bool.true_or, Bool.not_not, flat_str, flat_int, flat_non, eqF_str, List.map_cons, List.map_nil, List.length_cons, List.length_nil, List.length_map, List.cons_append, List.nil_append, List.append_nil, List.set_cons_zero, List.set_cons_succ, List.replicate_succ, List.replicate_zero, Nat.reduceSub, Nat.reduceAdd, Nat.reduceLeDiff, Nat.zero_add, Nat.sub_self, Bool.not_eq_true', Bool.not_true, Bool.not_false, if_true, if_false, reduceIte, Bool.false_eq_true, true_and, and_true, decide_true, decide_false, Bool.true_eq_false, eq_self, $xs,*] $[$l]?)
abbrev tupI (l : List Int) : D := .tup (l.map D.int)
def subsL (xs : List Int) : List (List Int) := xs.foldl (fun found x => found ++ found.map (· ++ [x])) [[]]
theorem subs_snoc (xs : List Int) (x : Int) : subsL (xs ++ [x]) = subsL xs ++ (subsL xs).map (· ++ [x]) := by
  unfold subsL
  rw [List.foldl_append]
  rfl
theorem snoc_ind {α : Type} {Q : List α → Prop} (h0 : Q []) (h1 : ∀ xs x, Q xs → Q (xs ++ [x])) (xs : List α) : Q xs := by
  have key : ∀ ys : List α, Q ys.reverse := fun ys => by
    induction ys with
    | nil => exact h0
    | cons y ys ih =>
      rw [List.reverse_cons]
      exact h1 _ _ ih
  have := key xs.reverse
  rwa [List.reverse_reverse] at this
theorem subs_mem {l : List Int} {xs : List Int} : l ∈ subsL xs ↔ l.Sublist xs := by
  refine snoc_ind (Q := fun xs => ∀ l, l ∈ subsL xs ↔ l.Sublist xs) (fun l => ?_) (fun xs x ih l => ?_) xs l
  · show l ∈ [[]] ↔ _
    rw [List.mem_singleton, List.sublist_nil]
  · rw [subs_snoc, List.mem_append, ih, List.mem_map]
    constructor
    · rintro (h | ⟨z, hz, rfl⟩)
      · exact h.trans (List.sublist_append_left _ _)
      · exact ((ih z).mp hz).append (List.Sublist.refl _)
    · intro h
      obtain ⟨l1, l2, rfl, h1, h2⟩ := List.sublist_append_iff.mp h
      cases l2 with
      | nil => exact Or.inl (by simpa using h1)
      | cons y l2 =>
        have e : y :: l2 = [x] := by
          cases h2 with
          | cons _ h => cases h
          | cons_cons _ h => rw [List.sublist_nil.mp h]
        exact Or.inr ⟨l1, (ih l1).mpr h1, by rw [e]⟩
theorem subs_len (xs : List Int) : (subsL xs).length = 2 ^ xs.length := by
  refine snoc_ind (Q := fun xs => (subsL xs).length = 2 ^ xs.length) rfl (fun xs x ih => ?_) xs
  · rw [subs_snoc, List.length_append, List.length_map, ih, List.length_append, List.length_singleton, Nat.pow_succ]
    omega
theorem subsets_eq {xs : List Int} (hl : xs.length ≤ 10) (S : Sto) : w__law_subsets [.tup (xs.map D.int)] S = some (.lst ((subsL xs).map tupI), S) := by
  refine Qr_iff.mpr ?_ |> R.eq
  unfold w__law_subsets d__law_subsets b__law_subsets
  push_cast []
  refine q_forE [1, 2, 3] (fun i e S' => S' = S ∧ e[1]? = some (some (.lst ((subsL (xs.take i)).map tupI)))) ⟨rfl, rfl⟩ ?_ ?_
  · rintro i d _ S' hd ⟨a1, a2, a3, rfl⟩ ⟨rfl, h1⟩
    have h1 : a1 = some (.lst ((subsL (xs.take i)).map tupI)) := Option.some.inj h1
    subst h1
    rw [List.getElem?_map] at hd
    obtain ⟨x, hx, rfl⟩ := Option.map_eq_some_iff.mp hd
    have hsl := subs_len (xs.take i)
    have tl : (xs.take i).length ≤ 10 := by rw [List.length_take]; omega
    have p10 : (2 : Nat) ^ (xs.take i).length ≤ 2 ^ 10 := Nat.pow_le_pow_right (by decide) tl
    push_cast []
    refine ⟨by omega, ?_⟩
    refine q_lcM tupI (fun l => tupI (l ++ [x])) (fun l hl2 => ?_) ?_
    · have := (subs_mem.mp hl2).length_le
      push_cast [wipeD, tupI]
      exact ⟨by omega, by rw [List.map_append]; rfl⟩
    push_cast []
    refine ⟨by omega, ⟨_, _, _, rfl⟩, ?_⟩
    have et : xs.take (i + 1) = xs.take i ++ [x] := by
      rw [List.take_succ, hx]
      rfl
    rw [et, subs_snoc, List.map_append, List.map_map]
    rfl
  · rintro _ S' ⟨a1, a2, a3, rfl⟩ ⟨rfl, h1⟩
    have h1 : a1 = some (.lst ((subsL (xs.take (xs.map D.int).length)).map tupI)) := Option.some.inj h1
    subst h1
    rw [List.length_map, List.take_length]
    push_cast []
theorem in_tpsG (neg : Bool) (p : Int × Int) (ps : List (Int × Int)) (S : Sto) : gInX neg (pairD p) (.tup (ps.map pairD)) S = some (.bl (if neg then !decide (p ∈ ps) else decide (p ∈ ps)), S) := by
  have e : gInB neg (pairD p) (.tup (ps.map pairD)) S = none := by
    have h0 : gInB neg (pairD p) (.tup (ps.map pairD)) S = inSeq neg (pairD p) (ps.map pairD) S := rfl
    rw [h0]
    unfold inSeq
    rw [if_neg fun h => by cases h.1]
  have h := in_pairs neg p ps S
  unfold gInX at h ⊢
  rw [e]
  rw [gInB_pairs] at h
  exact h
theorem in_tp2 (x y : Int) (ps : List (Int × Int)) (S : Sto) : gInX true (.tup [.int x, .int y]) (.tup (ps.map pairD)) S = some (.bl (!decide ((x, y) ∈ ps)), S) := in_tpsG true (x, y) ps S
theorem tiedG_eq (A : List (Int × Int)) (a b : Int) (S : Sto) : w__law_tied [.tup (A.map pairD), .int a, .int b] S = some (.bl (tB A a b), S) := by
  refine Qr_iff.mpr ?_ |> R.eq
  unfold w__law_tied d__law_tied b__law_tied
  push_cast []
  have e1 : (if b < a then b else a) = min a b := by split <;> omega
  have e2 : (if b > a then b else a) = max a b := by split <;> omega
  rw [e1, e2]
  exact q_of (in_tpsG false (min a b, max a b) A S) ⟨rfl, rfl⟩
theorem ne_nilL {α : Type} (φ : α → D) (hφ : ∀ x, ∃ p, toP (φ x) = some p) (l : List α) (S : Sto) (hl : ∀ l : List α, ∃ ps, toPs (l.map φ) = some ps ∧ ps.length = l.length ∧ SeqAt.shaped (.list ps) = true) : gNe (.lst (l.map φ)) (.lst []) S = some (.bl (!decide (l = [])), S) := by
  cases l with
  | nil => rfl
  | cons x l =>
    obtain ⟨ps, h1, h2, h3⟩ := hl (x :: l)
    have e : gNe (.lst ((x :: l).map φ)) (.lst []) S = (eqDeep true (.lst ((x :: l).map φ)) (.lst [])).map fun d => (d, S) := by
      simp only [gNe]
    have tp : toP (.lst ((x :: l).map φ)) = some (.list ps) := by
      show (toPs ((x :: l).map φ)).map _ = _
      rw [h1]
      rfl
    rw [e]
    unfold eqDeep
    rw [tp]
    show ((if SeqAt.shaped (.list ps) = true ∧ SeqAt.shaped (.list []) = true then some (D.bl (!PyData.eqvAll ps [])) else none : Option D).map fun d => (d, S)) = _
    rw [if_pos ⟨h3, rfl⟩]
    cases ps with
    | nil => simp at h2
    | cons p ps => rfl
theorem ne_nilI (l : List Int) (S : Sto) : gNe (.lst (l.map D.int)) (.lst []) S = some (.bl (!decide (l = [])), S) :=
  ne_nilL D.int (fun x => ⟨_, rfl⟩) l S fun l => ⟨l.map PyData.int, toPs_ints l, List.length_map .., sh_lst l⟩
section
variable {N : Nat} {T : List (Int × Int)} (hn : N ≤ 10) (hT : Ties (N : Int) T) (S : Sto)
theorem asc_up {l : List Int} (h : l.Sublist (upto (N : Int))) : l.Pairwise (· < ·) ∧ Row (N : Int) l := by
  have rr := upto_row (N : Int)
  have ha : (upto (N : Int)).Pairwise (· < ·) := by
    unfold upto
    rw [List.pairwise_map]
    exact List.pairwise_lt_range.imp fun {a b} h => by omega
  exact ⟨ha.sublist h, ⟨rr.nd.sublist h, fun x hx => rr.rng x (h.subset hx)⟩⟩
include hn hT
theorem is_crowd_jb {l : List Int} (hs : l.Sublist (upto (N : Int))) : JB (w__law_is_crowd [.tup (l.map D.int), .tup (T.map pairD)] S) S (TiedP T l) := by
  have hul := upto_len (N := (N : Int)) (by omega)
  have hll := hs.length_le
  obtain ⟨ha, hr⟩ := asc_up hs
  refine JB.of_q ?_
  unfold w__law_is_crowd d__law_is_crowd b__law_is_crowd
  push_cast []
  refine q_forQ D.int (fun x => ∀ y ∈ l, x < y → (x, y) ∈ T) [2, 3] (fun x hx e he => ?_) (fun hall e he => ?_) (fun hno => ?_)
  · obtain ⟨a2, a3, rfl⟩ := he
    push_cast []
    refine ⟨by omega, ?_⟩
    refine q_lcQ D.int D.int (fun y => decide (x < y) && !decide ((x, y) ∈ T)) (fun y hy => ?_) ?_
    · push_cast [wipeD]
      refine qi_dec (fun h => ?_) fun h => ?_
      · push_cast [in_tp2]
        rw [decide_eq_true h, Bool.true_and]
        exact ⟨rfl, fun _ => trivial⟩
      · push_cast []
        rw [decide_eq_false h, Bool.false_and]
        exact ⟨rfl, fun _ => trivial⟩
    push_cast [ne_nilI]
    have iff1 : (l.filter (fun y => decide (x < y) && !decide ((x, y) ∈ T)) = []) ↔ ∀ y ∈ l, x < y → (x, y) ∈ T := by
      rw [List.filter_eq_nil_iff]
      refine forall_congr' fun y => forall_congr' fun _ => ?_
      rw [Bool.and_eq_true, decide_eq_true_eq, Bool.not_eq_true', decide_eq_false_iff_not]
      exact ⟨fun h g => Classical.byContradiction fun q => h ⟨g, q⟩, fun h g => g.2 (h g.1)⟩
    refine qi_ndec (fun h => ?_) fun h => ?_
    · push_cast []
      exact Or.inr fun g => h (iff1.mpr g)
    · push_cast []
      exact Or.inl ⟨_, rfl, ⟨_, _, rfl⟩, iff1.mp h⟩
  · obtain ⟨a2, a3, rfl⟩ := he
    push_cast []
    refine true_of' ?_
    refine (List.Pairwise.and_mem.mp ha).imp fun {a b} hab => ?_
    unfold tB
    have := hab.2.2
    rw [show min a b = a by omega, show max a b = b by omega]
    exact decide_eq_true (hall a hab.1 b hab.2.1 this)
  · push_cast []
    refine false_of' fun g => hno fun x hx y hy hxy => ?_
    have : tB T x y = true := by
      have key : ∀ {l : List Int}, l.Pairwise (· < ·) → TiedP T l → ∀ x ∈ l, ∀ y ∈ l, x < y → tB T x y = true := by
        intro l
        induction l with
        | nil => intro _ _ x hx; cases hx
        | cons z l ih =>
          intro ha hp x hx y hy hlt
          obtain ⟨a1, a2⟩ := List.pairwise_cons.mp ha
          obtain ⟨p1, p2⟩ := List.pairwise_cons.mp hp
          rcases List.mem_cons.mp hx with ex | hx
          · rcases List.mem_cons.mp hy with ey | hy
            · omega
            · rw [ex]
              exact p1 y hy
          · rcases List.mem_cons.mp hy with ey | hy
            · have := a1 x hx
              omega
            · exact ih a2 p2 x hx y hy hlt
      exact key ha g x hx y hy hxy
    unfold tB at this
    rw [show min x y = x by omega, show max x y = y by omega] at this
    exact of_decide_eq_true this
end
end LW
namespace LW
open PySem PySem.Spec L2 TL DL
open PyProof.Rows hiding pairD cutD
open Tk
local macro_rules | `(tactic| push_cast [$xs,*] $[$l]?) => `(tactic| simp only [↓q_Chain3, ↓q_iEnum, ↓q_sForR, ↓q_iR3, ↓q_repT, ↓q_ListR1, ↓q_TupR1, ↓q_iSeq, ↓q_zipM, ↓wzip_m, ↓q_nil0, ↓q_tIf, ↓q_star, ↓q_zip, ↓wseq_t, ↓wseq_l, ↓wzip_t, ↓wzip_l, ↓q_pfl_nx, ↓q_pfl_rt, ↓q_pfl_bk, ↓q_pfl_ct, ↓q_run_rt, ↓q_run_nx, ↓q_bk_nx, ↓q_bk_ct, ↓q_bk_bk, ↓q_bk_rt, ↓q_R_some, ↓q_R_none, ↓q_R_cond, ↓q_var0, ↓q_varS, ↓q_C, ↓q_Bin, ↓q_neg, ↓q_nil, ↓q_cons, ↓q_tup, ↓q_lst, ↓q_lstM, ↓q_Call, ↓q_And, ↓q_Or, ↓q_Not, ↓q_Test, ↓q_tAnd, ↓q_tOr, ↓q_tNot, ↓q_If, ↓q_Chain, ↓q_Skip, ↓q_Break, ↓q_Cont, ↓q_Never, ↓q_fNever, ↓q_Seq, ↓q_Expr, ↓q_Ret, ↓q_sIf, ↓q_Asg, ↓q_N, ↓q_gNil, ↓q_gCons, ↓q_gTup, ↓q_gSub, ↓q_Par, ↓q_Run, ↓q_For, ↓q_iLst, ↓q_iTup, ↓q_iR1, ↓q_iR2, ↓q_add, ↓q_addL, ↓q_addS, ↓q_I0, ↓q_mul, ↓q_fdiv, ↓q_mod, ↓q_eqI, ↓q_eqS, ↓q_eqB, ↓q_neI, ↓q_neS, ↓q_neB, ↓q_isN, ↓q_notN, ↓q_isi, ↓q_abs, ↓q_max2, ↓q_min2, ↓q_maxT, ↓q_intI, ↓q_intB, ↓q_lenS, ↓q_lenT, ↓q_lenL, ↓q_lenC, ↓q_divmod, ↓q_listL, ↓q_listT, ↓q_tupL, ↓q_tupT, ↓q_KIn, ↓q_Fld, ↓q_Meth, ↓q_MakeF, ↓q_sFld, ↓q_KIx, ↓q_inT, ↓q_inL, ↓q_inS, ↓q_ixL, ↓q_ixT, ↓q_ixC, ↓q_Lc, ↓q_Yes, ↓q_Sl, ↓q_oNone, ↓q_oSome, ↓q_slC, ↓q_slL, ↓q_slS, ↓q_MethK, ↓q_CallK, ↓q_Repr, ↓q_DispF, ↓q_DIx, ↓q_rep, ↓q_Prop, ↓q_IsC, ↓q_DGet1, ↓q_DIn, ↓q_gUnl, ↓q_DictK, ↓q_repM, ↓q_aXi, ↓q_aXs, ↓q_aXt, ↓q_aXl, ↓q_aMl, ↓q_ltX, ↓q_leX, ↓q_leX2, ↓q_SlX, ↓q_sXc, ↓q_sXl, ↓q_sXt, ↓q_sXs, ↓q_RevT, ↓q_sxI, ↓q_sxS, ↓q_lxT, ↓q_lxL, ↓q_txL, ↓q_txT, ↓q_lmT, ↓q_lmL, ↓q_Par3, ↓q_Join, ↓wp_two, ↓wp_r1, ↓wp_r2, ↓wp_someB, ↓wp_strE, ↓wp_FldO, ↓wp_someL, ↓wp_last, ↓wp_someX, ↓wp_three, ↓q_p40, ↓qi_t, ↓qi_f, ↓wb_bl, ↓wi_int, ↓wstr_str, ↓wtup_tup, ↓wlst_lst, ↓wref_ref, isn_int, isn_non, isn_str, isn_tup, isn_lst, isn_ref, isn_bl, isi_str_str, isi_int_int, isi_int_bl, isi_bool_int, isi_bool_bl, isi_int_non, isi_int_str, isi_tuple_tup, str_eq, String.reduceEq, List.any_cons, List.any_nil, List.all_cons, List.all_nil, Bool.and_true, Bool.or_false, Bool.true_and, Bool.false_and, Bool.and_false, Bool.false_or, Bool.or_true, Bool.true_or, Bool.not_not, flat_str, flat_int, flat_non, eqF_str, List.map_cons, List.map_nil, List.length_cons, List.length_nil, List.length_map, List.cons_append, List.nil_append, List.append_nil, List.set_cons_zero, List.set_cons_succ, List.replicate_succ, List.replicate_zero, Nat.reduceSub, Nat.reduceAdd, Nat.reduceLeDiff, Nat.zero_add, Nat.sub_self, Bool.not_eq_true', Bool.not_true, Bool.not_false, if_true, if_false, reduceIte, Bool.false_eq_true, true_and, and_true, decide_true, decide_false, Bool.true_eq_false, eq_self, $xs,*] $[$l]?)
section
variable {N : Nat} {T : List (Int × Int)} (hn : N ≤ 10) (hT : Ties (N : Int) T) (S : Sto)
include hn hT
def keepG (T : List (Int × Int)) (k : Int) (L : List Int) : List Int := L.filter fun x => decide (k ≤ ((L.filter (tB T x)).length : Int))
omit hn hT in
theorem keep_sub (k : Int) (L : List Int) : (keepG T k L).Sublist L := List.filter_sublist
theorem core_law (k : Int) : Qr go (w__law_core [.tup (T.map pairD), .tup ((upto (N : Int)).map D.int), .int k] S) fun _ d S' => S' = S ∧ ∃ c : List Int, d = .tup (c.map D.int) ∧ c.Sublist (upto (N : Int)) ∧ CoreL T k c ∧ ∀ c' : List Int, c'.Nodup → Inn N c' → CoreL T k c' → ∀ x ∈ c', x ∈ c := by
  have rr := upto_row (N : Int)
  have hul := upto_len (N := (N : Int)) (by omega)
  unfold w__law_core d__law_core b__law_core
  push_cast []
  refine ⟨ok_range (by omega) (by omega), ?_⟩
  refine q_forE [3, 4, 5, 6] (fun t e S' => S' = S ∧ ∃ L : List Int, e[3]? = some (some (.tup (L.map D.int))) ∧ L.Sublist (upto (N : Int)) ∧ (∀ c' : List Int, c'.Nodup → Inn N c' → CoreL T k c' → ∀ x ∈ c', x ∈ L) ∧ (keepG T k L = L ∨ L.length + t ≤ N))
    ⟨rfl, upto (N : Int), rfl, List.Sublist.refl _, fun c h1 h2 h3 x hx => row_all (by omega) rr.nd rr.rng hul (h2 x hx).1 (h2 x hx).2, Or.inr (by omega)⟩ ?_ ?_
  · rintro t d _ S' hd ⟨a3, a4, a5, a6, rfl⟩ ⟨rfl, L, h3, hs, ham, hst⟩
    have h3 : a3 = some (.tup (L.map D.int)) := Option.some.inj h3
    subst h3
    have hll := hs.length_le
    have hnd := rr.nd.sublist hs
    push_cast []
    refine ⟨by omega, ?_⟩
    refine q_lcQ D.int D.int (fun x => decide (k ≤ ((L.filter (tB T x)).length : Int))) (fun x hx => ?_) ?_
    · push_cast [wipeD]
      refine ⟨by omega, ?_⟩
      refine q_lcQ D.int D.int (tB T x) (fun y hy => ?_) ?_
      · push_cast [wipeD, tiedG_eq]
        exact fun _ => trivial
      · push_cast []
        exact fun _ => trivial
    push_cast []
    refine ⟨⟨_, _, _, _, rfl⟩, keepG T k L, rfl, (keep_sub k L).trans hs, fun c h1 h2 h3 x hx => ?_, ?_⟩
    · refine List.mem_filter.mpr ⟨ham c h1 h2 h3 x hx, decide_eq_true ?_⟩
      have hc := h3 x hx
      have hle : c.countP (tB T x) ≤ (L.filter (tB T x)).length := by
        rw [List.countP_eq_length_filter]
        exact nodup_le (h1.filter _) fun y hy => by
          have := List.mem_filter.mp hy
          exact List.mem_filter.mpr ⟨ham c h1 h2 h3 y this.1, this.2⟩
      omega
    · by_cases e : keepG T k L = L
      · exact Or.inl (by rw [e, e])
      · refine Or.inr ?_
        have hlt : (keepG T k L).length < L.length := by
          have h1 := (keep_sub (T := T) k L).length_le
          have h2 : (keepG T k L).length ≠ L.length := fun q => e ((keep_sub k L).eq_of_length q)
          omega
        rcases hst with q | q
        · exact absurd q e
        · omega
  · rintro _ S' ⟨a3, a4, a5, a6, rfl⟩ ⟨rfl, L, h3, hs, ham, hst⟩
    have h3 : a3 = some (.tup (L.map D.int)) := Option.some.inj h3
    subst h3
    rw [len_range] at hst
    push_cast []
    refine ⟨L, rfl, hs, fun x hx => ?_, ham⟩
    have stab : keepG T k L = L := by
      rcases hst with q | q
      · exact q
      · have : L.length = 0 := by omega
        rw [List.length_eq_zero_iff.mp this]
        rfl
    rw [← stab] at hx
    have := of_decide_eq_true (List.mem_filter.mp hx).2
    rw [List.countP_eq_length_filter]
    exact this
structure Grown (A : Int → Int → Bool) (L F : List Int) : Prop where
  nd : F.Nodup
  sub : ∀ x ∈ F, x ∈ L
  first : ∀ f, L[0]? = some f → f ∈ F
  sound : ∀ U : Int → Prop, (∀ f, L[0]? = some f → U f) → (∀ x y, x ∈ L → y ∈ L → U x → A x y = true → U y) → ∀ x ∈ F, U x
def moreG (A : Int → Int → Bool) (L F : List Int) : List Int := L.filter fun x => !decide (x ∈ F) && !decide (F.filter (A x) = [])
omit hn hT in
theorem grown_step {A : Int → Int → Bool} (sy : ∀ x y, A x y = A y x) {L F : List Int} (hL : L.Nodup) (h : Grown A L F) : Grown A L (F ++ moreG A L F) where
  nd := List.nodup_append.mpr ⟨h.nd, hL.filter _, fun a ha b hb e => by
    have := (List.mem_filter.mp hb).2
    rw [Bool.and_eq_true, Bool.not_eq_true', decide_eq_false_iff_not] at this
    exact this.1 (e ▸ ha)⟩
  sub := fun x hx => by
    rcases List.mem_append.mp hx with hx | hx
    · exact h.sub x hx
    · exact (List.mem_filter.mp hx).1
  first := fun f hf => List.mem_append_left _ (h.first f hf)
  sound := fun U h1 h2 x hx => by
    rcases List.mem_append.mp hx with hx | hx
    · exact h.sound U h1 h2 x hx
    · obtain ⟨hx1, hx2⟩ := List.mem_filter.mp hx
      rw [Bool.and_eq_true, Bool.not_eq_true', decide_eq_false_iff_not, Bool.not_eq_true', decide_eq_false_iff_not] at hx2
      obtain ⟨y, hy⟩ := List.exists_mem_of_ne_nil _ hx2.2
      obtain ⟨hy1, hy2⟩ := List.mem_filter.mp hy
      exact h2 y x (h.sub y hy1) hx1 (h.sound U h1 h2 y hy1) (by rw [sy]; exact hy2)
omit hn hT in
theorem grown_iff {A : Int → Int → Bool} (sy : ∀ x y, A x y = A y x) {L F : List Int} (hL : L.Nodup) (h : Grown A L F) (st : moreG A L F = []) : F.length = L.length ↔ HangL A L := by
  constructor
  · intro e U h1 h2 y hy
    exact h.sound U h1 h2 y (nodup_full h.nd h.sub e hy)
  · intro g
    have all := g (· ∈ F) h.first fun x y hx hy u a => by
      refine Classical.byContradiction fun hno => ?_
      have := List.filter_eq_nil_iff.mp st y hy
      rw [Bool.and_eq_true, Bool.not_eq_true', decide_eq_false_iff_not, Bool.not_eq_true', decide_eq_false_iff_not] at this
      refine this ⟨hno, fun e => ?_⟩
      have := List.filter_eq_nil_iff.mp e x u
      rw [sy] at a
      exact this a
    have h1 := nodup_le hL all
    have h2 := nodup_le h.nd h.sub
    omega
theorem joined_jb {L : List Int} (hL : L.Nodup) (hr : Inn N L) : JB (w__law_joined [.tup (T.map pairD), .lst (L.map D.int)] S) S (HangL (tB T) L) := by
  have hll := nodup_len (n := (N : Int)) (by omega) hL hr
  have sy := tB_comm T
  refine JB.of_q ?_
  unfold w__law_joined d__law_joined b__law_joined
  have el : cListX [.lst ((L.take 1).map D.int)] S = some (.lst ((L.take 1).map D.int), S) := rfl
  push_cast [cut_take1, el]
  refine ⟨ok_range (by omega) (by omega), ?_⟩
  have g0 : Grown (tB T) L (L.take 1) := by
    have f := found0 (A := tB T) hL
    exact ⟨f.nd, f.sub, f.first, f.sound⟩
  refine q_forE [2, 3, 4, 5] (fun t e S' => S' = S ∧ ∃ F : List Int, e[2]? = some (some (.lst (F.map D.int))) ∧ Grown (tB T) L F ∧ (moreG (tB T) L F = [] ∨ t + 1 ≤ F.length)) ⟨rfl, L.take 1, rfl, g0, ?_⟩ ?_ ?_
  · cases L with
    | nil => exact Or.inl rfl
    | cons x L => exact Or.inr (by simp)
  · rintro t d _ S' hd ⟨a2, a3, a4, a5, rfl⟩ ⟨rfl, F, h2, hG, hst⟩
    have h2 : a2 = some (.lst (F.map D.int)) := Option.some.inj h2
    subst h2
    have hfl := nodup_le hG.nd hG.sub
    push_cast []
    refine ⟨by omega, ?_⟩
    refine q_lcQ D.int D.int (fun x => !decide (x ∈ F) && !decide (F.filter (tB T x) = [])) (fun x hx => ?_) ?_
    · push_cast [wipeD, in_intsL]
      refine qi_ndec (fun h => ?_) fun h => ?_
      · push_cast []
        refine ⟨by omega, ?_⟩
        refine q_lcQ D.int D.int (tB T x) (fun y hy => ?_) ?_
        · push_cast [wipeD, tiedG_eq]
          exact fun _ => trivial
        · push_cast [ne_nilI]
          rw [decide_eq_false h]
          exact ⟨rfl, fun _ => trivial⟩
      · push_cast []
        rw [decide_eq_true h]
        exact ⟨rfl, fun _ => trivial⟩
    have hml : (moreG (tB T) L F).length ≤ L.length := List.length_filter_le _ _
    have hme : (L.filter fun x => !decide (x ∈ F) && !decide (F.filter (tB T x) = [])) = moreG (tB T) L F := rfl
    rw [hme]
    push_cast []
    refine ⟨by omega, ⟨_, _, _, _, rfl⟩, F ++ moreG (tB T) L F, by rw [List.map_append]; rfl, grown_step sy hL hG, ?_⟩
    cases hm : moreG (tB T) L F with
    | nil => exact Or.inl (by rw [List.append_nil]; exact hm)
    | cons y ys =>
      rcases hst with q | q
      · rw [hm] at q
        cases q
      · exact Or.inr (by rw [List.length_append, List.length_cons]; omega)
  · rintro _ S' ⟨a2, a3, a4, a5, rfl⟩ ⟨rfl, F, h2, hG, hst⟩
    have h2 : a2 = some (.lst (F.map D.int)) := Option.some.inj h2
    subst h2
    rw [len_range] at hst
    have hfl := nodup_le hG.nd hG.sub
    push_cast []
    refine ⟨_, rfl, ?_⟩
    have st : moreG (tB T) L F = [] := by
      rcases hst with q | q
      · exact q
      · omega
    rw [decide_eq_true_eq, ← grown_iff sy hL hG st]
    omega
end
end LW
namespace LW
open PySem PySem.Spec L2 TL DL
open PyProof.Rows hiding pairD cutD
open Tk
local macro_rules | `(tactic| push_cast [$xs,*] $[$l]?) => `(tactic| simp only [↓q_Chain3, ↓q_iEnum, ↓q_sForR, ↓q_iR3, ↓q_repT, ↓q_ListR1, ↓q_TupR1, ↓q_iSeq, ↓q_zipM, ↓wzip_m, ↓q_nil0, ↓q_tIf, ↓q_star, ↓q_zip, ↓wseq_t, ↓wseq_l, ↓wzip_t, ↓wzip_l, ↓q_pfl_nx, ↓q_pfl_rt, ↓q_pfl_bk, ↓q_pfl_ct, ↓q_run_rt, ↓q_run_nx, ↓q_bk_nx, ↓q_bk_ct, ↓q_bk_bk, ↓q_bk_rt, ↓q_R_some, ↓q_R_none, ↓q_R_cond, ↓q_var0, ↓q_varS, ↓q_C, ↓q_Bin, ↓q_neg, ↓q_nil, ↓q_cons, ↓q_tup, ↓q_lst, ↓q_lstM, ↓q_Call, ↓q_And, ↓q_Or, ↓q_Not, ↓q_Test, ↓q_tAnd, ↓q_tOr, ↓q_tNot, ↓q_If, ↓q_Chain, ↓q_Skip, ↓q_Break, ↓q_Cont, ↓q_Never, ↓q_fNever, ↓q_Seq, ↓q_Expr, ↓q_Ret, ↓q_sIf, ↓q_Asg, ↓q_N, ↓q_gNil, ↓q_gCons, ↓q_gTup, ↓q_gSub, ↓q_Par, ↓q_Run, ↓q_For, ↓q_iLst, ↓q_iTup, ↓q_iR1, ↓q_iR2, ↓q_add, ↓q_addL, ↓q_addS, ↓q_I0, ↓q_mul, ↓q_fdiv, ↓q_mod, ↓q_eqI, ↓q_eqS, ↓q_eqB, ↓q_neI, ↓q_neS, ↓q_neB, ↓q_isN, ↓q_notN, ↓q_isi, ↓q_abs, ↓q_max2, ↓q_min2, ↓q_maxT, ↓q_intI, ↓q_intB, ↓q_lenS, ↓q_lenT, ↓q_lenL, ↓q_lenC, ↓q_divmod, ↓q_listL, ↓q_listT, ↓q_tupL, ↓q_tupT, ↓q_KIn, ↓q_Fld, ↓q_Meth, ↓q_MakeF, ↓q_sFld, ↓q_KIx, ↓q_inT, ↓q_inL, ↓q_inS, ↓q_ixL, ↓q_ixT, ↓q_ixC, ↓q_Lc, ↓q_Yes, ↓q_Sl, ↓q_oNone, ↓q_oSome, ↓q_slC, ↓q_slL, ↓q_slS, ↓q_MethK, ↓q_CallK, ↓q_Repr, ↓q_DispF, ↓q_DIx, ↓q_rep, ↓q_Prop, ↓q_IsC, ↓q_DGet1, ↓q_DIn, ↓q_gUnl, ↓q_DictK, ↓q_repM, ↓q_aXi, ↓q_aXs, ↓q_aXt, ↓q_aXl, ↓q_aMl, ↓q_ltX, ↓q_leX, ↓q_leX2, ↓q_SlX, ↓q_sXc, ↓q_sXl, ↓q_sXt, ↓q_sXs, ↓q_RevT, ↓q_sxI, ↓q_sxS, ↓q_lxT, ↓q_lxL, ↓q_txL, ↓q_txT, ↓q_lmT, ↓q_lmL, ↓q_Par3, ↓q_Join, ↓wp_two, ↓wp_r1, ↓wp_r2, ↓wp_someB, ↓wp_strE, ↓wp_FldO, ↓wp_someL, ↓wp_last, ↓wp_someX, ↓wp_three, ↓q_p40, ↓qi_t, ↓qi_f, ↓wb_bl, ↓wi_int, ↓wstr_str, ↓wtup_tup, ↓wlst_lst, ↓wref_ref, isn_int, isn_non, isn_str, isn_tup, isn_lst, isn_ref, isn_bl, isi_str_str, isi_int_int, isi_int_bl, isi_bool_int, isi_bool_bl, isi_int_non, isi_int_str, isi_tuple_tup, str_eq, String.reduceEq, List.any_cons, List.any_nil, List.all_cons, List.all_nil, Bool.and_true, Bool.or_false, Bool.true_and, Bool.false_and, Bool.and_false, Bool.false_or, Bool.or_true, Bool.true_or, Bool.not_not, flat_str, flat_int, flat_non, eqF_str, List.map_cons, List.map_nil, List.length_cons, List.length_nil, List.length_map, List.cons_append, List.nil_append, List.append_nil, List.set_cons_zero, List.set_cons_succ, List.replicate_succ, List.replicate_zero, Nat.reduceSub, Nat.reduceAdd, Nat.reduceLeDiff, Nat.zero_add, Nat.sub_self, Bool.not_eq_true', Bool.not_true, Bool.not_false, if_true, if_false, reduceIte, Bool.false_eq_true, true_and, and_true, decide_true, decide_false, Bool.true_eq_false, eq_self, $xs,*] $[$l]?)
theorem apart_sub {V W : List (Int × Int)} (h : V.Sublist W) (a : ApartP W) : ApartP V := List.Pairwise.sublist h a
/-- the most ties of T without a common person -/
def MostP (T : List (Int × Int)) (m : Nat) : Prop := (∃ V, V.Sublist T ∧ ApartP V ∧ V.length = m) ∧ ∀ V, V.Sublist T → ApartP V → V.length ≤ m
theorem most_step {p : Int × Int} {T : List (Int × Int)} (hp : p.1 ≠ p.2) {a b : Nat} (h1 : MostP ((p :: T).filter (apB p)) a) (h2 : MostP T b) : MostP (p :: T) (max (1 + a) b) := by
  have self : apB p p = false := by
    unfold apB
    simp
  have e : (p :: T).filter (apB p) = T.filter (apB p) := by
    rw [List.filter_cons, if_neg (by rw [self]; exact Bool.false_ne_true)]
  rw [e] at h1
  obtain ⟨⟨V, v1, v2, v3⟩, h1⟩ := h1
  obtain ⟨⟨W, w1, w2, w3⟩, h2⟩ := h2
  refine ⟨?_, fun U u1 u2 => ?_⟩
  · by_cases c : b ≤ 1 + a
    · refine ⟨p :: V, (v1.trans List.filter_sublist).cons_cons p, List.pairwise_cons.mpr ⟨fun q hq => (List.mem_filter.mp (v1.subset hq)).2, v2⟩, ?_⟩
      rw [List.length_cons, v3]
      omega
    · exact ⟨W, w1.cons p, w2, by omega⟩
  · cases u1 with
    | cons _ u =>
      have := h2 U u u2
      omega
    | @cons_cons U' _ _ u =>
      obtain ⟨g1, g2⟩ := List.pairwise_cons.mp u2
      have hf := (List.filter_eq_self (p := apB p)).mpr g1
      have := u.filter (apB p)
      rw [hf] at this
      have := h1 U' this g2
      rw [List.length_cons]
      omega
theorem nn_pairs (a b : Int) (q : Int × Int) : (!decide (a ∈ [q.1, q.2]) && !decide (b ∈ [q.1, q.2])) = apB (a, b) q := by
  unfold apB
  rw [Bool.eq_iff_iff]
  simp
  omega
theorem eqT_nilP (ps : List (Int × Int)) (S : Sto) : gEq (.tup (ps.map pairD)) (.tup []) S = some (.bl (decide (ps = [])), S) := eqT_prs ps [] S
theorem in_prT (x : Int) (q : Int × Int) (S : Sto) : gInX true (.int x) (pairD q) S = some (.bl (!decide (x ∈ [q.1, q.2])), S) := in_intsT true x [q.1, q.2] S
theorem apart_law : ∀ (n : Nat) (T : List (Int × Int)) (S : Sto), T.length < n → T.length ≤ 100 → (∀ p ∈ T, p.1 ≠ p.2) → ∃ m : Nat, w__law_pairs_apart_n n [.tup (T.map pairD)] S = some (.int (m : Int), S) ∧ MostP T m := by
  intro n
  induction n with
  | zero => intro T S h; omega
  | succ n ih =>
    intro T S hn hl hne
    cases T with
    | nil =>
      refine ⟨0, ?_, ⟨[], .slnil, .nil, rfl⟩, fun V hs _ => by rw [List.sublist_nil.mp hs]; exact Nat.le_refl _⟩
      refine Qr_iff.mpr ?_ |> R.eq
      show Qr go (d__law_pairs_apart (w__law_pairs_apart_n n) [.tup []] S) _
      unfold d__law_pairs_apart b__law_pairs_apart
      have e : gEq (.tup []) (.tup []) S = some (.bl true, S) := rfl
      push_cast [e]
      rfl
    | cons p T =>
      rw [List.length_cons] at hn hl
      have self : apB p p = false := by
        unfold apB
        simp
      have hfl : ((p :: T).filter (apB p)).length ≤ T.length := by
        rw [List.filter_cons, if_neg (by rw [self]; exact Bool.false_ne_true)]
        exact List.length_filter_le _ _
      obtain ⟨a, ea, ha⟩ := ih ((p :: T).filter (apB p)) S (by omega) (by omega) fun q hq => hne q (List.mem_filter.mp hq).1
      obtain ⟨b, eb, hb⟩ := ih T S (by omega) (by omega) fun q hq => hne q (List.mem_cons_of_mem _ hq)
      refine ⟨max (1 + a) b, ?_, most_step (hne p (List.mem_cons_self ..)) ha hb⟩
      obtain ⟨W, hW⟩ : ∃ W, W = p :: T := ⟨_, rfl⟩
      have wl : W.length = T.length + 1 := by rw [hW]; rfl
      have w0 : L2.atI (W.map pairD) 0 = some (.tup [.int p.1, .int p.2]) := by rw [hW]; exact atI_nat (j := 0) rfl
      have w1 : DL.cutD (W.map pairD) (some 1) none = T.map pairD := by
        rw [hW]
        exact cut_prsF (p :: T) 0
      have wn : W ≠ [] := by rw [hW]; exact fun e => nomatch e
      rw [← hW] at ea ⊢
      refine Qr_iff.mpr ?_ |> R.eq
      show Qr go (d__law_pairs_apart (w__law_pairs_apart_n n) [.tup (W.map pairD)] S) _
      unfold d__law_pairs_apart b__law_pairs_apart
      push_cast [eqT_nilP, decide_eq_false wn, w0]
      refine ⟨by omega, ?_⟩
      refine q_lcQ pairD pairD (apB p) (fun q hq => ?_) ?_
      · have e3 : apB p q = (!decide (p.1 ∈ [q.1, q.2]) && !decide (p.2 ∈ [q.1, q.2])) := (nn_pairs p.1 p.2 q).symm
        push_cast [wipeD, in_prT]
        refine qi_ndec (fun h => ?_) fun h => ?_
        · push_cast [in_prT]
          rw [e3, decide_eq_false h, Bool.not_false, Bool.true_and]
          exact ⟨rfl, fun _ => trivial⟩
        · push_cast []
          rw [e3, decide_eq_true h, Bool.not_true, Bool.false_and]
          exact ⟨rfl, fun _ => trivial⟩
      push_cast [ea, w1, eb]
      have em : (if (b : Int) > 1 + (a : Int) then (b : Int) else 1 + (a : Int)) = ((max (1 + a) b : Nat) : Int) := by split <;> omega
      rw [em]
theorem most_iff {T : List (Int × Int)} {m : Nat} (h : MostP T m) {k : Int} (hk : 0 ≤ k) : k ≤ (m : Int) ↔ ∃ e, shPairs T k e := by
  obtain ⟨⟨V, v1, v2, v3⟩, h⟩ := h
  constructor
  · intro hle
    refine ⟨_, V.take k.toNat, rfl, (List.take_sublist _ _).trans v1, apart_sub (List.take_sublist _ _) v2, ?_⟩
    rw [List.length_take]
    omega
  · rintro ⟨e, U, _, u1, u2, u3⟩
    have := h U u1 u2
    omega
theorem cnt_nb (T : List (Int × Int)) (x : Int) : (T.filter fun q => decide (x ∈ [q.1, q.2])).length = (nbL T x).length := by
  have h1 : (nbL T x).length = (nbU T x).length := (isort_perm leI (nbU T x)).length_eq
  rw [h1]
  clear h1
  unfold nbU
  induction T with
  | nil => rfl
  | cons q T ih =>
    rw [List.filter_cons, List.filterMap_cons]
    by_cases h1 : q.1 = x
    · have e : nbF x q = some q.2 := if_pos h1
      rw [e, if_pos (by rw [h1]; simp), List.length_cons, ih]
      rfl
    · by_cases h2 : q.2 = x
      · have e : nbF x q = some q.1 := (if_neg h1).trans (if_pos h2)
        rw [e, if_pos (by rw [h2]; simp), List.length_cons, ih]
        rfl
      · have e : nbF x q = none := (if_neg h1).trans (if_neg h2)
        rw [e, if_neg (by simp; omega), ih]
end LW
namespace LW
open PySem PySem.Spec L2 TL DL
open PyProof.Rows hiding pairD cutD
open Tk
/-- a set of people and one of them -/
def enD (e : RowL) : D := .tup [.tup (e.1.map D.int), .int e.2]
def kyG (e : RowL) : NestedKey := .tup [.tup (e.1.map .num), .num e.2]
def unK : NestedKey → RowL
  | .tup [.tup ks, .num x] => (ks.map fun k => match k with
    | .num i => i
    | _ => 0, x)
  | _ => ([], 0)
theorem un_ky (e : RowL) : unK (kyG e) = e := by
  unfold kyG unK
  dsimp only
  rw [List.map_map]
  have : (e.1.map ((fun k : NestedKey => match k with
    | .num i => i
    | _ => 0) ∘ NestedKey.num)) = e.1 := by
    conv => rhs; rw [← List.map_id e.1]
    exact List.map_congr_left fun _ _ => rfl
  rw [this]
theorem toNKs_en : ∀ es : List RowL, toNKs (es.map enD) = some (es.map kyG)
  | [] => rfl
  | e :: es => by
    have h1 : toNK (enD e) = some (kyG e) := by
      show (toNKs [.tup (e.1.map D.int), .int e.2]).map NestedKey.tup = _
      have : toNKs [.tup (e.1.map D.int), .int e.2] = ((toNKs (e.1.map D.int)).map NestedKey.tup).bind fun k => some [k, .num e.2] := rfl
      rw [this, toNKs_ints]
      rfl
    show (toNK (enD e)).bind _ = _
    rw [h1, Option.bind_some, toNKs_en es]
    rfl
theorem nkD_ky (e : RowL) : nkD (kyG e) = enD e := by
  show D.tup [.tup (nkDs (e.1.map .num)), .int e.2] = _
  rw [nkDs_ints]
  rfl
theorem okK_en (es : List RowL) : okK (es.map kyG) = true := by
  unfold okK
  rw [Bool.and_eq_true]
  constructor
  · rw [List.all_eq_true]
    intro p hp
    obtain ⟨e, _, rfl⟩ := List.mem_map.mp hp
    rw [List.all_eq_true]
    intro q hq
    obtain ⟨z, _, rfl⟩ := List.mem_map.mp hq
    show (PySem.W.alikeAll (NestedKey.datas (e.1.map .num)) (NestedKey.datas (z.1.map .num)) && (PySem.W.alike (.int e.2) (.int z.2) && true)) = true
    rw [alike_ints]
    rfl
  · rw [List.all_eq_true]
    intro p hp
    obtain ⟨e, _, rfl⟩ := List.mem_map.mp hp
    show decide (max (NestedKey.depthAll (e.1.map .num) + 1) (max 0 0) + 1 ≤ 8) = true
    rw [depth_nums]
    rfl
/-- sorted(set(..)) of such -/
theorem sortK_en {fe : FE} {env : DEnv} {S S1 : Sto} {d : D} {es : List RowL} (h : fe env S = some (d, S1)) (hd : lstOf S1 d = some (es.map enD)) (few : (ddk (es.map kyG)).length ≤ 62) : ∃ es' : List RowL, fSortK fe env S = some (.lst (es'.map enD), S1) ∧ (∀ e, e ∈ es' ↔ e ∈ es) ∧ es'.length ≤ 62 := by
  cases es with
  | nil =>
    refine ⟨[], ?_, fun e => Iff.rfl, by decide⟩
    unfold fSortK
    rw [h, Option.bind_some]
    show (lstOf S1 d).bind _ = _
    rw [hd]
    rfl
  | cons e0 es =>
    have back : ∀ k ∈ setK ((e0 :: es).map kyG), kyG (unK k) = k := fun k hk => by
      obtain ⟨e, _, rfl⟩ := List.mem_map.mp (mem_setK.mp hk)
      rw [un_ky]
    refine ⟨(setK ((e0 :: es).map kyG)).map unK, ?_, fun e => ?_, by rw [List.length_map]; unfold setK; rw [List.length_mergeSort]; exact few⟩
    · unfold fSortK
      rw [h, Option.bind_some]
      show (lstOf S1 d).bind _ = _
      rw [hd, Option.bind_some]
      show (toNKs ((e0 :: es).map enD)).bind _ = _
      rw [toNKs_en, Option.bind_some, if_pos ⟨okK_en _, few⟩, List.map_map]
      congr 3
      refine List.map_congr_left fun k hk => ?_
      show nkD k = enD (unK k)
      rw [← nkD_ky, back k hk]
    · rw [List.mem_map]
      constructor
      · rintro ⟨k, hk, rfl⟩
        obtain ⟨z, hz, rfl⟩ := List.mem_map.mp (mem_setK.mp hk)
        rw [un_ky]
        exact hz
      · intro he
        exact ⟨kyG e, mem_setK.mpr (List.mem_map.mpr ⟨e, he, rfl⟩), un_ky e⟩
def PLn (N m : Nat) : List RowL := (lotsL m (upto (N : Int))).flatMap fun s => s.map fun x => (s, x)
theorem pl_len {N m : Nat} (hN : N ≤ 6) : (PLn N m).length ≤ 62 := by
  by_cases hm : m ≤ 6
  · have h1 : N = 0 ∨ N = 1 ∨ N = 2 ∨ N = 3 ∨ N = 4 ∨ N = 5 ∨ N = 6 := by omega
    have h2 : m = 0 ∨ m = 1 ∨ m = 2 ∨ m = 3 ∨ m = 4 ∨ m = 5 ∨ m = 6 := by omega
    rcases h1 with rfl | rfl | rfl | rfl | rfl | rfl | rfl <;> rcases h2 with rfl | rfl | rfl | rfl | rfl | rfl | rfl <;> decide +kernel
  · have : lotsL m (upto (N : Int)) = [] := by
      rw [List.eq_nil_iff_forall_not_mem]
      intro l hl
      obtain ⟨h1, h2⟩ := lots_mem.mp hl
      have := h1.length_le
      have := upto_len (N := (N : Int)) (by omega)
      omega
    unfold PLn
    rw [this]
    decide
theorem asc_sub {N : Nat} {s : List Int} (ha : s.Pairwise (· < ·)) (hr : Inn N s) : s.Sublist (upto (N : Int)) := by
  have rr := upto_row (N : Int)
  have hul := upto_len (N := (N : Int)) (by omega)
  have hu : (upto (N : Int)).Pairwise (· < ·) := (asc_up (N := N) (List.Sublist.refl _)).1
  have nds : s.Nodup := ha.imp fun {a b} h => by omega
  have e : s = (upto (N : Int)).filter fun x => decide (x ∈ s) := by
    have pm : s.Perm ((upto (N : Int)).filter fun x => decide (x ∈ s)) := (List.perm_ext_iff_of_nodup nds (rr.nd.filter _)).mpr fun x => by
      rw [List.mem_filter, decide_eq_true_eq]
      exact ⟨fun h => ⟨row_all (by omega) rr.nd rr.rng hul (hr x h).1 (hr x h).2, h⟩, fun h => h.2⟩
    exact pm.eq_of_pairwise (le := fun a b => a < b) (fun a b _ _ g1 g2 => by omega) ha (hu.sublist List.filter_sublist)
  rw [e]
  exact List.filter_sublist
theorem few_en {N m : Nat} (hN : N ≤ 6) {es : List RowL} (h : ∀ e ∈ es, e.1.Pairwise (· < ·) ∧ Inn N e.1 ∧ e.1.length = m ∧ e.2 ∈ e.1) : (ddk (es.map kyG)).length ≤ 62 := by
  have h1 : ((ddk (es.map kyG)).map unK).Nodup := by
    refine List.pairwise_map.mpr ((List.Pairwise.and_mem.mp (nodup_ddk (es.map kyG))).imp fun {a b} hab e => hab.2.2 ?_)
    obtain ⟨x, _, rfl⟩ := List.mem_map.mp (mem_ddk.mp hab.1)
    obtain ⟨y, _, rfl⟩ := List.mem_map.mp (mem_ddk.mp hab.2.1)
    rw [un_ky, un_ky] at e
    rw [e]
  have hP : (PLn N m).Nodup ∨ True := Or.inr trivial
  have key : ∀ (l : List RowL) (P : List RowL), l.Nodup → (∀ x ∈ l, x ∈ P) → l.length ≤ P.length := by
    intro l
    induction l with
    | nil => intro P _ _; exact Nat.zero_le _
    | cons x l ih =>
      intro P hn hs
      obtain ⟨n1, n2⟩ := List.nodup_cons.mp hn
      have hx := hs x (List.mem_cons_self ..)
      have := ih (P.erase x) n2 fun y hy => (List.mem_erase_of_ne fun e => n1 (by rw [← e]; exact hy)).mpr (hs y (List.mem_cons_of_mem _ hy))
      rw [List.length_erase_of_mem hx] at this
      have := List.length_pos_of_mem hx
      rw [List.length_cons]
      omega
  have := key _ (PLn N m) h1 fun e he => by
    obtain ⟨k, hk, rfl⟩ := List.mem_map.mp he
    obtain ⟨z, hz, rfl⟩ := List.mem_map.mp (mem_ddk.mp hk)
    rw [un_ky]
    obtain ⟨q1, q2, q3, q4⟩ := h z hz
    exact List.mem_flatMap.mpr ⟨z.1, lots_mem.mpr ⟨asc_sub q1 q2, q3⟩, List.mem_map.mpr ⟨z.2, q4, rfl⟩⟩
  rw [List.length_map] at this
  have := pl_len (m := m) hN
  omega
end LW
namespace LW
open PySem PySem.Spec L2 TL DL
open PyProof.Rows hiding pairD cutD
open Tk
local macro_rules | `(tactic| push_cast [$xs,*] $[$l]?) => `(tactic| simp only [↓q_Chain3, ↓q_iEnum, ↓q_sForR, ↓q_iR3, ↓q_repT, ↓q_ListR1, ↓q_TupR1, ↓q_iSeq, ↓q_zipM, ↓wzip_m, ↓q_nil0, ↓q_tIf, ↓q_star, ↓q_zip, ↓wseq_t, ↓wseq_l, ↓wzip_t, ↓wzip_l, ↓q_pfl_nx, ↓q_pfl_rt, ↓q_pfl_bk, ↓q_pfl_ct, ↓q_run_rt, ↓q_run_nx, ↓q_bk_nx, ↓q_bk_ct, ↓q_bk_bk, ↓q_bk_rt, ↓q_R_some, ↓q_R_none, ↓q_R_cond, ↓q_var0, ↓q_varS, ↓q_C, ↓q_Bin, ↓q_neg, ↓q_nil, ↓q_cons, ↓q_tup, ↓q_lst, ↓q_lstM, ↓q_Call, ↓q_And, ↓q_Or, ↓q_Not, ↓q_Test, ↓q_tAnd, ↓q_tOr, ↓q_tNot, ↓q_If, ↓q_Chain, ↓q_Skip, ↓q_Break, ↓q_Cont, ↓q_Never, ↓q_fNever, ↓q_Seq, ↓q_Expr, ↓q_Ret, ↓q_sIf, ↓q_Asg, ↓q_N, ↓q_gNil, ↓q_gCons, ↓q_gTup, ↓q_gSub, ↓q_Par, ↓q_Run, ↓q_For, ↓q_iLst, ↓q_iTup, ↓q_iR1, ↓q_iR2, ↓q_add, ↓q_addL, ↓q_addS, ↓q_I0, ↓q_mul, ↓q_fdiv, ↓q_mod, ↓q_eqI, ↓q_eqS, ↓q_eqB, ↓q_neI, ↓q_neS, ↓q_neB, ↓q_isN, ↓q_notN, ↓q_isi, ↓q_abs, ↓q_max2, ↓q_min2, ↓q_maxT, ↓q_intI, ↓q_intB, ↓q_lenS, ↓q_lenT, ↓q_lenL, ↓q_lenC, ↓q_divmod, ↓q_listL, ↓q_listT, ↓q_tupL, ↓q_tupT, ↓q_KIn, ↓q_Fld, ↓q_Meth, ↓q_MakeF, ↓q_sFld, ↓q_KIx, ↓q_inT, ↓q_inL, ↓q_inS, ↓q_ixL, ↓q_ixT, ↓q_ixC, ↓q_Lc, ↓q_Yes, ↓q_Sl, ↓q_oNone, ↓q_oSome, ↓q_slC, ↓q_slL, ↓q_slS, ↓q_MethK, ↓q_CallK, ↓q_Repr, ↓q_DispF, ↓q_DIx, ↓q_rep, ↓q_Prop, ↓q_IsC, ↓q_DGet1, ↓q_DIn, ↓q_gUnl, ↓q_DictK, ↓q_repM, ↓q_aXi, ↓q_aXs, ↓q_aXt, ↓q_aXl, ↓q_aMl, ↓q_ltX, ↓q_leX, ↓q_leX2, ↓q_SlX, ↓q_sXc, ↓q_sXl, ↓q_sXt, ↓q_sXs, ↓q_RevT, ↓q_sxI, ↓q_sxS, ↓q_lxT, ↓q_lxL, ↓q_txL, ↓q_txT, ↓q_lmT, ↓q_lmL, ↓q_Par3, ↓q_Join, ↓wp_two, ↓wp_r1, ↓wp_r2, ↓wp_someB, ↓wp_strE, ↓wp_FldO, ↓wp_someL, ↓wp_last, ↓wp_someX, ↓wp_three, ↓q_p40, ↓qi_t, ↓qi_f, ↓wb_bl, ↓wi_int, ↓wstr_str, ↓wtup_tup, ↓wlst_lst, ↓wref_ref, isn_int, isn_non, isn_str, isn_tup, isn_lst, isn_ref, isn_bl, isi_str_str, isi_int_int, isi_int_bl, isi_bool_int, isi_bool_bl, isi_int_non, isi_int_str, isi_tuple_tup, str_eq, String.reduceEq, List.any_cons, List.any_nil, List.all_cons, List.all_nil, Bool.and_true, Bool.or_false, Bool.true_and, Bool.false_and, Bool.and_false, Bool.false_or, Bool.or_true, Bool.true_or, Bool.not_not, flat_str, flat_int, flat_non, eqF_str, List.map_cons, List.map_nil, List.length_cons, List.length_nil, List.length_map, List.cons_append, List.nil_append, List.append_nil, List.set_cons_zero, List.set_cons_succ, List.replicate_succ, List.replicate_zero, Nat.reduceSub, Nat.reduceAdd, Nat.reduceLeDiff, Nat.zero_add, Nat.sub_self, Bool.not_eq_true', Bool.not_true, Bool.not_false, if_true, if_false, reduceIte, Bool.false_eq_true, true_and, and_true, decide_true, decide_false, Bool.true_eq_false, eq_self, $xs,*] $[$l]?)
theorem at_end (S : Sto) (c : Cell) : (S ++ [c])[S.length]? = some c := by simp
theorem set_end (S : Sto) (c c' : Cell) : (S ++ [c]).set S.length c' = S ++ [c'] := by
  rw [List.set_append_right _ _ (Nat.le_refl _), Nat.sub_self]
  rfl
theorem nr_en : ∀ E : List RowL, noRefs (E.map enD) = true
  | [] => rfl
  | e :: E => by
    show ((noRefs (e.1.map D.int) && true) && noRefs (E.map enD)) = true
    rw [noRefs_ints, nr_en E]
    rfl
def CovE (N : Nat) (T : List (Int × Int)) (m : Nat) (E : List RowL) : Prop := (∀ e : RowL, e ∈ E ↔ ∃ r, Pth T (allP N) 0 r e.2 ∧ r.length = m ∧ e.1 = isort leI r) ∧ E.length ≤ 62
theorem is_more {r : List Int} {x : Int} (hr : r.Nodup) (hx : x ∉ r) : isort leI (isort leI r ++ [x]) = isort leI (r ++ [x]) := by
  have pm := isort_perm leI r
  have n1 : (r ++ [x]).Nodup := List.nodup_append.mpr ⟨hr, List.nodup_cons.mpr ⟨List.not_mem_nil, .nil⟩, fun a ha b hb e => hx (by rw [List.mem_singleton.mp hb] at e; exact e ▸ ha)⟩
  have p2 : (isort leI r ++ [x]).Perm (r ++ [x]) := pm.append_right [x]
  exact isort_ext (p2.nodup_iff.mpr n1) n1 fun y => p2.mem_iff
section
variable {N : Nat} {T : List (Int × Int)} (hN : N ≤ 6) (hT : Ties (N : Int) T)
include hN hT
/-- what stands in the list of later ones -/
def OkA (N : Nat) (T : List (Int × Int)) (m : Nat) (A : List RowL) : Prop := ∀ a ∈ A, ∃ r, Pth T (allP N) 0 r a.2 ∧ r.length = m ∧ a.1 = isort leI r
theorem rows_run {k : Int} (hk0 : 0 ≤ k) (hk : k ≤ 1000) : Qr go (d__law_rows_of w__law_tied [.int (N : Int), .tup (T.map pairD), .int k] []) fun _ d S' => ∃ E : List RowL, d = .lst (E.map enD) ∧ (1 ≤ k → CovE N T k.toNat E) := by
  have hs : ∀ p, allP N p → 0 ≤ p ∧ p < (N : Int) := fun p h => h
  unfold d__law_rows_of b__law_rows_of
  push_cast [range0, Int.toNat_natCast]
  refine ⟨ok_range (by omega) (by omega), by rw [List.length_range]; omega, ?_⟩
  refine q_lcM (fun (j : Nat) => D.int (j : Int)) (fun (j : Nat) => enD ([(j : Int)], (j : Int))) (fun j hj => ?_) ?_
  · push_cast [wipeD]
    rfl
  have e0 : (List.range N).map (fun (j : Nat) => enD ([(j : Int)], (j : Int))) = ((List.range N).map fun (j : Nat) => (([(j : Int)], (j : Int)) : RowL)).map enD := by
    rw [List.map_map]
    rfl
  rw [e0]
  push_cast []
  refine ⟨ok_range (by omega) (by omega), ?_⟩
  refine q_forE [3, 4, 5, 6, 7, 8] (fun t e S' => ∃ E : List RowL, e[3]? = some (some (.lst (E.map enD))) ∧ CovE N T (t + 1) E) ⟨_, rfl, fun e => ?_, by rw [List.length_map, List.length_range]; omega⟩ ?_ ?_
  · rw [List.mem_map]
    constructor
    · rintro ⟨j, hj, rfl⟩
      have := List.mem_range.mp hj
      exact ⟨[(j : Int)], .one _ ⟨by omega, by omega⟩, rfl, rfl⟩
    · rintro ⟨r, hP, hl, e1⟩
      cases hP with
      | one p hp =>
        obtain ⟨j, ej⟩ := Int.eq_ofNat_of_zero_le hp.1
        have hp2 := hp.2
        refine ⟨j, List.mem_range.mpr (by omega), ?_⟩
        have e1 : e.1 = [e.2] := e1
        exact Prod.ext (by rw [e1, ej]) ej.symm
      | snoc p hP =>
        have := hP.pos
        rw [List.length_append, List.length_singleton] at hl
        omega
  · rintro t d _ S1 hd ⟨a3, a4, a5, a6, a7, a8, rfl⟩ ⟨E, h3, hC⟩
    have h3 : a3 = some (.lst (E.map enD)) := Option.some.inj h3
    subst h3
    have hEl := hC.2
    push_cast []
    refine q_for [6, 7, 8] (fun i S2 => ∃ A : List RowL, S2 = S1 ++ [.lst (A.map enD)] ∧ A.length ≤ 10 * i ∧ OkA N T (t + 2) A ∧ ∀ j, j < i → ∀ e, E[j]? = some e → ∀ x : Int, x ∉ e.1 → tB T e.2 x = true → (isort leI (e.1 ++ [x]), x) ∈ A) ⟨[], rfl, Nat.zero_le _, fun a ha => (by cases ha), fun j hj => absurd hj (by omega)⟩ ?_ ?_
    · rintro i d _ S2 hi ⟨b6, b7, b8, rfl⟩ ⟨A, rfl, hAl, hA, hJ⟩
      rw [List.getElem?_map] at hi
      obtain ⟨e, he, rfl⟩ := Option.map_eq_some_iff.mp hi
      have hiE := (List.getElem?_eq_some_iff.mp he).1
      obtain ⟨r, hP, hrl, er⟩ := (hC.1 e).mp (List.mem_of_getElem? he)
      have hrn := hP.len hT hs
      have hel : e.1.length ≤ 6 := by
        rw [er, (isort_perm leI r).length_eq]
        omega
      push_cast [enD]
      refine ⟨ok_range (by omega) (by omega), ?_⟩
      refine q_for [8] (fun x S3 => ∃ B : List RowL, S3 = S1 ++ [.lst (B.map enD)] ∧ B.length ≤ 10 * i + x ∧ OkA N T (t + 2) B ∧ (∀ a ∈ A, a ∈ B) ∧ ∀ y : Int, 0 ≤ y → y < (x : Int) → y ∉ e.1 → tB T e.2 y = true → (isort leI (e.1 ++ [y]), y) ∈ B) ⟨A, rfl, hAl, hA, fun a h => h, fun y h0 h1 => absurd h1 (by omega)⟩ ?_ ?_
      · rintro x d _ S3 hx ⟨c8, rfl⟩ ⟨B, rfl, hBl, hB, hAB, hK⟩
        obtain ⟨hxN, rfl⟩ := range_get hx
        have next : ∀ B' : List RowL, (∀ b ∈ B, b ∈ B') → ((x : Int) ∉ e.1 → tB T e.2 (x : Int) = true → (isort leI (e.1 ++ [(x : Int)]), (x : Int)) ∈ B') → ∀ y : Int, 0 ≤ y → y < ((x + 1 : Nat) : Int) → y ∉ e.1 → tB T e.2 y = true → (isort leI (e.1 ++ [y]), y) ∈ B' := by
          intro B' g1 g2 y h0 h1
          by_cases ey : y = (x : Int)
          · subst ey
            exact g2
          · exact fun q1 q2 => g1 _ (hK y h0 (by omega) q1 q2)
        push_cast [in_intsT]
        refine qi_ndec (fun hnot => ?_) fun hin => ?_
        · push_cast [tiedG_eq]
          cases ht : tB T e.2 (x : Int) with
          | true =>
            have hsn := sortedT_ints (e.1 ++ [(x : Int)]) (S1 ++ [.lst (B.map enD)]) (by rw [List.length_append, List.length_singleton]; omega)
            have exs : (List.map D.int e.1 ++ [D.int (x : Int)]) = (e.1 ++ [(x : Int)]).map D.int := by simp
            push_cast []
            refine appQ rfl (at_end S1 _) ?_
            push_cast []
            refine ⟨by omega, ?_⟩
            rw [exs, hsn]
            push_cast []
            refine ⟨_, at_end S1 _, by rw [List.length_map]; omega, ?_⟩
            rw [set_end]
            have hxr : (x : Int) ∉ r := fun h => hnot (by rw [er]; exact (isort_perm leI r).mem_iff.mpr h)
            refine ⟨⟨_, rfl⟩, B ++ [(isort leI (e.1 ++ [(x : Int)]), (x : Int))], by rw [List.map_append]; rfl, by rw [List.length_append, List.length_singleton]; omega, fun a ha => ?_, fun a ha => List.mem_append_left _ (hAB a ha), next _ (fun b hb => List.mem_append_left _ hb) fun _ _ => by simp⟩
            rcases List.mem_append.mp ha with ha | ha
            · exact hB a ha
            · rw [List.mem_singleton.mp ha]
              refine ⟨r ++ [(x : Int)], .snoc _ hP ht (by omega) hxr, by rw [List.length_append, hrl]; rfl, ?_⟩
              show isort leI (e.1 ++ [(x : Int)]) = _
              rw [er]
              exact is_more hP.nd hxr
          | false =>
            push_cast []
            exact ⟨⟨_, rfl⟩, B, rfl, by omega, hB, hAB, next B (fun b hb => hb) fun _ q => by rw [ht] at q; cases q⟩
        · push_cast []
          exact ⟨⟨_, rfl⟩, B, rfl, by omega, hB, hAB, next B (fun b hb => hb) fun q _ => absurd hin q⟩
      · rintro _ S3 ⟨c8, rfl⟩ ⟨B, rfl, hBl, hB, hAB, hK⟩
        rw [len_range, Int.sub_zero, Int.toNat_natCast] at hK hBl
        push_cast []
        refine ⟨⟨_, _, _, rfl⟩, B, rfl, by omega, hB, fun j hj e' he' x h1 h2 => ?_⟩
        by_cases ej : j = i
        · subst ej
          rw [he] at he'
          cases he'
          have := (tB_rng hT h2).2
          exact hK x this.1 this.2 h1 h2
        · exact hAB _ (hJ j (by omega) e' he' x h1 h2)
    · rintro _ S2 ⟨b6, b7, b8, rfl⟩ ⟨A, rfl, hAl, hA, hJ⟩
      have few := few_en (N := N) (m := t + 2) hN (es := A) fun a ha => by
        obtain ⟨r, hP, hl, ea⟩ := hA a ha
        refine ⟨by rw [ea]; exact isort_asc hP.nd, fun y hy => hP.rng hT hs y ((isort_perm leI r).mem_iff.mp (by rw [← ea]; exact hy)), by rw [ea, (isort_perm leI r).length_eq, hl], by rw [ea]; exact (isort_perm leI r).mem_iff.mpr hP.mem⟩
      obtain ⟨E', e1, e2, e3⟩ := sortK_en (fe := fVar 5) (env := [some (.int (N : Int)), some (.tup (T.map pairD)), some (.int k), some (.lst (E.map enD)), some d, some (.ref S1.length), b6, b7, b8]) (S := S1 ++ [.lst (A.map enD)]) (S1 := S1 ++ [.lst (A.map enD)]) (d := .ref S1.length) (es := A) rfl (by
        show (match (S1 ++ [.lst (A.map enD)])[S1.length]? with | some (.lst ds) => some ds | _ => none) = _
        rw [at_end]) few
      push_cast []
      rw [e1]
      push_cast []
      refine ⟨⟨_, _, _, _, _, _, rfl⟩, E', rfl, fun e => ?_, e3⟩
      rw [e2]
      constructor
      · exact hA e
      · rintro ⟨r, hP, hl, ee⟩
        cases hP with
        | one p hp => simp at hl
        | @snoc r q p hP ht _ hp =>
          have hm := (hC.1 (isort leI r, q)).mpr ⟨r, hP, by rw [List.length_append, List.length_singleton] at hl; omega, rfl⟩
          obtain ⟨j, hj⟩ := List.getElem?_of_mem hm
          have := hJ j (by have := (List.getElem?_eq_some_iff.mp hj).1; simpa using this) _ hj e.2 (fun h => hp ((isort_perm leI r).mem_iff.mp h)) ht
          have ef : e = (isort leI (isort leI r ++ [e.2]), e.2) := Prod.ext (by rw [ee]; exact (is_more hP.nd hp).symm) rfl
          rw [ef]
          exact this
  · rintro _ S1 ⟨a3, a4, a5, a6, a7, a8, rfl⟩ ⟨E, h3, hC⟩
    have h3 : a3 = some (.lst (E.map enD)) := Option.some.inj h3
    subst h3
    rw [len_range, Int.sub_zero] at hC
    push_cast []
    refine ⟨E, rfl, fun h1 => ?_⟩
    have : (k - 1).toNat + 1 = k.toNat := by omega
    rw [this] at hC
    exact hC
end
end LW
namespace LW
open PySem PySem.Spec L2 TL DL
open PyProof.Rows hiding pairD cutD
open Tk
local macro_rules | `(tactic| push_cast [$xs,*] $[$l]?) => `(tactic| simp only [↓q_Chain3, ↓q_iEnum, ↓q_sForR, ↓q_iR3, ↓q_repT, ↓q_ListR1, ↓q_TupR1, ↓q_iSeq, ↓q_zipM, ↓wzip_m, ↓q_nil0, ↓q_tIf, ↓q_star, ↓q_zip, ↓wseq_t, ↓wseq_l, ↓wzip_t, ↓wzip_l, ↓q_pfl_nx, ↓q_pfl_rt, ↓q_pfl_bk, ↓q_pfl_ct, ↓q_run_rt, ↓q_run_nx, ↓q_bk_nx, ↓q_bk_ct, ↓q_bk_bk, ↓q_bk_rt, ↓q_R_some, ↓q_R_none, ↓q_R_cond, ↓q_var0, ↓q_varS, ↓q_C, ↓q_Bin, ↓q_neg, ↓q_nil, ↓q_cons, ↓q_tup, ↓q_lst, ↓q_lstM, ↓q_Call, ↓q_And, ↓q_Or, ↓q_Not, ↓q_Test, ↓q_tAnd, ↓q_tOr, ↓q_tNot, ↓q_If, ↓q_Chain, ↓q_Skip, ↓q_Break, ↓q_Cont, ↓q_Never, ↓q_fNever, ↓q_Seq, ↓q_Expr, ↓q_Ret, ↓q_sIf, ↓q_Asg, ↓q_N, ↓q_gNil, ↓q_gCons, ↓q_gTup, ↓q_gSub, ↓q_Par, ↓q_Run, ↓q_For, ↓q_iLst, ↓q_iTup, ↓q_iR1, ↓q_iR2, ↓q_add, ↓q_addL, ↓q_addS, ↓q_I0, ↓q_mul, ↓q_fdiv, ↓q_mod, ↓q_eqI, ↓q_eqS, ↓q_eqB, ↓q_neI, ↓q_neS, ↓q_neB, ↓q_isN, ↓q_notN, ↓q_isi, ↓q_abs, ↓q_max2, ↓q_min2, ↓q_maxT, ↓q_intI, ↓q_intB, ↓q_lenS, ↓q_lenT, ↓q_lenL, ↓q_lenC, ↓q_divmod, ↓q_listL, ↓q_listT, ↓q_tupL, ↓q_tupT, ↓q_KIn, ↓q_Fld, ↓q_Meth, ↓q_MakeF, ↓q_sFld, ↓q_KIx, ↓q_inT, ↓q_inL, ↓q_inS, ↓q_ixL, ↓q_ixT, ↓q_ixC, ↓q_Lc, ↓q_Yes, ↓q_Sl, ↓q_oNone, ↓q_oSome, ↓q_slC, ↓q_slL, ↓q_slS, ↓q_MethK, ↓q_CallK, ↓q_Repr, ↓q_DispF, ↓q_DIx, ↓q_rep, ↓q_Prop, ↓q_IsC, ↓q_DGet1, ↓q_DIn, ↓q_gUnl, ↓q_DictK, ↓q_repM, ↓q_aXi, ↓q_aXs, ↓q_aXt, ↓q_aXl, ↓q_aMl, ↓q_ltX, ↓q_leX, ↓q_leX2, ↓q_SlX, ↓q_sXc, ↓q_sXl, ↓q_sXt, ↓q_sXs, ↓q_RevT, ↓q_sxI, ↓q_sxS, ↓q_lxT, ↓q_lxL, ↓q_txL, ↓q_txT, ↓q_lmT, ↓q_lmL, ↓q_Par3, ↓q_Join, ↓wp_two, ↓wp_r1, ↓wp_r2, ↓wp_someB, ↓wp_strE, ↓wp_FldO, ↓wp_someL, ↓wp_last, ↓wp_someX, ↓wp_three, ↓q_p40, ↓qi_t, ↓qi_f, ↓wb_bl, ↓wi_int, ↓wstr_str, ↓wtup_tup, ↓wlst_lst, ↓wref_ref, isn_int, isn_non, isn_str, isn_tup, isn_lst, isn_ref, isn_bl, isi_str_str, isi_int_int, isi_int_bl, isi_bool_int, isi_bool_bl, isi_int_non, isi_int_str, isi_tuple_tup, str_eq, String.reduceEq, List.any_cons, List.any_nil, List.all_cons, List.all_nil, Bool.and_true, Bool.or_false, Bool.true_and, Bool.false_and, Bool.and_false, Bool.false_or, Bool.or_true, Bool.true_or, Bool.not_not, flat_str, flat_int, flat_non, eqF_str, List.map_cons, List.map_nil, List.length_cons, List.length_nil, List.length_map, List.cons_append, List.nil_append, List.append_nil, List.set_cons_zero, List.set_cons_succ, List.replicate_succ, List.replicate_zero, Nat.reduceSub, Nat.reduceAdd, Nat.reduceLeDiff, Nat.zero_add, Nat.sub_self, Bool.not_eq_true', Bool.not_true, Bool.not_false, if_true, if_false, reduceIte, Bool.false_eq_true, true_and, and_true, decide_true, decide_false, Bool.true_eq_false, eq_self, $xs,*] $[$l]?)
def enP (e : RowL) : PyData := .tuple [.tuple (e.1.map PyData.int), .int e.2]
theorem toPs_en : ∀ es : List RowL, toPs (es.map enD) = some (es.map enP)
  | [] => rfl
  | e :: es => by
    have h1 : toP (enD e) = some (enP e) := by
      show (toPs [.tup (e.1.map D.int), .int e.2]).map PyData.tuple = _
      have : toPs [.tup (e.1.map D.int), .int e.2] = ((toPs (e.1.map D.int)).map PyData.tuple).bind fun k => some [k, .int e.2] := rfl
      rw [this, toPs_ints]
      rfl
    show (toP (enD e)).bind _ = _
    rw [h1, Option.bind_some, toPs_en es]
    rfl
theorem lay_en : ∀ es : List RowL, PyData.canLayAll0 (es.map enP) = true
  | [] => rfl
  | e :: es => by
    show ((PyData.canLayAll0 (e.1.map PyData.int) && (true && true)) && PyData.canLayAll0 (es.map enP)) = true
    rw [lay_ints, lay_en es]
    rfl
theorem dep_en : ∀ es : List RowL, PyData.depthAll (es.map enP) ≤ 2
  | [] => Nat.zero_le _
  | e :: es => by
    show max (max (PyData.depthAll (e.1.map PyData.int) + 1) (max 0 0) + 1) (PyData.depthAll (es.map enP)) ≤ 2
    rw [depth_ints]
    exact Nat.max_le.mpr ⟨by decide, dep_en es⟩
theorem sh_en (es : List RowL) : SeqAt.shaped (.list (es.map enP)) = true := by
  unfold SeqAt.shaped
  rw [show PyData.canLay0 (.list (es.map enP)) = PyData.canLayAll0 (es.map enP) from rfl, lay_en]
  have := dep_en es
  have e : PyData.depth (.list (es.map enP)) = PyData.depthAll (es.map enP) + 1 := rfl
  simp only [e, Bool.true_and, decide_eq_true_eq]
  omega
theorem ne_nilE (l : List RowL) (S : Sto) : gNe (.lst (l.map enD)) (.lst []) S = some (.bl (!decide (l = [])), S) :=
  ne_nilL enD (fun x => by
    have := toPs_en [x]
    cases h : toP (enD x) with
    | none =>
      have h2 : (toP (enD x)).bind (fun p => (toPs []).map fun ps => p :: ps) = some [enP x] := this
      rw [h] at h2
      cases h2
    | some p => exact ⟨p, rfl⟩) l S fun l => ⟨l.map enP, toPs_en l, List.length_map .., sh_en l⟩
theorem ix_en (e : RowL) (S : Sto) : gIx (enD e) (.int 1) S = some (.int e.2, S) := rfl
def CovR (T : List (Int × Int)) (f : Int) (m : Nat) (R : List RowL) : Prop := (∀ e : RowL, e ∈ R ↔ Pth T (onlyP f) f e.1 e.2 ∧ e.1.length = m) ∧ R.length ≤ 10 ^ (m - 1)
/-- the numbers of people of rings that begin below some -/
def RgC2 (T : List (Int × Int)) (f : Int) (c : Int) : Prop := ∃ r p, Pth T (onlyP f) f r p ∧ (r.length : Int) = c ∧ 3 ≤ c ∧ tB T p f = true
section
variable {N : Nat} {T : List (Int × Int)} (hN : N ≤ 6) (hT : Ties (N : Int) T)
include hN hT
theorem rings_run : Qr go (d__law_rings w__law_tied [.int (N : Int), .tup (T.map pairD)] []) fun _ d S' => ∃ Z : List Int, d = .lst (Z.map D.int) ∧ Z.length ≤ 64 ∧ ∀ c : Int, c ∈ Z ↔ ∃ f : Int, (0 ≤ f ∧ f < N) ∧ RgC2 T f c := by
  unfold d__law_rings b__law_rings
  push_cast []
  refine ⟨ok_range (by omega) (by omega), ?_⟩
  refine q_for [3, 4, 5, 6, 7, 8, 9, 10, 11, 12] (fun i S' => ∃ C : List Int, S' = [.lst (C.map D.int)] ∧ C.length ≤ 6 * i ∧ ∀ c : Int, c ∈ C ↔ ∃ f : Int, (0 ≤ f ∧ f < (i : Int)) ∧ RgC2 T f c) ⟨[], rfl, Nat.zero_le _, fun c => ⟨fun h => (by cases h), fun ⟨f, h, _⟩ => by omega⟩⟩ ?_ ?_
  · rintro i d _ S1 hd ⟨a3, a4, a5, a6, a7, a8, a9, a10, a11, a12, rfl⟩ ⟨C, rfl, hCl, hC⟩
    obtain ⟨hiN, rfl⟩ := range_get hd
    have hs : ∀ p, onlyP (i : Int) p → 0 ≤ p ∧ p < (N : Int) := fun p h => by
      have h : p = (i : Int) := h
      omega
    push_cast []
    refine ⟨⟨by decide, ok_range (by omega) (by omega)⟩, ?_⟩
    refine q_forE [4, 5, 6, 7, 8, 9, 10, 11, 12] (fun t e S' => ∃ (C' : List Int) (R : List RowL), S' = [.lst (C'.map D.int)] ∧ C'.length ≤ 6 * i + t ∧ e[4]? = some (some (.lst (R.map enD))) ∧ CovR T (i : Int) (t + 1) R ∧ ∀ c : Int, c ∈ C' ↔ (c ∈ C ∨ (c ≤ (t : Int) + 1 ∧ RgC2 T (i : Int) c)))
      ⟨C, [([(i : Int)], (i : Int))], rfl, by omega, rfl, ⟨fun e => ?_, by simp⟩, fun c => ⟨fun h => Or.inl h, fun h => h.elim id fun h => ?_⟩⟩ ?_ ?_
    · rw [List.mem_singleton]
      constructor
      · rintro rfl
        exact ⟨.one _ rfl, rfl⟩
      · rintro ⟨hP, hl⟩
        have key : ∀ r p, Pth T (onlyP (i : Int)) (i : Int) r p → r.length = 0 + 1 → r = [(i : Int)] ∧ p = (i : Int) := fun r p hP hl => by
          cases hP with
          | one p hp =>
            have hp : p = (i : Int) := hp
            rw [hp]
            exact ⟨rfl, rfl⟩
          | snoc p hP =>
            have := hP.pos
            rw [List.length_append, List.length_singleton] at hl
            omega
        obtain ⟨k1, k2⟩ := key _ _ hP hl
        exact Prod.ext k1 k2
    · obtain ⟨h1, r, p, _, h2, h3, _⟩ := h
      omega
    · rintro t d _ S2 hd2 ⟨b4, b5, b6, b7, b8, b9, b10, b11, b12, rfl⟩ ⟨C', R, rfl, hCl', h4, hR, hC'⟩
      have h4 : b4 = some (.lst (R.map enD)) := Option.some.inj h4
      subst h4
      have htN : t < N - 1 := by
        have := (List.getElem?_eq_some_iff.mp hd2).1
        rw [len_range] at this
        omega
      have hd3 : d = .int ((t : Int) + 2) := by
        unfold rangeD at hd2
        have hlt : t < ((N : Int) + 1 - 2).toNat := by omega
        rw [List.getElem?_map, List.getElem?_range hlt] at hd2
        have := (Option.some.inj hd2).symm
        rw [this]
        show D.int (2 + (t : Int)) = D.int ((t : Int) + 2)
        rw [Int.add_comm]
      subst hd3
      have hRl : R.length ≤ 10 ^ t := hR.2
      have p4 : (10 : Nat) ^ t ≤ 10 ^ 4 := Nat.pow_le_pow_right (by decide) (by omega)
      push_cast []
      refine q_forE [6, 7, 8, 9, 12] (fun u e S' => S' = [.lst (C'.map D.int)] ∧ ∃ A : List RowL, e[6]? = some (some (.lst (A.map enD))) ∧ A.length ≤ 10 * u ∧ (∀ a ∈ A, Pth T (onlyP (i : Int)) (i : Int) a.1 a.2 ∧ a.1.length = t + 2) ∧ ∀ j, j < u → ∀ e, R[j]? = some e → ∀ x : Int, (i : Int) ≤ x → x ∉ e.1 → tB T e.2 x = true → (e.1 ++ [x], x) ∈ A)
        ⟨rfl, [], rfl, Nat.zero_le _, fun a ha => (by cases ha), fun j hj => absurd hj (by omega)⟩ ?_ ?_
      · rintro u d _ S3 hu ⟨c6, c7, c8, c9, c12, rfl⟩ ⟨rfl, A, h6, hAl, hA, hJ⟩
        have h6 : c6 = some (.lst (A.map enD)) := Option.some.inj h6
        subst h6
        rw [List.getElem?_map] at hu
        obtain ⟨e, he, rfl⟩ := Option.map_eq_some_iff.mp hu
        have huR := (List.getElem?_eq_some_iff.mp he).1
        obtain ⟨hP, hl⟩ := (hR.1 e).mp (List.mem_of_getElem? he)
        have hupl : (upF ((i : Int) + 1) (N : Int)).length ≤ 6 := by
          unfold upF
          rw [List.length_map, List.length_range]
          omega
        have hi_in : (i : Int) ∈ e.1 := by
          have : ∀ r p, Pth T (onlyP (i : Int)) (i : Int) r p → (i : Int) ∈ r := fun r p h => by
            induction h with
            | one p h =>
              have h : p = (i : Int) := h
              rw [h]
              simp
            | snoc p _ _ _ _ ih => exact List.mem_append_left _ ih
          exact this _ _ hP
        push_cast [enD, range_upF]
        refine ⟨⟨ok_range (by omega) (by omega), ok_range (by omega) (by omega)⟩, by omega, ?_⟩
        refine q_lcQ D.int D.int (fun x => !decide (x ∈ e.1)) (fun x hx => ?_) ?_
        · push_cast [wipeD, in_intsT]
          exact fun _ => trivial
        have hfl := List.length_filter_le (fun x => !decide (x ∈ e.1)) (upF ((i : Int) + 1) (N : Int))
        push_cast []
        refine ⟨by omega, ?_⟩
        refine q_lcQ D.int (fun x => enD (e.1 ++ [x], x)) (tB T e.2) (fun x hx => ?_) ?_
        · have hle : e.1.length ≤ 10 := by have := hP.len hT hs; omega
          push_cast [wipeD, tiedG_eq]
          refine fun _ => ⟨by omega, ?_⟩
          unfold enD
          rw [List.map_append]
          rfl
        have hfl2 := List.length_filter_le (tB T e.2) ((upF ((i : Int) + 1) (N : Int)).filter fun x => !decide (x ∈ e.1))
        push_cast []
        refine ⟨by omega, ⟨_, _, _, _, _, rfl⟩, A ++ ((((upF ((i : Int) + 1) (N : Int)).filter fun x => !decide (x ∈ e.1)).filter (tB T e.2)).map fun x => (e.1 ++ [x], x)), by rw [List.map_append, List.map_map]; rfl, by rw [List.length_append, List.length_map]; omega, fun a ha => ?_, fun j hj e' he' x h1 h2 h3 => ?_⟩
        · rcases List.mem_append.mp ha with ha | ha
          · exact hA a ha
          · obtain ⟨x, hx, rfl⟩ := List.mem_map.mp ha
            obtain ⟨hx1, hx2⟩ := List.mem_filter.mp hx
            obtain ⟨hx3, hx4⟩ := List.mem_filter.mp hx1
            have hx5 := upF_mem.mp hx3
            refine ⟨.snoc x hP hx2 (by omega) (by simpa using hx4), by rw [List.length_append, hl]; rfl⟩
        · by_cases ej : j = u
          · subst ej
            rw [he] at he'
            cases he'
            refine List.mem_append_right _ (List.mem_map.mpr ⟨x, List.mem_filter.mpr ⟨List.mem_filter.mpr ⟨upF_mem.mpr ⟨?_, (tB_rng hT h3).2.2⟩, by simpa using h2⟩, h3⟩, rfl⟩)
            have : x ≠ (i : Int) := fun q => h2 (q ▸ hi_in)
            omega
          · exact List.mem_append_left _ (hJ j (by omega) e' he' x h1 h2 h3)
      · rintro _ S3 ⟨c6, c7, c8, c9, c12, rfl⟩ ⟨rfl, A, h6, hAl, hA, hJ⟩
        have h6 : c6 = some (.lst (A.map enD)) := Option.some.inj h6
        subst h6
        rw [List.length_map] at hAl hJ
        have hA2 : CovR T (i : Int) (t + 2) A := by
          refine ⟨fun a => ⟨hA a, fun ⟨hP, hl⟩ => ?_⟩, ?_⟩
          · have key : ∀ r p, Pth T (onlyP (i : Int)) (i : Int) r p → r.length = t + 2 → (r, p) ∈ A := fun r p hP hl => by
              cases hP with
              | one p hp => simp at hl
              | @snoc r q p hP ht hlo hp =>
                have hm := (hR.1 (r, q)).mpr ⟨hP, by
                  show r.length = t + 1
                  rw [List.length_append, List.length_singleton] at hl
                  omega⟩
                obtain ⟨j, hj⟩ := List.getElem?_of_mem hm
                exact hJ j (List.getElem?_eq_some_iff.mp hj).1 _ hj p hlo hp ht
            exact key a.1 a.2 hP hl
          · show A.length ≤ 10 ^ (t + 1)
            rw [Nat.pow_succ]
            omega
        have hAl2 : A.length ≤ 10 * 10 ^ 4 := by omega
        push_cast []
        refine ⟨by omega, ?_⟩
        refine q_lcQ enD enD (fun e => tB T e.2 (i : Int)) (fun e he => ?_) ?_
        · push_cast [wipeD, ix_en, tiedG_eq]
          exact fun _ => trivial
        have nxt : ∀ c : Int, ((c ∈ C ∨ (c ≤ (t : Int) + 1 ∧ RgC2 T (i : Int) c)) ∨ (c = (t : Int) + 2 ∧ RgC2 T (i : Int) c)) ↔ (c ∈ C ∨ (c ≤ ((t + 1 : Nat) : Int) + 1 ∧ RgC2 T (i : Int) c)) := fun c => by
          constructor
          · rintro ((h | h) | h)
            · exact Or.inl h
            · exact Or.inr ⟨by omega, h.2⟩
            · exact Or.inr ⟨by omega, h.2⟩
          · rintro (h | ⟨h1, h2⟩)
            · exact Or.inl (Or.inl h)
            · by_cases e : c = (t : Int) + 2
              · exact Or.inr ⟨e, h2⟩
              · exact Or.inl (Or.inr ⟨by omega, h2⟩)
        have clo : (A.filter fun e => tB T e.2 (i : Int)) ≠ [] ↔ ∃ r p, Pth T (onlyP (i : Int)) (i : Int) r p ∧ r.length = t + 2 ∧ tB T p (i : Int) = true := by
          constructor
          · intro h
            obtain ⟨e, he⟩ := List.exists_mem_of_ne_nil _ h
            obtain ⟨he1, he2⟩ := List.mem_filter.mp he
            obtain ⟨q1, q2⟩ := (hA2.1 e).mp he1
            exact ⟨e.1, e.2, q1, q2, he2⟩
          · rintro ⟨r, p, q1, q2, q3⟩ h
            have := List.filter_eq_nil_iff.mp h (r, p) ((hA2.1 (r, p)).mpr ⟨q1, q2⟩)
            exact this q3
        have rgt : RgC2 T (i : Int) ((t : Int) + 2) ↔ (2 < (t : Int) + 2 ∧ (A.filter fun e => tB T e.2 (i : Int)) ≠ []) := by
          rw [clo]
          constructor
          · rintro ⟨r, p, q1, q2, q3, q4⟩
            exact ⟨by omega, r, p, q1, by omega, q4⟩
          · rintro ⟨h1, r, p, q1, q2, q4⟩
            exact ⟨r, p, q1, by omega, by omega, q4⟩
        have stay : ¬ RgC2 T (i : Int) ((t : Int) + 2) → ∀ c : Int, c ∈ C' ↔ (c ∈ C ∨ (c ≤ ((t + 1 : Nat) : Int) + 1 ∧ RgC2 T (i : Int) c)) := fun hno c => by
          rw [← nxt c, hC' c]
          exact ⟨Or.inl, fun h => h.elim id fun h => absurd (h.1 ▸ h.2) hno⟩
        push_cast [ne_nilE]
        refine qi_dec (fun h2 => ?_) fun h2 => ?_
        · push_cast [ne_nilE]
          refine qi_ndec (fun hne => ?_) fun hne => ?_
          · push_cast []
            refine appQ rfl rfl ?_
            push_cast []
            have hcl2 : (C'.map D.int).length ≤ 1000000 := by
              clear clo rgt stay nxt
              rw [List.length_map]
              omega
            refine ⟨C'.map D.int, rfl, hcl2, ?_⟩
            refine ⟨⟨_, _, _, _, _, _, _, _, _, rfl⟩, C' ++ [(t : Int) + 2], A, by rw [List.map_append]; rfl, by rw [List.length_append, List.length_singleton]; omega, rfl, hA2, fun c => ?_⟩
            rw [← nxt c, List.mem_append, List.mem_singleton, hC' c]
            refine or_congr Iff.rfl ⟨fun q => ⟨q, by rw [q]; exact rgt.mpr ⟨h2, hne⟩⟩, fun q => q.1⟩
          · push_cast []
            exact ⟨⟨_, _, _, _, _, _, _, _, _, rfl⟩, C', A, rfl, by omega, rfl, hA2, stay fun q => (rgt.mp q).2 hne⟩
        · push_cast []
          exact ⟨⟨_, _, _, _, _, _, _, _, _, rfl⟩, C', A, rfl, by omega, rfl, hA2, stay fun q => h2 (by have := (rgt.mp q).1; omega)⟩
    · rintro _ S2 ⟨b4, b5, b6, b7, b8, b9, b10, b11, b12, rfl⟩ ⟨C', R, rfl, hCl', h4, hR, hC'⟩
      rw [len_range] at hCl' hC'
      push_cast []
      refine ⟨⟨_, _, _, _, _, _, _, _, _, _, rfl⟩, C', rfl, by omega, fun c => ?_⟩
      rw [hC' c, hC c]
      constructor
      · rintro (⟨f, h1, h2⟩ | ⟨h1, h2⟩)
        · exact ⟨f, by omega, h2⟩
        · exact ⟨(i : Int), by omega, h2⟩
      · rintro ⟨f, h1, h2⟩
        by_cases e : f = (i : Int)
        · subst e
          refine Or.inr ⟨?_, h2⟩
          obtain ⟨r, p, hP, hl, _⟩ := h2
          have := hP.len hT hs
          omega
        · exact Or.inl ⟨f, by omega, h2⟩
  · rintro _ S1 ⟨a3, a4, a5, a6, a7, a8, a9, a10, a11, a12, rfl⟩ ⟨C, rfl, hCl, hC⟩
    rw [len_range, Int.sub_zero, Int.toNat_natCast] at hCl hC
    have es : ∀ env : DEnv, fVar 2 env [.lst (C.map D.int)] = some (.ref 0, [.lst (C.map D.int)]) → fSortK (fVar 2) env [.lst (C.map D.int)] = some (.lst ((isort leI (ddi C)).map .int), [.lst (C.map D.int)]) := fun env h => by
      unfold fSortK
      rw [h, Option.bind_some]
      show (some (C.map D.int)).bind _ = _
      rw [Option.bind_some]
      dsimp only
      rw [asInts_of]
      exact if_pos (by omega)
    push_cast []
    rw [es _ rfl]
    push_cast []
    refine ⟨isort leI (ddi C), rfl, ?_, fun c => ?_⟩
    · rw [(isort_perm leI (ddi C)).length_eq]
      have : (ddi C).length ≤ C.length := nodup_le (nodup_ddi C) fun x hx => mem_ddi.mp hx
      omega
    · rw [(isort_perm leI (ddi C)).mem_iff, mem_ddi, hC c]
end
end LW
namespace LW
open PySem PySem.Spec L2 TL DL
open PyProof.Rows hiding pairD cutD
open Tk
local macro_rules | `(tactic| push_cast [$xs,*] $[$l]?) => `(tactic| simp only [↓q_Chain3, ↓q_iEnum, ↓q_sForR, ↓q_iR3, ↓q_repT, ↓q_ListR1, ↓q_TupR1, ↓q_iSeq, ↓q_zipM, ↓wzip_m, ↓q_nil0, ↓q_tIf, ↓q_star, ↓q_zip, ↓wseq_t, ↓wseq_l, ↓wzip_t, ↓wzip_l, ↓q_pfl_nx, ↓q_pfl_rt, ↓q_pfl_bk, ↓q_pfl_ct, ↓q_run_rt, ↓q_run_nx, ↓q_bk_nx, ↓q_bk_ct, ↓q_bk_bk, ↓q_bk_rt, ↓q_R_some, ↓q_R_none, ↓q_R_cond, ↓q_var0, ↓q_varS, ↓q_C, ↓q_Bin, ↓q_neg, ↓q_nil, ↓q_cons, ↓q_tup, ↓q_lst, ↓q_lstM, ↓q_Call, ↓q_And, ↓q_Or, ↓q_Not, ↓q_Test, ↓q_tAnd, ↓q_tOr, ↓q_tNot, ↓q_If, ↓q_Chain, ↓q_Skip, ↓q_Break, ↓q_Cont, ↓q_Never, ↓q_fNever, ↓q_Seq, ↓q_Expr, ↓q_Ret, ↓q_sIf, ↓q_Asg, ↓q_N, ↓q_gNil, ↓q_gCons, ↓q_gTup, ↓q_gSub, ↓q_Par, ↓q_Run, ↓q_For, ↓q_iLst, ↓q_iTup, ↓q_iR1, ↓q_iR2, ↓q_add, ↓q_addL, ↓q_addS, ↓q_I0, ↓q_mul, ↓q_fdiv, ↓q_mod, ↓q_eqI, ↓q_eqS, ↓q_eqB, ↓q_neI, ↓q_neS, ↓q_neB, ↓q_isN, ↓q_notN, ↓q_isi, ↓q_abs, ↓q_max2, ↓q_min2, ↓q_maxT, ↓q_intI, ↓q_intB, ↓q_lenS, ↓q_lenT, ↓q_lenL, ↓q_lenC, ↓q_divmod, ↓q_listL, ↓q_listT, ↓q_tupL, ↓q_tupT, ↓q_KIn, ↓q_Fld, ↓q_Meth, ↓q_MakeF, ↓q_sFld, ↓q_KIx, ↓q_inT, ↓q_inL, ↓q_inS, ↓q_ixL, ↓q_ixT, ↓q_ixC, ↓q_Lc, ↓q_Yes, ↓q_Sl, ↓q_oNone, ↓q_oSome, ↓q_slC, ↓q_slL, ↓q_slS, ↓q_MethK, ↓q_CallK, ↓q_Repr, ↓q_DispF, ↓q_DIx, ↓q_rep, ↓q_Prop, ↓q_IsC, ↓q_DGet1, ↓q_DIn, ↓q_gUnl, ↓q_DictK, ↓q_repM, ↓q_aXi, ↓q_aXs, ↓q_aXt, ↓q_aXl, ↓q_aMl, ↓q_ltX, ↓q_leX, ↓q_leX2, ↓q_SlX, ↓q_sXc, ↓q_sXl, ↓q_sXt, ↓q_sXs, ↓q_RevT, ↓q_sxI, ↓q_sxS, ↓q_lxT, ↓q_lxL, ↓q_txL, ↓q_txT, ↓q_lmT, ↓q_lmL, ↓q_Par3, ↓q_Join, ↓wp_two, ↓wp_r1, ↓wp_r2, ↓wp_someB, ↓wp_strE, ↓wp_FldO, ↓wp_someL, ↓wp_last, ↓wp_someX, ↓wp_three, ↓q_p40, ↓qi_t, ↓qi_f, ↓wb_bl, ↓wi_int, ↓wstr_str, ↓wtup_tup, ↓wlst_lst, ↓wref_ref, isn_int, isn_non, isn_str, isn_tup, isn_lst, isn_ref, isn_bl, isi_str_str, isi_int_int, isi_int_bl, isi_bool_int, isi_bool_bl, isi_int_non, isi_int_str, isi_tuple_tup, str_eq, String.reduceEq, List.any_cons, List.any_nil, List.all_cons, List.all_nil, Bool.and_true, Bool.or_false, Bool.true_and, Bool.false_and, Bool.and_false, Bool.false_or, Bool.or_true, Bool.true_or, Bool.not_not, flat_str, flat_int, flat_non, eqF_str, List.map_cons, List.map_nil, List.length_cons, List.length_nil, List.length_map, List.cons_append, List.nil_append, List.append_nil, List.set_cons_zero, List.set_cons_succ, List.replicate_succ, List.replicate_zero, Nat.reduceSub, Nat.reduceAdd, Nat.reduceLeDiff, Nat.zero_add, Nat.sub_self, Bool.not_eq_true', Bool.not_true, Bool.not_false, if_true, if_false, reduceIte, Bool.false_eq_true, true_and, and_true, decide_true, decide_false, Bool.true_eq_false, eq_self, $xs,*] $[$l]?)
theorem lots_any {α : Type} (l : List α) (p : α → Bool) : (!decide (l.filter p = [])) = true ↔ ∃ x ∈ l, p x = true := by
  rw [Bool.not_eq_true', decide_eq_false_iff_not, List.filter_eq_nil_iff]
  constructor
  · intro h
    refine Classical.byContradiction fun hno => h fun x hx hp => hno ⟨x, hx, hp⟩
  · rintro ⟨x, hx, hp⟩ h
    exact h x hx hp
theorem ne_nilT2 (l : List (List Int)) (S : Sto) : gNe (.lst (l.map tupI)) (.lst []) S = some (.bl (!decide (l = [])), S) := by
  have tp : ∀ l : List (List Int), toPs (l.map tupI) = some (l.map fun x => PyData.tuple (x.map PyData.int)) := by
    intro l
    induction l with
    | nil => rfl
    | cons x l ih =>
      have h1 : toP (tupI x) = some (.tuple (x.map PyData.int)) := by
        show (toPs (x.map D.int)).map _ = _
        rw [toPs_ints]
        rfl
      show (toP (tupI x)).bind _ = _
      rw [h1, Option.bind_some, ih]
      rfl
  refine ne_nilL tupI (fun x => ⟨.tuple (x.map PyData.int), ?_⟩) l S fun l => ⟨_, tp l, List.length_map .., ?_⟩
  · show (toPs (x.map D.int)).map _ = _
    rw [toPs_ints]
    rfl
  · have lay : ∀ l : List (List Int), PyData.canLayAll0 (l.map fun x => PyData.tuple (x.map PyData.int)) = true := by
      intro l
      induction l with
      | nil => rfl
      | cons x l ih =>
        show (PyData.canLayAll0 (x.map PyData.int) && PyData.canLayAll0 (l.map fun x => PyData.tuple (x.map PyData.int))) = true
        rw [lay_ints, ih]
        rfl
    have dep : ∀ l : List (List Int), PyData.depthAll (l.map fun x => PyData.tuple (x.map PyData.int)) ≤ 1 := by
      intro l
      induction l with
      | nil => exact Nat.zero_le _
      | cons x l ih =>
        show max (PyData.depthAll (x.map PyData.int) + 1) _ ≤ 1
        rw [depth_ints]
        exact Nat.max_le.mpr ⟨by decide, ih⟩
    unfold SeqAt.shaped
    rw [show PyData.canLay0 (.list (l.map fun x => PyData.tuple (x.map PyData.int))) = PyData.canLayAll0 (l.map fun x => PyData.tuple (x.map PyData.int)) from rfl, lay]
    have := dep l
    have e : PyData.depth (.list (l.map fun x => PyData.tuple (x.map PyData.int))) = PyData.depthAll (l.map fun x => PyData.tuple (x.map PyData.int)) + 1 := rfl
    simp only [e, Bool.true_and, decide_eq_true_eq]
    omega
theorem neT_nilI (xs : List Int) (S : Sto) : gNe (.tup (xs.map D.int)) (.tup []) S = some (.bl (!decide (xs = [])), S) := by
  cases xs with
  | nil => rfl
  | cons x xs =>
    have tp : toP (.tup ((x :: xs).map D.int)) = some (.tuple ((x :: xs).map PyData.int)) := by
      show (toPs ((x :: xs).map D.int)).map _ = _
      rw [toPs_ints]
      rfl
    have e : gNe (.tup ((x :: xs).map D.int)) (.tup []) S = (eqDeep true (.tup ((x :: xs).map D.int)) (.tup [])).map fun d => (d, S) := by
      simp only [gNe]
    rw [e]
    unfold eqDeep
    rw [tp]
    show ((if SeqAt.shaped (.tuple ((x :: xs).map PyData.int)) = true ∧ SeqAt.shaped (.tuple []) = true then some (D.bl (!PyData.eqvAll ((x :: xs).map PyData.int) [])) else none : Option D).map fun d => (d, S)) = _
    rw [if_pos ⟨sh_row _, rfl⟩]
    rfl
section
variable {N : Nat} {T : List (Int × Int)} (hN : N ≤ 6) (hT : Ties (N : Int) T) (S : Sto)
include hN hT
theorem nr_argG (k : Int) : noRefs [D.int (N : Int), .tup (T.map pairD), .int k] = true := by
  show (true && (noRefs (T.map pairD) && (true && true))) = true
  rw [noRefs_pairs]
  rfl
theorem rows_of_eq {k : Int} (h1 : 1 ≤ k) (hk : k ≤ 1000) : ∃ E : List RowL, w__law_rows_of [.int (N : Int), .tup (T.map pairD), .int k] S = some (.lst (E.map enD), S) ∧ CovE N T k.toNat E := by
  obtain ⟨d, S', e, E, rfl, hE⟩ := rows_run hN hT (show 0 ≤ k by omega) hk
  exact ⟨E, pure_eq (nr_argG hN hT k) e (thawD_of (nr_en E)), hE h1⟩
theorem rings_eq : ∃ Z : List Int, w__law_rings [.int (N : Int), .tup (T.map pairD)] S = some (.lst (Z.map D.int), S) ∧ Z.length ≤ 64 ∧ ∀ c : Int, c ∈ Z ↔ ∃ f : Int, (0 ≤ f ∧ f < N) ∧ RgC2 T f c := by
  obtain ⟨d, S', e, Z, rfl, hl, hZ⟩ := rings_run hN hT
  refine ⟨Z, pure_eq ?_ e (thawD_of (noRefs_ints Z)), hl, hZ⟩
  show (true && (noRefs (T.map pairD) && true)) = true
  rw [noRefs_pairs]
  rfl
theorem ties_15 : T.length ≤ 15 := by
  have h1 := nodup_in hT.nodup ((pairs_asc (n := (N : Int)) (by omega) (by omega)).imp fun h => ltP_ne h) fun p hp => mem_pairs.mpr (hT.rng p hp)
  have h2 : (pairsL (N : Int)).length ≤ 15 := by
    have h3 : N = 0 ∨ N = 1 ∨ N = 2 ∨ N = 3 ∨ N = 4 ∨ N = 5 ∨ N = 6 := by omega
    rcases h3 with rfl | rfl | rfl | rfl | rfl | rfl | rfl <;> decide +kernel
  omega
theorem sh_ring {R : Int → Prop} : (∃ e, shRing N T R e) ↔ ∃ (f : Int) (r : List Int) (p : Int), (0 ≤ f ∧ f < (N : Int)) ∧ Pth T (onlyP f) f r p ∧ R (r.length : Int) ∧ tB T p f = true :=
  ⟨fun ⟨e, f, r, p, h1, _, h2⟩ => ⟨f, r, p, h1, h2⟩, fun ⟨f, r, p, h1, h2⟩ => ⟨_, f, r, p, h1, rfl, h2⟩⟩
theorem lholds {kd : Str} {z : D} {sh : D → Prop} (h : FK N T kd z sh) (hz : ∀ k, z = .int k → k ≤ 1000) : JB (w__law_holds [.str kd, z, .int (N : Int), .tup (T.map pairD)] S) S (∃ e, sh e) := by
  have hul := upto_len (N := (N : Int)) (by omega)
  have rr := upto_row (N : Int)
  have tl := hT.len (by omega)
  refine JB.of_q ?_
  unfold w__law_holds d__law_holds b__law_holds
  have e0 : rangeD 0 (N : Int) = (upto (N : Int)).map D.int := by
    rw [range0]
    unfold upto
    rw [List.map_map]
    refine List.map_congr_left fun j _ => ?_
    show D.int (j : Int) = D.int (0 + (j : Int))
    rw [Int.zero_add]
  have okN : okR (N : Int) = true ∧ (N : Int) ≤ 16777216 := ⟨ok_range (by omega) (by omega), by omega⟩
  cases h with
  | pairs k hk =>
    obtain ⟨m, em, hm⟩ := apart_law 24 T S (by have := ties_15 hN hT; omega) (by omega) fun p hp => by have := hT.rng p hp; omega
    push_cast [e0, em]
    refine ⟨okN, ?_⟩
    push_cast [em]
    exact ⟨_, rfl, by rw [decide_eq_true_eq]; exact most_iff hm (by omega)⟩
  | row k hk =>
    have hk2 := hz k rfl
    obtain ⟨E, eE, hE⟩ := rows_of_eq hN hT S (show 1 ≤ k by omega) hk2
    push_cast [e0]
    refine ⟨okN, ?_⟩
    push_cast []
    refine qi_dec (fun hle => ?_) fun hle => ?_
    · push_cast [eE, ne_nilE]
      refine ⟨_, rfl, ?_⟩
      rw [Bool.not_eq_true', decide_eq_false_iff_not]
      constructor
      · intro hne
        obtain ⟨e, he⟩ := List.exists_mem_of_ne_nil _ hne
        obtain ⟨r, hP, hl, _⟩ := (hE.1 e).mp he
        exact ⟨_, r, e.2, rfl, hP, by omega⟩
      · rintro ⟨e, r, p, _, hP, hl⟩ hnil
        have := (hE.1 (isort leI r, p)).mpr ⟨r, hP, by omega, rfl⟩
        rw [hnil] at this
        cases this
    · push_cast []
      refine false_of' fun ⟨e, r, p, _, hP, hl⟩ => ?_
      have := hP.len hT fun p h => h
      omega
  | star k hk =>
    have ei : gInX false (.str "ring") (.str "star") S = some (.bl false, S) := by kernel_rfl
    push_cast [e0, ei]
    refine ⟨okN, ?_⟩
    push_cast [ei]
    refine ⟨by omega, ?_⟩
    refine q_lcQ D.int D.int (fun x => decide (k ≤ ((nbL T x).length : Int))) (fun x hx => ?_) ?_
    · push_cast [wipeD]
      refine ⟨by omega, ?_⟩
      refine q_lcQ pairD pairD (fun q => decide (x ∈ [q.1, q.2])) (fun q hq => ?_) ?_
      · push_cast [wipeD, in_pr]
        exact fun _ => trivial
      · push_cast [cnt_nb]
        exact fun _ => trivial
    · push_cast [ne_nilI]
      refine ⟨_, rfl, ?_⟩
      rw [lots_any]
      constructor
      · rintro ⟨x, hx, hp⟩
        exact ⟨_, x, rr.rng x hx, of_decide_eq_true hp, rfl⟩
      · rintro ⟨e, p, h1, h2, _⟩
        exact ⟨p, row_all (by omega) rr.nd rr.rng hul h1.1 h1.2, decide_eq_true h2⟩
  | crowd k hk =>
    have ei : gInX false (.str "ring") (.str "crowd") S = some (.bl false, S) := by kernel_rfl
    have sl := subs_len (upto (N : Int))
    have p6 : (2 : Nat) ^ (upto (N : Int)).length ≤ 2 ^ 6 := Nat.pow_le_pow_right (by decide) (by omega)
    push_cast [e0, ei, subsets_eq (xs := upto (N : Int)) (by omega)]
    refine ⟨okN, ?_⟩
    push_cast [ei, subsets_eq (xs := upto (N : Int)) (by omega)]
    refine ⟨by omega, ?_⟩
    have hdec : ∀ l : List Int, Decidable (TiedP T l) := fun l => Classical.propDecidable _
    refine q_lcQ tupI tupI (fun l => decide ((l.length : Int) = k) && @decide (TiedP T l) (hdec l)) (fun l hl => ?_) ?_
    · have hs := subs_mem.mp hl
      push_cast [wipeD, tupI]
      refine qi_dec (fun h => ?_) fun h => ?_
      · push_cast []
        refine (is_crowd_jb (show N ≤ 10 by omega) hT S hs).tf (fun g => ?_) fun g => ?_
        · push_cast []
          rw [decide_eq_true h, Bool.true_and]
          exact ⟨(@decide_eq_true _ (hdec l) g).symm, fun _ => trivial⟩
        · push_cast []
          rw [decide_eq_true h, Bool.true_and]
          exact ⟨(@decide_eq_false _ (hdec l) g).symm, fun _ => trivial⟩
      · push_cast []
        rw [decide_eq_false h, Bool.false_and]
        exact ⟨rfl, fun _ => trivial⟩
    · push_cast [ne_nilT2]
      refine ⟨_, rfl, ?_⟩
      rw [lots_any]
      constructor
      · rintro ⟨l, hl, hp⟩
        rw [Bool.and_eq_true] at hp
        exact ⟨_, l, rfl, subs_mem.mp hl, @of_decide_eq_true _ (hdec l) hp.2, of_decide_eq_true hp.1⟩
      · rintro ⟨e, l, _, h1, h2, h3⟩
        exact ⟨l, subs_mem.mpr h1, by rw [Bool.and_eq_true]; exact ⟨decide_eq_true h3, @decide_eq_true _ (hdec l) h2⟩⟩
  | core k hk =>
    have ei : gInX false (.str "ring") (.str "core") S = some (.bl false, S) := by kernel_rfl
    push_cast [e0, ei]
    refine ⟨okN, ?_⟩
    push_cast [ei]
    refine q_imp (core_law (show N ≤ 10 by omega) hT S k) fun d S' hd => ?_
    obtain ⟨rfl, c, rfl, h1, h2, h3⟩ := hd
    push_cast [neT_nilI]
    refine ⟨_, rfl, ?_⟩
    rw [Bool.not_eq_true', decide_eq_false_iff_not]
    constructor
    · intro hne
      exact ⟨_, c, rfl, hne, h1, h2⟩
    · rintro ⟨e, c', _, g1, g2, g3⟩ hnil
      obtain ⟨x, hx⟩ := List.exists_mem_of_ne_nil _ g1
      have := h3 c' (rr.nd.sublist g2) (fun y hy => rr.rng y (g2.subset hy)) g3 x hx
      rw [hnil] at this
      cases this
  | linked k hk =>
    have ei : gInX false (.str "ring") (.str "linked") S = some (.bl false, S) := by kernel_rfl
    have sl := subs_len (upto (N : Int))
    have p6 : (2 : Nat) ^ (upto (N : Int)).length ≤ 2 ^ 6 := Nat.pow_le_pow_right (by decide) (by omega)
    push_cast [e0, ei, subsets_eq (xs := upto (N : Int)) (by omega)]
    refine ⟨okN, by omega, ?_⟩
    refine q_lcQ tupI tupI (fun l => decide ((l.length : Int) < k)) (fun l hl => ?_) ?_
    · push_cast [wipeD, tupI]
      exact fun _ => trivial
    push_cast []
    refine q_forQ tupI (fun l => HangL (tB T) (outN N l)) [6, 9] (fun l hl e he => ?_) (fun hall e he => ?_) (fun hno => ?_)
    · obtain ⟨a6, a9, rfl⟩ := he
      obtain ⟨hl1, hl2⟩ := List.mem_filter.mp hl
      push_cast [tupI]
      refine ⟨by omega, ?_⟩
      refine q_lcQ D.int D.int (fun x => !decide (x ∈ l)) (fun x hx => ?_) ?_
      · push_cast [wipeD, in_intsT]
        exact fun _ => trivial
      push_cast []
      refine (joined_jb (show N ≤ 10 by omega) hT S (L := outN N l) (rr.nd.filter _) fun y hy => rr.rng y (List.mem_filter.mp hy).1).tf (fun g => ?_) fun g => ?_
      · push_cast []
        exact Or.inl ⟨_, rfl, ⟨_, _, rfl⟩, g⟩
      · push_cast []
        exact Or.inr g
    · obtain ⟨a6, a9, rfl⟩ := he
      push_cast []
      refine ⟨_, rfl, ?_⟩
      rw [decide_eq_true_eq]
      constructor
      · intro hlt
        exact ⟨_, rfl, hlt, fun l h1 h2 => hall l (List.mem_filter.mpr ⟨subs_mem.mpr h1, decide_eq_true h2⟩)⟩
      · rintro ⟨e, _, hlt, _⟩
        exact hlt
    · push_cast []
      refine false_of' fun ⟨e, _, _, h⟩ => hno fun l hl => ?_
      obtain ⟨hl1, hl2⟩ := List.mem_filter.mp hl
      exact h l (subs_mem.mp hl1) (of_decide_eq_true hl2)
  | ring k hk hk2 =>
    have ei : gInX false (.str "ring") (.str "ring") S = some (.bl true, S) := by kernel_rfl
    obtain ⟨Z, eZ, hl, hZ⟩ := rings_eq hN hT S
    push_cast [e0, ei, eZ]
    refine ⟨okN, by omega, ?_⟩
    refine q_lcQ D.int D.int (fun c => decide (k ≤ c)) (fun c hc => ?_) ?_
    · push_cast [wipeD]
      exact fun _ => trivial
    push_cast [ne_nilI]
    refine ⟨_, rfl, ?_⟩
    rw [lots_any, sh_ring hN hT]
    constructor
    · rintro ⟨c, hc, hp⟩
      obtain ⟨f, hf, r, p, h1, h2, h3, h4⟩ := (hZ c).mp hc
      exact ⟨f, r, p, hf, h1, by rw [h2]; exact of_decide_eq_true hp, h4⟩
    · rintro ⟨f, r, p, hf, h1, h2, h4⟩
      exact ⟨_, (hZ _).mpr ⟨f, hf, r, p, h1, rfl, by omega, h4⟩, decide_eq_true h2⟩
  | odd =>
    have ei : gInX false (.str "ring") (.str "odd ring") S = some (.bl true, S) := by kernel_rfl
    obtain ⟨Z, eZ, hl, hZ⟩ := rings_eq hN hT S
    push_cast [e0, ei, eZ]
    refine ⟨okN, by omega, ?_⟩
    refine q_lcQ D.int D.int (fun c => decide (c % 2 = 1)) (fun c hc => ?_) ?_
    · push_cast [wipeD]
      exact ⟨by decide, fun _ => trivial⟩
    push_cast [ne_nilI]
    refine ⟨_, rfl, ?_⟩
    rw [lots_any, sh_ring hN hT]
    constructor
    · rintro ⟨c, hc, hp⟩
      obtain ⟨f, hf, r, p, h1, h2, h3, h4⟩ := (hZ c).mp hc
      exact ⟨f, r, p, hf, h1, by rw [h2]; exact ⟨h3, of_decide_eq_true hp⟩, h4⟩
    · rintro ⟨f, r, p, hf, h1, h2, h4⟩
      exact ⟨_, (hZ _).mpr ⟨f, hf, r, p, h1, rfl, h2.1, h4⟩, decide_eq_true h2.2⟩
  | even =>
    have ei : gInX false (.str "ring") (.str "even ring") S = some (.bl true, S) := by kernel_rfl
    obtain ⟨Z, eZ, hl, hZ⟩ := rings_eq hN hT S
    push_cast [e0, ei, eZ]
    refine ⟨okN, by omega, ?_⟩
    refine q_lcQ D.int D.int (fun c => decide (c % 2 = 0)) (fun c hc => ?_) ?_
    · push_cast [wipeD]
      exact ⟨by decide, fun _ => trivial⟩
    push_cast [ne_nilI]
    refine ⟨_, rfl, ?_⟩
    rw [lots_any, sh_ring hN hT]
    constructor
    · rintro ⟨c, hc, hp⟩
      obtain ⟨f, hf, r, p, h1, h2, h3, h4⟩ := (hZ c).mp hc
      have hp := of_decide_eq_true hp
      exact ⟨f, r, p, hf, h1, by rw [h2]; exact ⟨by omega, hp⟩, h4⟩
    · rintro ⟨f, r, p, hf, h1, h2, h4⟩
      exact ⟨_, (hZ _).mpr ⟨f, hf, r, p, h1, rfl, by omega, h4⟩, decide_eq_true h2.2⟩
end
end LW
namespace LW
open PySem PySem.Spec L2 TL DL
open PyProof.Rows hiding pairD cutD
open Tk
/-- the people of a set, as a list -/
def liI (N : Nat) (s : Nat → Bool) : List Int := (mem N s).map fun (i : Nat) => (i : Int)
theorem mem_liI {N : Nat} {s : Nat → Bool} {x : Int} : x ∈ liI N s ↔ ∃ i : Nat, i < N ∧ s i = true ∧ x = (i : Int) := by
  unfold liI
  rw [List.mem_map]
  constructor
  · rintro ⟨i, hi, rfl⟩
    obtain ⟨h1, h2⟩ := mem_mem.mp hi
    exact ⟨i, h1, h2, rfl⟩
  · rintro ⟨i, h1, h2, rfl⟩
    exact ⟨i, mem_mem.mpr ⟨h1, h2⟩, rfl⟩
theorem upto_map (N : Nat) : upto (N : Int) = (List.range N).map fun (i : Nat) => (i : Int) := by
  unfold upto
  rw [Int.toNat_natCast]
  exact List.map_congr_left fun i _ => by omega
theorem liI_sub (N : Nat) (s : Nat → Bool) : (liI N s).Sublist (upto (N : Int)) := by
  rw [upto_map]
  exact List.filter_sublist.map _
theorem liI_len (N : Nat) (s : Nat → Bool) : (liI N s).length = cntM s N := by
  unfold liI
  rw [List.length_map, mem_len]
theorem liI_asc (N : Nat) (s : Nat → Bool) : (liI N s).Pairwise (· < ·) := by
  unfold liI
  rw [List.pairwise_map]
  exact (mem_asc N s).imp fun h => by omega
theorem inB_liI {N : Nat} {s : Nat → Bool} {i : Nat} (hi : i < N) : inB (liI N s) i = s i := by
  unfold inB
  rw [Bool.eq_iff_iff, decide_eq_true_eq, mem_liI]
  constructor
  · rintro ⟨j, _, h, e⟩
    have : i = j := by omega
    rw [this]
    exact h
  · exact fun h => ⟨i, hi, h, rfl⟩
theorem sub_row {N : Nat} {xs : List Int} (h : xs.Sublist (upto (N : Int))) : Row (N : Int) xs := ⟨(upto_row (N : Int)).nd.sublist h, fun x hx => (upto_row (N : Int)).rng x (h.subset hx)⟩
theorem cnt_ext2 {N : Nat} {u v : Nat → Bool} (h : ∀ i, i < N → u i = v i) : cntM u N = cntM v N := Nat.le_antisymm (cnt_le fun j hj e => by rw [← h j hj]; exact e) (cnt_le fun j hj e => by rw [h j hj]; exact e)
theorem cnt_inB {N : Nat} {xs : List Int} (h : Row (N : Int) xs) : cntM (inB xs) N = xs.length := by
  have e := cntM_int h fun _ => true
  have e2 : (fun i : Nat => (fun _ : Int => true) (i : Int) && inB xs i) = inB xs := funext fun i => Bool.true_and _
  rw [e2] at e
  rw [e, List.countP_true]
theorem nat_of {N : Nat} {x : Int} (h : 0 ≤ x ∧ x < (N : Int)) : ∃ i : Nat, i < N ∧ x = (i : Int) := ⟨x.toNat, by omega, by omega⟩
theorem pw_ne {T : List (Int × Int)} : ∀ {zs : List Int}, TiedP T zs → ∀ x ∈ zs, ∀ y ∈ zs, x ≠ y → tB T x y = true
  | [], _, x, hx, _, _, _ => by cases hx
  | z :: zs, h, x, hx, y, hy, hne => by
    obtain ⟨h1, h2⟩ := List.pairwise_cons.mp h
    rcases List.mem_cons.mp hx with rfl | hx
    · rcases List.mem_cons.mp hy with e | hy
      · exact absurd e.symm hne
      · exact h1 y hy
    · rcases List.mem_cons.mp hy with e | hy
      · rw [tB_comm, e]
        exact h1 x hx
      · exact pw_ne h2 x hx y hy hne
section
variable {N : Nat} {T : List (Int × Int)}
theorem br_crowd (k : Nat) : (∃ e, shCrowd N T (k : Int) e) ↔ CrowdP N (adj T) (fun _ => true) k := by
  constructor
  · rintro ⟨_, zs, rfl, hs, ht, hl⟩
    have hr := sub_row hs
    refine ⟨inB zs, fun _ _ _ => rfl, by rw [cnt_inB hr]; omega, fun i j hi hj ci cj hne => ?_⟩
    exact pw_ne ht _ (of_decide_eq_true ci) _ (of_decide_eq_true cj) (by omega)
  · rintro ⟨c, _, hc, ha⟩
    refine ⟨_, liI N c, rfl, liI_sub N c, ?_, by rw [liI_len, hc]⟩
    refine (liI_asc N c).imp_of_mem fun {a b} hx hy hlt => ?_
    obtain ⟨i, hi, si, rfl⟩ := mem_liI.mp hx
    obtain ⟨j, hj, sj, rfl⟩ := mem_liI.mp hy
    exact ha i j hi hj si sj (by omega)
theorem cnt_tB {p : Int} {xs : List Int} (hr : Row (N : Int) xs) {c : Nat → Bool} (hc : ∀ i, i < N → c i = inB xs i) {i : Nat} (hp : p = (i : Int)) : cntM (fun j => adj T i j && c j) N = xs.countP (tB T p) := by
  rw [← cntM_int hr (tB T p)]
  refine cnt_ext2 fun j hj => ?_
  rw [hc j hj, hp]
  first | rfl | done
theorem br_core (k : Int) : (∃ e, shCore N T k e) ↔ CoreP N (adj T) k := by
  constructor
  · rintro ⟨_, c, rfl, hne, hs, hd⟩
    have hr := sub_row hs
    refine ⟨inB c, ?_, fun i hi ci => ?_⟩
    · cases c with
      | nil => exact absurd rfl hne
      | cons x c =>
        obtain ⟨i, hi, e⟩ := nat_of (hr.rng x (List.mem_cons_self ..))
        exact ⟨i, hi, decide_eq_true (by rw [← e]; exact List.mem_cons_self ..)⟩
    · rw [cnt_tB hr (fun _ _ => rfl) rfl]
      exact hd _ (of_decide_eq_true ci)
  · rintro ⟨c, ⟨i, hi, ci⟩, hd⟩
    have hs := liI_sub N c
    refine ⟨_, liI N c, rfl, ?_, hs, fun x hx => ?_⟩
    · intro e
      have : (i : Int) ∈ liI N c := mem_liI.mpr ⟨i, hi, ci, rfl⟩
      rw [e] at this
      cases this
    · obtain ⟨j, hj, cj, rfl⟩ := mem_liI.mp hx
      rw [← cnt_tB (T := T) (sub_row hs) (fun a ha => (inB_liI ha).symm) rfl]
      exact hd j hj cj
end
end LW
namespace LW
open PySem PySem.Spec L2 TL DL
open PyProof.Rows hiding pairD cutD
open Tk
section
variable {N : Nat} {T : List (Int × Int)} (hT : Ties (N : Int) T)
include hT
def AllAp (V : List (Int × Int)) : Prop := ∀ p ∈ V, ∀ q ∈ V, p ≠ q → apB p q = true
omit hT in
theorem ap_iff2 {p q : Int × Int} : apB p q = true ↔ q.1 ≠ p.1 ∧ q.1 ≠ p.2 ∧ q.2 ≠ p.1 ∧ q.2 ≠ p.2 := by
  unfold apB
  simp
  omega
omit hT in
theorem ap_all : ∀ {V : List (Int × Int)}, ApartP V → AllAp V
  | [], _ => fun p hp => by cases hp
  | v :: V, h => fun p hp q hq hne => by
    obtain ⟨h1, h2⟩ := List.pairwise_cons.mp h
    rcases List.mem_cons.mp hp with rfl | hp
    · rcases List.mem_cons.mp hq with e | hq
      · exact absurd e.symm hne
      · exact h1 q hq
    · rcases List.mem_cons.mp hq with e | hq
      · have := ap_iff2.mp (h1 p hp)
        rw [e]
        exact ap_iff2.mpr (by omega)
      · exact ap_all h2 p hp q hq hne
theorem mt_of : ∀ {V : List (Int × Int)} {s : Nat → Bool}, (∀ p ∈ V, p ∈ T) → ApartP V → (∀ p ∈ V, s p.1.toNat = true ∧ s p.2.toNat = true) → Mt N (adj T) s V.length
  | [], s, _, _, _ => Mt.nil s
  | v :: V, s, hm, ha, hs => by
    obtain ⟨h1, h2⟩ := List.pairwise_cons.mp ha
    have r := hT.rng v (hm v (List.mem_cons_self ..))
    obtain ⟨s1, s2⟩ := hs v (List.mem_cons_self ..)
    refine Mt.cons v.1.toNat v.2.toNat (by omega) (by omega) (by omega) s1 s2 ?_ (mt_of (fun p hp => hm p (List.mem_cons_of_mem _ hp)) h2 fun p hp => ?_)
    · show tB T _ _ = true
      rw [show ((v.1.toNat : Nat) : Int) = v.1 by omega, show ((v.2.toNat : Nat) : Int) = v.2 by omega, tB_lt r.2.1]
      exact decide_eq_true (hm v (List.mem_cons_self ..))
    · have hap := ap_iff2.mp (h1 p hp)
      have rp := hT.rng p (hm p (List.mem_cons_of_mem _ hp))
      obtain ⟨q1, q2⟩ := hs p (List.mem_cons_of_mem _ hp)
      unfold del
      rw [q1, q2]
      simp
      omega
theorem of_mt {s : Nat → Bool} {k : Nat} (h : Mt N (adj T) s k) : ∃ V : List (Int × Int), V.length = k ∧ (∀ p ∈ V, p ∈ T ∧ s p.1.toNat = true ∧ s p.2.toNat = true) ∧ ApartP V := by
  induction h with
  | nil s => exact ⟨[], rfl, fun p hp => (by cases hp), List.Pairwise.nil⟩
  | @cons s k i j hi hj hne si sj a _ ih =>
    obtain ⟨V, hl, hV, hA⟩ := ih
    have hm : (min (i : Int) (j : Int), max (i : Int) (j : Int)) ∈ T := of_decide_eq_true a
    refine ⟨(min (i : Int) (j : Int), max (i : Int) (j : Int)) :: V, by rw [List.length_cons, hl], fun p hp => ?_, List.pairwise_cons.mpr ⟨fun q hq => ?_, hA⟩⟩
    · rcases List.mem_cons.mp hp with rfl | hp
      · refine ⟨hm, ?_, ?_⟩
        · show s (min (i : Int) (j : Int)).toNat = true
          rcases Int.le_total (i : Int) (j : Int) with h | h
          · rw [Int.min_eq_left h]
            simpa using si
          · rw [Int.min_eq_right h]
            simpa using sj
        · show s (max (i : Int) (j : Int)).toNat = true
          rcases Int.le_total (i : Int) (j : Int) with h | h
          · rw [Int.max_eq_right h]
            simpa using sj
          · rw [Int.max_eq_left h]
            simpa using si
      · obtain ⟨h1, h2, h3⟩ := hV p hp
        unfold del at h2 h3
        simp at h2 h3
        exact ⟨h1, h2.1.1, h3.1.1⟩
    · obtain ⟨h1, h2, h3⟩ := hV q hq
      have r := hT.rng q h1
      unfold del at h2 h3
      simp at h2 h3
      refine ap_iff2.mpr ?_
      show q.1 ≠ min (i : Int) (j : Int) ∧ q.1 ≠ max (i : Int) (j : Int) ∧ q.2 ≠ min (i : Int) (j : Int) ∧ q.2 ≠ max (i : Int) (j : Int)
      omega
theorem br_pairs (k : Nat) : (∃ e, shPairs T (k : Int) e) ↔ Mt N (adj T) (fun _ => true) k := by
  constructor
  · rintro ⟨_, V, rfl, hs, ha, hl⟩
    have e : k = V.length := by omega
    rw [e]
    exact mt_of hT (fun p hp => hs.subset hp) ha fun _ _ => ⟨rfl, rfl⟩
  · intro h
    obtain ⟨V, hl, hV, hA⟩ := of_mt hT h
    have hall := ap_all hA
    have nd : V.Nodup := hA.imp fun {a b} h e => by
      have := ap_iff2.mp h
      rw [e] at this
      exact this.1 rfl
    have hs : (T.filter fun p => decide (p ∈ V)).Sublist T := List.filter_sublist
    refine ⟨_, T.filter fun p => decide (p ∈ V), rfl, hs, ?_, ?_⟩
    · refine (hT.nodup.sublist hs).imp_of_mem fun {a b} ha hb hne => ?_
      exact hall a (of_decide_eq_true (List.mem_filter.mp ha).2) b (of_decide_eq_true (List.mem_filter.mp hb).2) hne
    · have p : (T.filter fun p => decide (p ∈ V)).Perm V := by
        refine (List.perm_ext_iff_of_nodup (hT.nodup.sublist hs) nd).mpr fun x => ?_
        rw [List.mem_filter, decide_eq_true_eq]
        exact ⟨fun h => h.2, fun h => ⟨(hV x h).1, h⟩⟩
      rw [p.length_eq, hl]
end
end LW
namespace LW
open PySem PySem.Spec L2 TL DL
open PyProof.Rows hiding pairD cutD
open Tk
/-- each next one is tied with the one before it -/
def Lnk (T : List (Int × Int)) : List Int → Prop
  | [] => True
  | [_] => True
  | x :: y :: l => tB T x y = true ∧ Lnk T (y :: l)
section
variable {T : List (Int × Int)}
theorem lnk_tl {x : Int} : ∀ {l : List Int}, Lnk T (x :: l) → Lnk T l
  | [], _ => trivial
  | _ :: _, h => h.2
theorem lnk_join : ∀ {X : List Int} {x y : Int} {Y : List Int}, Lnk T (X ++ [x]) → Lnk T (y :: Y) → tB T x y = true → Lnk T (X ++ [x] ++ (y :: Y))
  | [], x, y, Y, _, h2, t => ⟨t, h2⟩
  | [a], x, y, Y, h1, h2, t => ⟨h1.1, t, h2⟩
  | a :: b :: X, x, y, Y, h1, h2, t => ⟨h1.1, lnk_join (X := b :: X) h1.2 h2 t⟩
theorem lnk_fst : ∀ {X Y : List Int}, Lnk T (X ++ Y) → Lnk T X
  | [], _, _ => trivial
  | [_], _, _ => trivial
  | a :: b :: X, Y, h => ⟨h.1, lnk_fst (X := b :: X) h.2⟩
theorem lnk_snd : ∀ {X Y : List Int}, Lnk T (X ++ Y) → Lnk T Y
  | [], _, h => h
  | a :: X, Y, h => lnk_snd (X := X) (lnk_tl (x := a) (l := X ++ Y) h)
theorem lnk_mid : ∀ {X : List Int} {x y : Int} {Y : List Int}, Lnk T (X ++ [x] ++ (y :: Y)) → tB T x y = true
  | [], x, y, Y, h => h.1
  | a :: X, x, y, Y, h => lnk_mid (X := X) (lnk_tl (x := a) (l := X ++ [x] ++ (y :: Y)) h)
/-- the least of a row, and what stands around it -/
theorem least_split : ∀ {c : List Int}, c ≠ [] → ∃ X f Y, c = X ++ f :: Y ∧ ∀ x ∈ c, f ≤ x
  | [], h => absurd rfl h
  | [a], _ => ⟨[], a, [], rfl, fun x hx => by rw [List.mem_singleton.mp hx]; exact Int.le_refl _⟩
  | a :: b :: c, _ => by
    obtain ⟨X, f, Y, e, hf⟩ := least_split (c := b :: c) (by simp)
    by_cases h : a ≤ f
    · refine ⟨[], a, b :: c, rfl, fun x hx => ?_⟩
      rcases List.mem_cons.mp hx with rfl | hx
      · exact Int.le_refl _
      · exact Int.le_trans h (hf x hx)
    · refine ⟨a :: X, f, Y, by rw [e]; rfl, fun x hx => ?_⟩
      rcases List.mem_cons.mp hx with rfl | hx
      · omega
      · exact hf x hx
theorem pth_lnk {f : Int} : ∀ (n : Nat) (m : List Int), m.length = n → Lnk T (f :: m) → (f :: m).Nodup → (∀ x ∈ m, f ≤ x) → ∃ p X, f :: m = X ++ [p] ∧ Pth T (onlyP f) f (f :: m) p
  | 0, m, hl, _, _, _ => by
    cases m with
    | nil => exact ⟨f, [], rfl, .one _ rfl⟩
    | cons a m => cases hl
  | n + 1, m, hl, hk, hd, hf => by
    rcases List.eq_nil_or_concat m with rfl | ⟨m', p, rfl⟩
    · cases hl
    rw [List.concat_eq_append] at hl hk hd hf ⊢
    rw [List.length_append, List.length_singleton] at hl
    have hk' : Lnk T (f :: m') := lnk_fst (X := f :: m') (Y := [p]) hk
    have hd2 : ((f :: m') ++ [p]).Nodup := hd
    obtain ⟨d1, _, d3⟩ := List.nodup_append.mp hd2
    obtain ⟨q, X, e, hP⟩ := pth_lnk n m' (by omega) hk' d1 fun x hx => hf x (List.mem_append_left _ hx)
    refine ⟨p, f :: m', rfl, ?_⟩
    refine .snoc p hP ?_ (hf p (by simp)) fun hm => d3 p hm p (by simp) rfl
    have hk2 : Lnk T ((f :: m') ++ [p]) := hk
    rw [e] at hk2
    exact lnk_mid (X := X) (Y := []) hk2
/-- a closed row makes a ring that starts with its least -/
theorem ring_of {N : Nat} {u v : Int} {l : List Int} (hT : Ties (N : Int) T) (h1 : Lnk T (u :: (l ++ [v]))) (h2 : (u :: (l ++ [v])).Nodup) (t : tB T v u = true) {R : Int → Prop} (hR : R ((l.length + 2 : Nat) : Int)) : ∃ d, shRing N T R d := by
  obtain ⟨X, f, Y, e, hf⟩ := least_split (c := u :: (l ++ [v])) (by simp)
  have hl : (u :: (l ++ [v])).length = l.length + 2 := by simp
  have k1 : Lnk T (f :: Y) := lnk_snd (X := X) (by rw [← e]; exact h1)
  have hk : Lnk T (f :: (Y ++ X)) ∧ ∃ p Z, f :: (Y ++ X) = Z ++ [p] ∧ tB T p f = true := by
    rcases List.eq_nil_or_concat Y with hY | ⟨Y', w, hY⟩
    · -- f is the last
      rw [hY] at e
      have e2 : (u :: l) ++ [v] = X ++ [f] := e
      obtain ⟨e3, e4⟩ := List.append_inj' e2 rfl
      have e5 : v = f := List.singleton_inj.mp e4
      subst e5
      rw [hY, ← e3, List.nil_append]
      refine ⟨⟨t, lnk_fst (X := u :: l) (Y := [v]) h1⟩, ?_⟩
      rcases List.eq_nil_or_concat l with hn | ⟨l', w, hw⟩
      · subst hn
        exact ⟨u, [v], rfl, h1.1⟩
      · rw [List.concat_eq_append] at hw
        subst hw
        refine ⟨w, v :: u :: l', by simp, ?_⟩
        have h1' : Lnk T ((u :: l') ++ [w] ++ [v]) := by simpa using h1
        exact lnk_mid (Y := []) h1'
    · rw [List.concat_eq_append] at hY
      have e2 : (u :: l) ++ [v] = (X ++ f :: Y') ++ [w] := by
        rw [hY] at e
        simpa using e
      obtain ⟨e3, e4⟩ := List.append_inj' e2 rfl
      have e5 : v = w := List.singleton_inj.mp e4
      subst e5
      cases X with
      | nil =>
        have e6 : u = f := (List.cons.inj e).1
        subst e6
        refine ⟨by rw [List.append_nil]; exact k1, v, u :: Y', by rw [hY, List.append_nil]; rfl, t⟩
      | cons x X =>
        have e6 : u = x := (List.cons.inj e).1
        subst e6
        have kX : Lnk T (u :: X) := lnk_fst (X := u :: X) (Y := f :: Y) (by rw [← e]; exact h1)
        refine ⟨?_, ?_⟩
        · rw [hY] at k1 ⊢
          have := lnk_join (X := f :: Y') (x := v) (y := u) (Y := X) k1 kX t
          simpa using this
        · rcases List.eq_nil_or_concat X with hn | ⟨X', w, hw⟩
          · subst hn
            refine ⟨u, f :: Y, by simp, ?_⟩
            have := h1
            rw [e] at this
            exact lnk_mid (X := []) (Y := Y) this
          · rw [List.concat_eq_append] at hw
            subst hw
            refine ⟨w, f :: (Y ++ (u :: X')), by simp, ?_⟩
            have := h1
            rw [e] at this
            have : Lnk T ((u :: X') ++ [w] ++ (f :: Y)) := by simpa using this
            exact lnk_mid this
  obtain ⟨hk, p, Z, ep, tp⟩ := hk
  have pm : (f :: (Y ++ X)).Perm (u :: (l ++ [v])) := by
    rw [e]
    exact (List.perm_append_comm (l₁ := X) (l₂ := f :: Y)).symm
  have nd := (pm.nodup_iff).mpr h2
  obtain ⟨p', X', e', hP⟩ := pth_lnk _ (Y ++ X) rfl hk nd fun x hx => hf x (pm.mem_iff.mp (List.mem_cons_of_mem _ hx))
  have ee : Z ++ [p] = X' ++ [p'] := by rw [← ep, e']
  have : p = p' := List.singleton_inj.mp (List.append_inj' ee rfl).2
  subst this
  refine ⟨_, f, _, p, (tB_rng hT tp).2, rfl, hP, ?_, tp⟩
  rw [pm.length_eq, hl]
  exact hR
end
end LW
namespace LW
open PySem PySem.Spec L2 TL DL
open PyProof.Rows hiding pairD cutD
open Tk
abbrev InN (N : Nat) (l : List Int) : Prop := ∀ x ∈ l, 0 ≤ x ∧ x < (N : Int)
section
variable {N : Nat} {T : List (Int × Int)}
theorem lnk_take {l : List Int} (k : Nat) (h : Lnk T l) : Lnk T (l.take k) := lnk_fst (Y := l.drop k) (by rw [List.take_append_drop]; exact h)
theorem pth_all : ∀ (n : Nat) (f : Int) (m : List Int), m.length = n → Lnk T (f :: m) → (f :: m).Nodup → InN N (f :: m) → ∃ p X, f :: m = X ++ [p] ∧ Pth T (allP N) 0 (f :: m) p
  | 0, f, m, hl, _, _, h => by
    cases m with
    | nil => exact ⟨f, [], rfl, .one _ (h f (by simp))⟩
    | cons a m => cases hl
  | n + 1, f, m, hl, hk, hd, hf => by
    rcases List.eq_nil_or_concat m with rfl | ⟨m', p, rfl⟩
    · cases hl
    rw [List.concat_eq_append] at hl hk hd hf ⊢
    rw [List.length_append, List.length_singleton] at hl
    have hk' : Lnk T (f :: m') := lnk_fst (X := f :: m') (Y := [p]) hk
    have hd2 : ((f :: m') ++ [p]).Nodup := hd
    obtain ⟨d1, _, d3⟩ := List.nodup_append.mp hd2
    obtain ⟨q, X, e, hP⟩ := pth_all n f m' (by omega) hk' d1 fun x hx => hf x (by rcases List.mem_cons.mp hx with rfl | hx <;> simp_all)
    refine ⟨p, f :: m', rfl, ?_⟩
    refine .snoc p hP ?_ (hf p (by simp)).1 fun hm => d3 p hm p (by simp) rfl
    have hk2 : Lnk T ((f :: m') ++ [p]) := hk
    rw [e] at hk2
    exact lnk_mid (X := X) (Y := []) hk2
theorem row_of {l : List Int} (h1 : Lnk T l) (h2 : l.Nodup) (h3 : InN N l) {k : Nat} (h0 : 1 ≤ k) (hk : k ≤ l.length) : ∃ d, shRow N T (k : Int) d := by
  have k1 := lnk_take k h1
  have k2 := h2.sublist (List.take_sublist k l)
  have k3 : InN N (l.take k) := fun x hx => h3 x (List.mem_of_mem_take hx)
  have hl : (l.take k).length = k := by rw [List.length_take]; omega
  generalize l.take k = r at k1 k2 k3 hl
  cases r with
  | nil =>
    rw [List.length_nil] at hl
    omega
  | cons f m =>
    obtain ⟨p, X, e, hP⟩ := pth_all _ f m rfl k1 k2 k3
    exact ⟨_, f :: m, p, rfl, hP, by rw [hl]⟩
theorem mt_row : ∀ (l : List Int), Lnk T l → l.Nodup → InN N l → Mt N (adj T) (inB l) (l.length / 2)
  | [], _, _, _ => by
    rw [show ([] : List Int).length / 2 = 0 from by rw [List.length_nil]]
    exact .nil _
  | [a], _, _, _ => by
    rw [show [a].length / 2 = 0 from by rw [List.length_singleton]]
    exact .nil _
  | a :: b :: l, h1, h2, h3 => by
    obtain ⟨na, h2'⟩ := List.nodup_cons.mp h2
    obtain ⟨nb, h2''⟩ := List.nodup_cons.mp h2'
    have ih := mt_row l (lnk_tl (lnk_tl h1)) h2'' fun x hx => h3 x (by simp [hx])
    obtain ⟨i, hi, ea⟩ := nat_of (h3 a (by simp))
    obtain ⟨j, hj, eb⟩ := nat_of (h3 b (by simp))
    subst ea eb
    have e : ((i : Int) :: (j : Int) :: l).length / 2 = l.length / 2 + 1 := by simp only [List.length_cons]; omega
    rw [e]
    refine .cons i j hi hj (fun e => na (by simp [e])) (decide_eq_true (by simp)) (decide_eq_true (by simp)) h1.1 (mt_mono ih fun m hm g => ?_)
    have g : (m : Int) ∈ l := of_decide_eq_true g
    rw [del_t, del_t]
    refine ⟨⟨decide_eq_true (by simp [g]), fun e => ?_⟩, fun e => ?_⟩
    · subst e
      exact na (by simp [g])
    · subst e
      exact nb g
theorem mt_less {A : Nat → Nat → Bool} {s : Nat → Bool} {k : Nat} (h : Mt N A s k) : ∀ k', k' ≤ k → Mt N A s k' := by
  induction h with
  | nil s =>
    intro k' h
    rw [show k' = 0 by omega]
    exact .nil _
  | @cons s k i j hi hj hne si sj a _ ih =>
    intro k' h
    cases k' with
    | zero => exact .nil _
    | succ k' => exact .cons i j hi hj hne si sj a (ih k' (by omega))
variable (hT : Ties (N : Int) T)
include hT
theorem pairs_of_row {l : List Int} (h1 : Lnk T l) (h2 : l.Nodup) (h3 : InN N l) {k : Nat} (hk : k ≤ l.length / 2) : ∃ d, shPairs T (k : Int) d :=
  (br_pairs hT k).mpr (mt_less (mt_mono (mt_row l h1 h2 h3) fun _ _ _ => rfl) k hk)
theorem core_of {k : Int} {xs : List Int} (hr : Row (N : Int) xs) (hne : xs ≠ []) (h : ∀ p ∈ xs, k ≤ ((xs.countP (tB T p) : Nat) : Int)) : ∃ d, shCore N T k d := by
  refine (br_core k).mpr ⟨inB xs, ?_, fun i hi ci => ?_⟩
  · obtain ⟨x, hx⟩ := List.exists_mem_of_ne_nil _ hne
    obtain ⟨i, hi, rfl⟩ := nat_of (hr.rng x hx)
    exact ⟨i, hi, decide_eq_true hx⟩
  · rw [cnt_tB hr (c := inB xs) (fun _ _ => rfl) (p := (i : Int)) rfl]
    exact h _ (of_decide_eq_true ci)
theorem star_of {p : Int} (hp : 0 ≤ p ∧ p < (N : Int)) {ys : List Int} (nd : ys.Nodup) (h : ∀ y ∈ ys, tB T p y = true) {k : Int} (hk : k ≤ (ys.length : Int)) : ∃ d, shStar N T k d := by
  have := nodup_le (xs := nbL T p) nd fun y hy => (nbL_mem hT).mpr (h y hy)
  exact ⟨_, p, hp, by omega, rfl⟩
theorem crowd_of {xs : List Int} (hr : Row (N : Int) xs) (h : ∀ x ∈ xs, ∀ y ∈ xs, x ≠ y → tB T x y = true) : ∃ d, shCrowd N T (xs.length : Int) d := by
  refine (br_crowd xs.length).mpr ⟨inB xs, fun _ _ _ => rfl, cnt_inB hr, fun i j hi hj ci cj hne => ?_⟩
  exact h _ (of_decide_eq_true ci) _ (of_decide_eq_true cj) fun e => hne (by omega)
end
end LW
namespace LW
open PySem PySem.Spec L2 TL DL
open PyProof.Rows hiding pairD cutD
open Tk
theorem last_split {p : Int → Bool} : ∀ {l : List Int}, l.filter p ≠ [] → ∃ X y Y, l = X ++ y :: Y ∧ p y = true ∧ (l.filter p).length ≤ X.length + 1
  | [], h => absurd rfl h
  | a :: l, h => by
    by_cases e : l.filter p = []
    · by_cases pa : p a = true
      · refine ⟨[], a, l, rfl, pa, ?_⟩
        rw [List.filter_cons_of_pos pa, e]
        exact Nat.le_refl _
      · rw [List.filter_cons_of_neg pa] at h
        exact absurd e h
    · obtain ⟨X, y, Y, rfl, py, hl⟩ := last_split e
      refine ⟨a :: X, y, Y, rfl, py, ?_⟩
      have : ((a :: (X ++ y :: Y)).filter p).length ≤ ((X ++ y :: Y).filter p).length + 1 := by
        by_cases pa : p a = true
        · rw [List.filter_cons_of_pos pa]
          exact Nat.le_refl _
        · rw [List.filter_cons_of_neg pa]
          omega
      rw [List.length_cons]
      omega
section
variable {N : Nat} {T : List (Int × Int)} (hT : Ties (N : Int) T)
include hT
theorem long {c : List Int} : ∀ (n : Nat) (x : Int) (l : List Int), c.length ≤ n + l.length → Lnk T (x :: l) → (x :: l).Nodup → (∀ y ∈ x :: l, y ∈ c) → ∃ x l, Lnk T (x :: l) ∧ (x :: l).Nodup ∧ (∀ y ∈ x :: l, y ∈ c) ∧ ∀ y ∈ c, tB T x y = true → y ∈ l := by
  intro n
  induction n with
  | zero =>
    intro x l h h1 h2 h3
    have := nodup_le h2 h3
    rw [List.length_cons] at this
    omega
  | succ n ih =>
    intro x l h h1 h2 h3
    by_cases hall : ∀ y ∈ c, tB T x y = true → y ∈ l
    · exact ⟨x, l, h1, h2, h3, hall⟩
    · obtain ⟨y, hy⟩ := Classical.not_forall.mp hall
      obtain ⟨yc, hy⟩ := Classical.not_imp.mp hy
      obtain ⟨t, hl⟩ := Classical.not_imp.mp hy
      have hne : y ≠ x := fun e => by
        subst e
        rw [tB_self hT y] at t
        cases t
      refine ih y (x :: l) (by rw [List.length_cons]; omega) ⟨by rw [tB_comm]; exact t, h1⟩ (List.nodup_cons.mpr ⟨fun hm => ?_, h2⟩) fun z hz => ?_
      · rcases List.mem_cons.mp hm with e | hm
        · exact hne e
        · exact hl hm
      · rcases List.mem_cons.mp hz with rfl | hz
        · exact yc
        · exact h3 z hz
theorem core_long {k : Int} {c : List Int} (hr : Row (N : Int) c) (hne : c ≠ []) (h : CoreL T k c) : ∃ x l, Lnk T (x :: l) ∧ (x :: l).Nodup ∧ InN N (x :: l) ∧ k ≤ (((l.filter (tB T x)).length : Nat) : Int) := by
  obtain ⟨x0, hx0⟩ := List.exists_mem_of_ne_nil _ hne
  obtain ⟨x, l, h1, h2, h3, h4⟩ := long hT (c := c) c.length x0 [] (Nat.le_add_right _ _) trivial (by simp) fun y hy => by rw [List.mem_singleton.mp hy]; exact hx0
  refine ⟨x, l, h1, h2, fun y hy => hr.rng y (h3 y hy), ?_⟩
  have g := h x (h3 x (by simp))
  rw [List.countP_eq_length_filter] at g
  have := nodup_le (xs := l.filter (tB T x)) (F := c.filter (tB T x)) (hr.nd.sublist List.filter_sublist) fun y hy => by
    obtain ⟨a, b⟩ := List.mem_filter.mp hy
    exact List.mem_filter.mpr ⟨h4 y a b, b⟩
  omega
theorem seg_ring {x a b : Int} {l X M Y : List Int} (e : l = X ++ a :: (M ++ b :: Y)) (hl : Lnk T (x :: l)) (nd : (x :: l).Nodup) (ta : tB T x a = true) (tb : tB T x b = true) {R : Int → Prop} (hR : R ((M.length + 3 : Nat) : Int)) : ∃ d, shRing N T R d := by
  subst e
  have h1 : Lnk T (a :: (M ++ b :: Y)) := lnk_snd (X := X) (lnk_tl hl)
  have h2 : Lnk T (a :: (M ++ [b])) := lnk_fst (X := a :: (M ++ [b])) (Y := Y) (by simpa using h1)
  refine ring_of hT (u := x) (v := b) (l := a :: M) ⟨ta, h2⟩ ?_ (by rw [tB_comm]; exact tb) (by rw [List.length_cons]; exact hR)
  refine nd.sublist (List.Sublist.cons_cons x ?_)
  have s : (a :: (M ++ [b])).Sublist (a :: (M ++ b :: Y)) := List.Sublist.cons_cons a (List.Sublist.append (List.Sublist.refl M) (List.Sublist.cons_cons b (List.nil_sublist Y)))
  exact s.trans (List.sublist_append_right X _)
theorem core_ring {k : Int} (hk : 2 ≤ k) {c : List Int} (hr : Row (N : Int) c) (hne : c ≠ []) (h : CoreL T k c) : ∃ d, shRing N T (fun n => k + 1 ≤ n) d := by
  obtain ⟨x, l, h1, h2, h3, h4⟩ := core_long hT hr hne h
  have hn0 : l.filter (tB T x) ≠ [] := fun e => by
    rw [e] at h4
    have : k ≤ 0 := h4
    omega
  obtain ⟨X, y, Y, rfl, ty, hl⟩ := last_split hn0
  have h1' : Lnk T (x :: (X ++ [y])) := lnk_fst (X := x :: (X ++ [y])) (Y := Y) (by simpa using h1)
  refine ring_of hT (u := x) (v := y) (l := X) h1' ?_ (by rw [tB_comm]; exact ty) (by show k + 1 ≤ _; omega)
  refine h2.sublist (List.Sublist.cons_cons x (List.Sublist.append (List.Sublist.refl X) (List.Sublist.cons_cons y (List.nil_sublist Y))))
theorem core_line {k : Int} {c : List Int} (hr : Row (N : Int) c) (hne : c ≠ []) (h : CoreL T k c) : ∃ l, Lnk T l ∧ l.Nodup ∧ InN N l ∧ k + 1 ≤ (l.length : Int) := by
  obtain ⟨x, l, h1, h2, h3, h4⟩ := core_long hT hr hne h
  have := List.length_filter_le (tB T x) l
  exact ⟨x :: l, h1, h2, h3, by rw [List.length_cons]; omega⟩
theorem core_even {k : Int} (hk : 3 ≤ k) {c : List Int} (hr : Row (N : Int) c) (hne : c ≠ []) (h : CoreL T k c) : ∃ d, shRing N T (fun n => 4 ≤ n ∧ n % 2 = 0) d := by
  obtain ⟨x, l, h1, h2, h3, h4⟩ := core_long hT hr hne h
  cases e1 : l.filter (tB T x) with
  | nil =>
    rw [e1] at h4
    have : k ≤ 0 := h4
    omega
  | cons a f =>
  obtain ⟨X, l1, rfl, _, ta, e2⟩ := List.filter_eq_cons_iff.mp e1
  rw [e1] at h4
  cases f with
  | nil =>
    have : k ≤ 1 := h4
    omega
  | cons b f =>
  obtain ⟨Y, l2, rfl, _, tb, e3⟩ := List.filter_eq_cons_iff.mp e2
  cases f with
  | nil =>
    have : k ≤ 2 := h4
    omega
  | cons c' f =>
  obtain ⟨Z, W, rfl, _, tc, _⟩ := List.filter_eq_cons_iff.mp e3
  by_cases pY : Y.length % 2 = 1
  · exact seg_ring hT (X := X) (M := Y) (Y := Z ++ c' :: W) rfl h1 h2 ta tb ⟨by omega, by omega⟩
  by_cases pZ : Z.length % 2 = 1
  · exact seg_ring hT (X := X ++ a :: Y) (a := b) (b := c') (M := Z) (Y := W) (by simp) h1 h2 tb tc ⟨by omega, by omega⟩
  · refine seg_ring hT (X := X) (M := Y ++ b :: Z) (b := c') (Y := W) (by simp) h1 h2 ta tc ⟨?_, ?_⟩ <;> (rw [List.length_append, List.length_cons]; omega)
/-- who is linked by a number has so many ties -/
theorem link_deg {k : Int} {d : D} (h : shLinked N T k d) : CoreL T k (upto (N : Int)) := by
  obtain ⟨_, hk, hh⟩ := h
  intro x hx
  refine Classical.byContradiction fun hc => ?_
  have hx' := (upto_row (N : Int)).rng x hx
  have el : ((upto (N : Int)).filter (tB T x)).length = (upto (N : Int)).countP (tB T x) := List.countP_eq_length_filter.symm
  have hh := hh ((upto (N : Int)).filter (tB T x)) List.filter_sublist (by omega)
  have mem : ∀ y, y ∈ outN N ((upto (N : Int)).filter (tB T x)) ↔ y ∈ upto (N : Int) ∧ tB T x y = false := fun y => by
    rw [List.mem_filter, Bool.not_eq_true', decide_eq_false_iff_not, List.mem_filter]
    constructor
    · rintro ⟨a, b⟩
      exact ⟨a, by
        cases e : tB T x y with
        | false => rfl
        | true => exact absurd ⟨a, e⟩ b⟩
    · rintro ⟨a, b⟩
      exact ⟨a, fun g => by rw [b] at g; cases g.2⟩
  have hxo : x ∈ outN N ((upto (N : Int)).filter (tB T x)) := (mem x).mpr ⟨hx, tB_self hT x⟩
  have hup : (upto (N : Int)).length = N := by rw [upto_map, List.length_map, List.length_range]
  obtain ⟨y, hy, hyx⟩ : ∃ y, y ∈ outN N ((upto (N : Int)).filter (tB T x)) ∧ y ≠ x := by
    refine Classical.byContradiction fun hno => ?_
    have hall : ∀ y ∈ (upto (N : Int)), y ∈ x :: (upto (N : Int)).filter (tB T x) := fun y hy => by
      by_cases e : y = x
      · simp [e]
      · cases t : tB T x y with
        | false => exact absurd ⟨y, (mem y).mpr ⟨hy, t⟩, e⟩ hno
        | true => exact List.mem_cons_of_mem _ (List.mem_filter.mpr ⟨hy, t⟩)
    have := nodup_le (upto_row (N : Int)).nd hall
    rw [List.length_cons, el] at this
    omega
  by_cases h0 : (outN N ((upto (N : Int)).filter (tB T x)))[0]? = some x
  · refine hyx (hh (fun z => z = x) (fun f hf => ?_) (fun a b ha hb ua t => ?_) y hy)
    · rw [h0] at hf
      exact (Option.some.inj hf).symm
    · subst ua
      have := ((mem b).mp hb).2
      rw [this] at t
      cases t
  · refine hh (fun z => z ≠ x) (fun f hf e => h0 (by rw [hf, e])) (fun a b ha hb ua t e => ?_) x hxo rfl
    subst e
    have := ((mem a).mp ha).2
    rw [tB_comm, this] at t
    cases t
end
end LW
namespace LW
open PySem PySem.Spec L2 TL DL
open PyProof.Rows hiding pairD cutD
open Tk
structure Pf where
  crowd : Nat
  star : Nat
  pairs : Nat
  row : Nat
  core : Nat
  ring : Nat
  linked : Nat
  odd : Bool
  even : Bool
structure Has (N : Nat) (T : List (Int × Int)) (P : Pf) : Prop where
  crowd : ∃ d, shCrowd N T (P.crowd : Int) d
  star : ∃ d, shStar N T (P.star : Int) d
  pairs : ∃ d, shPairs T (P.pairs : Int) d
  row : ∃ d, shRow N T (P.row : Int) d
  core : ∃ d, shCore N T (P.core : Int) d
  ring : 3 ≤ P.ring → ∃ d, shRing N T (fun n => (P.ring : Int) ≤ n) d
  linked : 1 ≤ P.linked → ∃ d, shLinked N T (P.linked : Int) d
  odd : P.odd = true → ∃ d, shRing N T (fun n => 3 ≤ n ∧ n % 2 = 1) d
  even : P.even = true → ∃ d, shRing N T (fun n => 4 ≤ n ∧ n % 2 = 0) d
section
variable {N : Nat} {T : List (Int × Int)}
theorem pth_lk {st : Int → Prop} {lo : Int} {r : List Int} {p : Int} (h : Pth T st lo r p) : Lnk T r ∧ ∃ X, r = X ++ [p] := by
  induction h with
  | one p hp => exact ⟨trivial, [], rfl⟩
  | @snoc r q p hq ht hl hp ih =>
    obtain ⟨h1, X, e⟩ := ih
    refine ⟨?_, r, rfl⟩
    rw [e] at h1 ⊢
    exact lnk_join (Y := []) h1 trivial ht
theorem pth_hd {f : Int} {r : List Int} {p : Int} {lo : Int} (h : Pth T (onlyP f) lo r p) : ∃ m, r = f :: m := by
  induction h with
  | one p hp => exact ⟨[], by rw [show p = f from hp]⟩
  | @snoc r q p hq ht hl hp ih =>
    obtain ⟨m, rfl⟩ := ih
    exact ⟨m ++ [p], rfl⟩
theorem ring_list (hT : Ties (N : Int) T) {R : Int → Prop} (hR : ∀ n, R n → 3 ≤ n) {d : D} (h : shRing N T R d) : ∃ f M p, Lnk T (f :: (M ++ [p])) ∧ (f :: (M ++ [p])).Nodup ∧ InN N (f :: (M ++ [p])) ∧ tB T p f = true ∧ R ((M.length + 2 : Nat) : Int) ∧ M ≠ [] := by
  obtain ⟨f, r, p, hf, rfl, hp, hr, t⟩ := h
  obtain ⟨h1, X, rfl⟩ := pth_lk hp
  obtain ⟨m, e⟩ := pth_hd hp
  have nd := hp.nd
  have rg := hp.rng hT (fun p hp => by rw [hp]; exact hf)
  have h3 := hR _ hr
  cases X with
  | nil =>
    have : (3 : Int) ≤ 1 := h3
    omega
  | cons x M =>
    obtain rfl : x = f := (List.cons.inj e).1
    have hl : ((x :: M) ++ [p]).length = M.length + 2 := by simp
    rw [hl] at hr h3
    refine ⟨x, M, p, h1, nd, rg, t, hr, fun e => ?_⟩
    subst e
    have : (3 : Int) ≤ 2 := h3
    omega
theorem two_cnt {x a b : Int} {r : List Int} (ha : a ∈ r) (hb : b ∈ r) (hne : a ≠ b) (ta : tB T x a = true) (tb : tB T x b = true) : (2 : Int) ≤ ((r.countP (tB T x) : Nat) : Int) := by
  rw [List.countP_eq_length_filter]
  have := nodup_le (xs := r.filter (tB T x)) (F := [a, b]) (by simp [hne]) fun y hy => by
    simp only [List.mem_cons, List.not_mem_nil, or_false] at hy
    rcases hy with rfl | rfl
    · exact List.mem_filter.mpr ⟨ha, ta⟩
    · exact List.mem_filter.mpr ⟨hb, tb⟩
  have : 2 ≤ (r.filter (tB T x)).length := this
  omega
theorem ring_two {f p : Int} {M : List Int} (h1 : Lnk T (f :: (M ++ [p]))) (nd : (f :: (M ++ [p])).Nodup) (t : tB T p f = true) (hM : M ≠ []) : CoreL T 2 (f :: (M ++ [p])) := by
  intro x hx
  rcases List.mem_cons.mp hx with rfl | hx
  · cases M with
    | nil => exact absurd rfl hM
    | cons m M =>
      refine two_cnt (a := m) (b := p) (by simp) (by simp) (fun e => ?_) h1.1 (by rw [tB_comm]; exact t)
      subst e
      have := (List.nodup_cons.mp (List.nodup_cons.mp nd).2).1
      exact this (by simp)
  rcases List.mem_append.mp hx with hx | hx
  · obtain ⟨X, Y, rfl⟩ := List.append_of_mem hx
    obtain ⟨A, a, eA⟩ : ∃ A a, f :: X = A ++ [a] := ⟨(f :: X).dropLast, (f :: X).getLast (by simp), (List.dropLast_concat_getLast (by simp)).symm⟩
    obtain ⟨b, B, eB⟩ : ∃ b B, Y ++ [p] = b :: B := by
      cases Y with
      | nil => exact ⟨p, [], rfl⟩
      | cons b Y => exact ⟨b, Y ++ [p], rfl⟩
    have e : f :: ((X ++ x :: Y) ++ [p]) = A ++ [a] ++ (x :: b :: B) := by
      rw [← eA, ← eB]
      simp
    rw [e] at h1 nd ⊢
    have ta := lnk_mid h1
    have tb : tB T x b = true := (lnk_snd (X := A ++ [a]) h1).1
    refine two_cnt (a := a) (b := b) (by simp) (by simp) (fun e => ?_) (by rw [tB_comm]; exact ta) tb
    subst e
    exact (List.nodup_append.mp nd).2.2 a (by simp) a (by simp) rfl
  · obtain rfl := List.mem_singleton.mp hx
    obtain ⟨A, a, eA⟩ : ∃ A a, M = A ++ [a] := ⟨M.dropLast, M.getLast hM, (List.dropLast_concat_getLast hM).symm⟩
    subst eA
    have e : f :: ((A ++ [a]) ++ [x]) = (f :: A) ++ [a] ++ [x] := by simp
    have h1' := h1
    rw [e] at h1'
    have ta := lnk_mid (X := f :: A) (Y := []) h1'
    refine two_cnt (a := f) (b := a) (by simp) (by simp) (fun e => ?_) t (by rw [tB_comm]; exact ta)
    subst e
    exact (List.nodup_cons.mp nd).1 (by simp)
theorem pw_lnk : ∀ {zs : List Int}, TiedP T zs → Lnk T zs
  | [], _ => trivial
  | [_], _ => trivial
  | a :: b :: zs, h => by
    obtain ⟨h1, h2⟩ := List.pairwise_cons.mp h
    exact ⟨h1 b (by simp), pw_lnk h2⟩
variable (hT : Ties (N : Int) T)
include hT
theorem line_has {l : List Int} (h1 : Lnk T l) (h2 : l.Nodup) (h3 : InN N l) (hl : 2 ≤ l.length) : (∃ d, shCrowd N T 2 d) ∧ (∃ d, shStar N T 1 d) ∧ (3 ≤ l.length → ∃ d, shStar N T 2 d) ∧ ∃ d, shCore N T 1 d := by
  match l, h1, h2, h3, hl with
  | a :: b :: l, h1, h2, h3, _ =>
    have hab : a ≠ b := fun e => (List.nodup_cons.mp h2).1 (by simp [e])
    have t : tB T a b = true := h1.1
    have t' : tB T b a = true := by rw [tB_comm]; exact t
    have hr : Row (N : Int) [a, b] := ⟨by simp [hab], fun x hx => h3 x (by simp only [List.mem_cons, List.not_mem_nil, or_false] at hx ⊢; rcases hx with rfl | rfl <;> simp)⟩
    refine ⟨?_, ?_, fun h => ?_, ?_⟩
    · refine crowd_of (N := N) hT (xs := [a, b]) hr fun x hx y hy hne => ?_
      simp only [List.mem_cons, List.not_mem_nil, or_false] at hx hy
      rcases hx with rfl | rfl <;> rcases hy with rfl | rfl <;> first | exact absurd rfl hne | assumption
    · exact star_of hT (p := a) (h3 a (by simp)) (ys := [b]) (by simp) (fun y hy => by rw [List.mem_singleton.mp hy]; exact t) (by simp)
    · cases l with
      | nil => simp at h
      | cons c l =>
        have hac : a ≠ c := fun e => (List.nodup_cons.mp h2).1 (by simp [e])
        refine star_of hT (p := b) (h3 b (by simp)) (ys := [a, c]) (by simp [hac]) (fun y hy => ?_) (by simp)
        simp only [List.mem_cons, List.not_mem_nil, or_false] at hy
        rcases hy with rfl | rfl
        · exact t'
        · exact h1.2.1
    · refine core_of hT (xs := [a, b]) hr (by simp) fun p hp => ?_
      simp only [List.mem_cons, List.not_mem_nil, or_false] at hp
      rcases hp with rfl | rfl
      · have : 1 ≤ [p, b].countP (tB T p) := by rw [List.countP_cons, List.countP_cons, t]; simp
        omega
      · have : 1 ≤ [a, p].countP (tB T p) := by rw [List.countP_cons, t']; simp
        omega
/-- what a row of so many gives -/
theorem has_line {l : List Int} (h1 : Lnk T l) (h2 : l.Nodup) (h3 : InN N l) {k : Nat} (h : 2 ≤ k) (hl : k ≤ l.length) : Has N T ⟨2, if 3 ≤ k then 2 else 1, k / 2, k, 1, 0, 0, false, false⟩ := by
  obtain ⟨a, b, c, d⟩ := line_has hT h1 h2 h3 (by omega)
  refine ⟨a, ?_, pairs_of_row hT h1 h2 h3 (by show k / 2 ≤ _; omega), row_of h1 h2 h3 (by show 1 ≤ k; omega) hl, d, fun h => absurd h (by show ¬ 3 ≤ 0; omega), fun h => absurd h (by show ¬ 1 ≤ 0; omega), fun h => (by cases h), fun h => (by cases h)⟩
  show ∃ d, shStar N T ((if 3 ≤ k then 2 else 1 : Nat) : Int) d
  split
  · exact c (by omega)
  · exact b
theorem src_row {k : Nat} (hk : 2 ≤ k) (h : ∃ d, shRow N T (k : Int) d) : Has N T ⟨2, if 3 ≤ k then 2 else 1, k / 2, k, 1, 0, 0, false, false⟩ := by
  obtain ⟨_, r, p, rfl, hp, hl⟩ := h
  exact has_line hT (pth_lk hp).1 hp.nd (hp.rng hT fun _ h => h) hk (by omega)
theorem src_pairs {k : Nat} (hk : 1 ≤ k) (h : ∃ d, shPairs T (k : Int) d) : Has N T ⟨2, 1, k, 2, 1, 0, 0, false, false⟩ := by
  obtain ⟨_, V, rfl, hs, ha, hl⟩ := id h
  cases V with
  | nil =>
    have : (0 : Int) = k := hl
    omega
  | cons p V =>
    have hp : p ∈ T := hs.subset (by simp)
    have r := hT.rng p hp
    have t : tB T p.1 p.2 = true := by rw [tB_lt r.2.1]; exact decide_eq_true hp
    have g := has_line hT (l := [p.1, p.2]) ⟨t, trivial⟩ (by simp; omega) (fun x hx => by simp only [List.mem_cons, List.not_mem_nil, or_false] at hx; rcases hx with rfl | rfl <;> omega) (k := 2) (by omega) (by simp)
    exact { g with pairs := h }
theorem src_star {k : Nat} (hk : 1 ≤ k) (h : ∃ d, shStar N T (k : Int) d) : Has N T ⟨2, k, 1, if 2 ≤ k then 3 else 2, 1, 0, 0, false, false⟩ := by
  obtain ⟨_, p, hp, hl, rfl⟩ := id h
  have nd := nbL_nd hT p
  have mem : ∀ y ∈ nbL T p, tB T p y = true := fun y hy => (nbL_mem hT).mp hy
  cases e : nbL T p with
  | nil =>
    rw [e] at hl
    have : (k : Int) ≤ 0 := hl
    omega
  | cons a ys =>
  rw [e] at nd mem hl
  have ta := mem a (by simp)
  have ra := (tB_rng hT ta).2
  have hpa : p ≠ a := fun e => by
    subst e
    rw [tB_self hT p] at ta
    cases ta
  by_cases h2 : 2 ≤ k
  · cases ys with
    | nil =>
      have : (k : Int) ≤ 1 := hl
      omega
    | cons b ys =>
      have tb := mem b (by simp)
      have rb := (tB_rng hT tb).2
      have hpb : p ≠ b := fun e => by
        subst e
        rw [tB_self hT p] at tb
        cases tb
      have hab : a ≠ b := fun e => (List.nodup_cons.mp nd).1 (by simp [e])
      have g := has_line hT (l := [a, p, b]) ⟨by rw [tB_comm]; exact ta, tb, trivial⟩ (by simp [hab, hpb, Ne.symm hpa]) (fun x hx => by simp only [List.mem_cons, List.not_mem_nil, or_false] at hx; rcases hx with rfl | rfl | rfl <;> assumption) (k := 3) (by omega) (by simp)
      have e3 : (if 2 ≤ k then 3 else 2) = 3 := if_pos h2
      rw [e3]
      exact { g with star := h }
  · have g := has_line hT (l := [p, a]) ⟨ta, trivial⟩ (by simp [hpa]) (fun x hx => by simp only [List.mem_cons, List.not_mem_nil, or_false] at hx; rcases hx with rfl | rfl <;> assumption) (k := 2) (by omega) (by simp)
    have e3 : (if 2 ≤ k then 3 else 2) = 2 := if_neg h2
    rw [e3]
    exact { g with star := h }
theorem src_core {k : Nat} (hk : 1 ≤ k) (h : ∃ d, shCore N T (k : Int) d) : Has N T ⟨2, k, (k + 1) / 2, k + 1, k, if 2 ≤ k then k + 1 else 0, 0, false, decide (3 ≤ k)⟩ := by
  obtain ⟨_, c, rfl, hne, hs, hc⟩ := id h
  have hr := sub_row hs
  obtain ⟨l, h1, h2, h3, h4⟩ := core_line hT hr hne hc
  have g := has_line hT h1 h2 h3 (k := k + 1) (by omega) (by omega)
  refine { g with core := h, star := ?_, ring := fun h => ?_, even := fun h => ?_ }
  · obtain ⟨x, hx⟩ := List.exists_mem_of_ne_nil _ hne
    have := hc x hx
    rw [List.countP_eq_length_filter] at this
    exact star_of hT (hr.rng x hx) (hr.nd.sublist List.filter_sublist) (fun y hy => (List.mem_filter.mp hy).2) this
  · have h : 3 ≤ (if 2 ≤ k then k + 1 else 0) := h
    show ∃ d, shRing N T (fun n => ((if 2 ≤ k then k + 1 else 0 : Nat) : Int) ≤ n) d
    split at h
    · rw [if_pos (by omega)]
      obtain ⟨d, hd⟩ := core_ring hT (k := (k : Int)) (by omega) hr hne hc
      exact ⟨d, hd⟩
    · omega
  · exact core_even hT (k := (k : Int)) (by have := of_decide_eq_true h; omega) hr hne hc
theorem src_linked {k : Nat} (hk : 1 ≤ k) (h : ∃ d, shLinked N T (k : Int) d) : Has N T ⟨2, k, (k + 1) / 2, k + 1, k, if 2 ≤ k then k + 1 else 0, k, false, decide (3 ≤ k)⟩ := by
  obtain ⟨d, hd⟩ := id h
  have hN : (k : Int) < N := hd.2.1
  have hup : (upto (N : Int)).length = N := by rw [upto_map, List.length_map, List.length_range]
  have g := src_core hT hk ⟨_, upto (N : Int), rfl, fun e => by rw [e] at hup; have : 0 = N := hup; omega, List.Sublist.refl _, link_deg hT hd⟩
  exact { g with linked := fun _ => h }
theorem ring_has {R : Int → Prop} (hR : ∀ n, R n → 3 ≤ n) {k : Nat} (hk : 3 ≤ k) (hRk : ∀ n, R n → (k : Int) ≤ n) (h : ∃ d, shRing N T R d) : Has N T ⟨2, 2, k / 2, k, 2, k, 0, false, false⟩ := by
  obtain ⟨d, hd⟩ := h
  obtain ⟨f, M, p, h1, h2, h3, t, hr, hM⟩ := ring_list hT hR hd
  have hl : (f :: (M ++ [p])).length = M.length + 2 := by simp
  have hlk := hRk _ hr
  have g := has_line hT h1 h2 h3 (k := k) (by omega) (by omega)
  rw [if_pos hk] at g
  refine { g with core := core_of hT ⟨h2, h3⟩ (by simp) (ring_two h1 h2 t hM), ring := fun _ => ring_of hT (u := f) (l := M) (v := p) h1 h2 t hlk }
theorem src_ring {k : Nat} (hk : 3 ≤ k) (h : ∃ d, shRing N T (fun n => (k : Int) ≤ n) d) : Has N T ⟨2, 2, k / 2, k, 2, k, 0, false, false⟩ :=
  ring_has hT (fun n h => by omega) hk (fun n h => h) h
theorem src_odd (h : ∃ d, shRing N T (fun n => 3 ≤ n ∧ n % 2 = 1) d) : Has N T ⟨2, 2, 1, 3, 2, 3, 0, true, false⟩ := by
  have g := ring_has hT (fun n h => h.1) (k := 3) (by omega) (fun n h => h.1) h
  exact { g with odd := fun _ => h }
theorem src_even (h : ∃ d, shRing N T (fun n => 4 ≤ n ∧ n % 2 = 0) d) : Has N T ⟨2, 2, 2, 4, 2, 4, 0, false, true⟩ := by
  have g := ring_has hT (fun n h => by omega) (k := 4) (by omega) (fun n h => h.1) h
  exact { g with even := fun _ => h }
theorem src_crowd {k : Nat} (hk : 2 ≤ k) (h : ∃ d, shCrowd N T (k : Int) d) : Has N T ⟨k, k - 1, k / 2, k, k - 1, if 3 ≤ k then k else 0, 0, decide (3 ≤ k), decide (4 ≤ k)⟩ := by
  obtain ⟨_, zs, rfl, hs, ht, hl⟩ := id h
  have hr := sub_row hs
  have hl : zs.length = k := by omega
  have lk := pw_lnk ht
  have g := has_line hT lk hr.nd hr.rng (k := k) hk (by omega)
  have deg : ∀ x ∈ zs, ∃ ys : List Int, ys.Nodup ∧ (∀ y ∈ ys, y ∈ zs ∧ tB T x y = true) ∧ ys.length = k - 1 := fun x hx => by
    refine ⟨zs.erase x, hr.nd.erase x, fun y hy => ?_, by rw [List.length_erase_of_mem hx, hl]⟩
    obtain ⟨a, b⟩ := (List.Nodup.mem_erase_iff hr.nd).mp hy
    exact ⟨b, pw_ne ht x hx y b (Ne.symm a)⟩
  have hne : zs ≠ [] := fun e => by
    subst e
    have : 0 = k := hl
    omega
  refine { g with crowd := h, star := ?_, core := ?_, ring := fun h => ?_, odd := fun h => ?_, even := fun h => ?_ }
  · obtain ⟨x, hx⟩ := List.exists_mem_of_ne_nil _ hne
    obtain ⟨ys, y1, y2, y3⟩ := deg x hx
    exact star_of hT (hr.rng x hx) y1 (fun y hy => (y2 y hy).2) (by show ((k - 1 : Nat) : Int) ≤ _; omega)
  · refine core_of hT hr hne fun x hx => ?_
    obtain ⟨ys, y1, y2, y3⟩ := deg x hx
    rw [List.countP_eq_length_filter]
    have := nodup_le (xs := zs.filter (tB T x)) y1 fun y hy => List.mem_filter.mpr (y2 y hy)
    show ((k - 1 : Nat) : Int) ≤ _
    omega
  · have h : 3 ≤ (if 3 ≤ k then k else 0) := h
    show ∃ d, shRing N T (fun n => ((if 3 ≤ k then k else 0 : Nat) : Int) ≤ n) d
    split at h
    · rw [if_pos (by omega)]
      match zs, hl with
      | [], hl => simp at hl; omega
      | [a], hl => simp at hl; omega
      | a :: b :: zs, hl =>
        obtain ⟨M, p, e⟩ : ∃ M p, b :: zs = M ++ [p] := ⟨(b :: zs).dropLast, (b :: zs).getLast (by simp), (List.dropLast_concat_getLast (by simp)).symm⟩
        have hp : p ∈ b :: zs := by rw [e]; simp
        have hap : a ≠ p := fun e2 => (List.nodup_cons.mp hr.nd).1 (by rw [e2]; exact hp)
        have tp := pw_ne ht p (List.mem_cons_of_mem _ hp) a (by simp) (Ne.symm hap)
        have hlen := congrArg List.length e
        simp at hlen hl
        rw [e] at lk hr
        exact ring_of hT (u := a) (l := M) (v := p) lk hr.nd tp (by show (k : Int) ≤ _; omega)
    · omega
  · have h := of_decide_eq_true h
    match zs, hl with
    | [], hl => simp at hl; omega
    | [a], hl => simp at hl; omega
    | [a, b], hl => simp at hl; omega
    | a :: b :: c :: zs, hl =>
      have nd := hr.nd
      have hac : a ≠ c := fun e => (List.nodup_cons.mp nd).1 (by simp [e])
      exact ring_of hT (u := a) (l := [b]) (v := c) (lnk_fst (X := [a, b, c]) (Y := zs) lk) (nd.sublist (List.sublist_append_left [a, b, c] zs)) (pw_ne ht c (by simp) a (by simp) (Ne.symm hac)) ⟨by simp, by simp⟩
  · have h := of_decide_eq_true h
    match zs, hl with
    | [], hl => simp at hl; omega
    | [a], hl => simp at hl; omega
    | [a, b], hl => simp at hl; omega
    | [a, b, c], hl => simp at hl; omega
    | a :: b :: c :: e :: zs, hl =>
      have nd := hr.nd
      have hac : a ≠ e := fun e => (List.nodup_cons.mp nd).1 (by simp [e])
      exact ring_of hT (u := a) (l := [b, c]) (v := e) (lnk_fst (X := [a, b, c, e]) (Y := zs) lk) (nd.sublist (List.sublist_append_left [a, b, c, e] zs)) (pw_ne ht e (by simp) a (by simp) (Ne.symm hac)) ⟨by simp, by simp⟩
end
end LW
namespace LW
open PySem PySem.Spec L2 TL DL
open PyProof.Rows hiding pairD cutD
open Tk
def pfN (kd : Str) (n : Nat) : Pf :=
  if kd = "crowd" then ⟨n, n - 1, n / 2, n, n - 1, if 3 ≤ n then n else 0, 0, decide (3 ≤ n), decide (4 ≤ n)⟩
  else if kd = "star" then ⟨2, n, 1, if 2 ≤ n then 3 else 2, 1, 0, 0, false, false⟩
  else if kd = "pairs" then ⟨2, 1, n, 2, 1, 0, 0, false, false⟩
  else if kd = "row" then ⟨2, if 3 ≤ n then 2 else 1, n / 2, n, 1, 0, 0, false, false⟩
  else if kd = "ring" then ⟨2, 2, n / 2, n, 2, n, 0, false, false⟩
  else if kd = "core" then ⟨2, n, (n + 1) / 2, n + 1, n, if 2 ≤ n then n + 1 else 0, 0, false, decide (3 ≤ n)⟩
  else ⟨2, n, (n + 1) / 2, n + 1, n, if 2 ≤ n then n + 1 else 0, n, false, decide (3 ≤ n)⟩
def pfOf (kd : Str) : D → Pf
  | .int k => pfN kd k.toNat
  | _ => if kd = "odd ring" then ⟨2, 2, 1, 3, 2, 3, 0, true, false⟩ else ⟨2, 2, 2, 4, 2, 4, 0, false, true⟩
def gOf (P : Pf) (kd : Str) : Nat :=
  if kd = "crowd" then P.crowd else if kd = "star" then P.star else if kd = "pairs" then P.pairs else if kd = "row" then P.row else if kd = "ring" then P.ring else if kd = "core" then P.core else P.linked
def folB (P : Pf) (kd : Str) : D → Bool
  | .int j => decide (j ≤ (gOf P kd : Int))
  | _ => if kd = "odd ring" then P.odd else P.even
def kinds7 : List Str := ["crowd", "star", "pairs", "row", "ring", "core", "linked"]
def mapR {α β : Type} (f : α → β) : List α → List β
  | [] => []
  | x :: l => f x :: mapR f l
theorem of_table {α β : Type} {f g : α → β} : ∀ {l : List α}, l.map f = mapR g l → ∀ x ∈ l, f x = g x
  | [], _, x, hx => by cases hx
  | a :: l, h, x, hx => by
    have h : f a :: l.map f = g a :: mapR g l := h
    rcases List.mem_cons.mp hx with rfl | hx
    · exact (List.cons.inj h).1
    · exact of_table (List.cons.inj h).2 x hx
section
variable {N : Nat} {T : List (Int × Int)} (hT : Ties (N : Int) T)
include hT
theorem has_of {kd : Str} {z : D} {sh : D → Prop} (h : FK N T kd z sh) (he : ∃ e, sh e) : Has N T (pfOf kd z) := by
  cases h with
  | crowd k h2 => obtain ⟨n, rfl⟩ := Int.eq_ofNat_of_zero_le (show 0 ≤ k by omega); exact src_crowd hT (k := n) (by omega) he
  | star k h2 => obtain ⟨n, rfl⟩ := Int.eq_ofNat_of_zero_le (show 0 ≤ k by omega); exact src_star hT (k := n) (by omega) he
  | pairs k h2 => obtain ⟨n, rfl⟩ := Int.eq_ofNat_of_zero_le (show 0 ≤ k by omega); exact src_pairs hT (k := n) (by omega) he
  | row k h2 => obtain ⟨n, rfl⟩ := Int.eq_ofNat_of_zero_le (show 0 ≤ k by omega); exact src_row hT (k := n) (by omega) he
  | ring k h2 h3 => obtain ⟨n, rfl⟩ := Int.eq_ofNat_of_zero_le (show 0 ≤ k by omega); exact src_ring hT (k := n) (by omega) he
  | core k h2 => obtain ⟨n, rfl⟩ := Int.eq_ofNat_of_zero_le (show 0 ≤ k by omega); exact src_core hT (k := n) (by omega) he
  | linked k h2 => obtain ⟨n, rfl⟩ := Int.eq_ofNat_of_zero_le (show 0 ≤ k by omega); exact src_linked hT (k := n) (by omega) he
  | odd => exact src_odd hT he
  | even => exact src_even hT he
theorem has_fk {P : Pf} (g : Has N T P) {kd : Str} {z : D} {sh : D → Prop} (h : FK N T kd z sh) (hf : folB P kd z = true) : ∃ e, sh e := by
  cases h with
  | crowd k h2 =>
    have hf : k ≤ (P.crowd : Int) := of_decide_eq_true hf
    obtain ⟨_, zs, rfl, hs, ht, hl⟩ := g.crowd
    refine ⟨_, zs.take k.toNat, rfl, (List.take_sublist ..).trans hs, ht.sublist (List.take_sublist ..), ?_⟩
    rw [List.length_take]
    omega
  | star k h2 =>
    have hf : k ≤ (P.star : Int) := of_decide_eq_true hf
    obtain ⟨_, p, hp, hl, rfl⟩ := g.star
    exact ⟨_, p, hp, by omega, rfl⟩
  | pairs k h2 =>
    have hf : k ≤ (P.pairs : Int) := of_decide_eq_true hf
    obtain ⟨n, rfl⟩ := Int.eq_ofNat_of_zero_le (show 0 ≤ k by omega)
    exact (br_pairs hT n).mpr (mt_less ((br_pairs hT _).mp g.pairs) n (by omega))
  | row k h2 =>
    have hf : k ≤ (P.row : Int) := of_decide_eq_true hf
    obtain ⟨n, rfl⟩ := Int.eq_ofNat_of_zero_le (show 0 ≤ k by omega)
    obtain ⟨_, r, p, rfl, hp, hl⟩ := g.row
    exact row_of (pth_lk hp).1 hp.nd (hp.rng hT fun _ h => h) (by omega) (by omega)
  | ring k h2 h3 =>
    have hf : k ≤ (P.ring : Int) := of_decide_eq_true hf
    obtain ⟨d, f, r, p, h4, h5, h6, h7, h8⟩ := g.ring (by omega)
    exact ⟨d, f, r, p, h4, h5, h6, by omega, h8⟩
  | core k h2 =>
    have hf : k ≤ (P.core : Int) := of_decide_eq_true hf
    obtain ⟨d, c, h4, h5, h6, h7⟩ := g.core
    exact ⟨d, c, h4, h5, h6, fun x hx => by have := h7 x hx; omega⟩
  | linked k h2 =>
    have hf : k ≤ (P.linked : Int) := of_decide_eq_true hf
    obtain ⟨d, h4, h5, h6⟩ := g.linked (by omega)
    exact ⟨d, h4, by omega, fun l hl h => h6 l hl (by omega)⟩
  | odd => exact g.odd hf
  | even => exact g.even hf
end
abbrev Prl := List (Int × Int)
theorem fk_uniq {N : Nat} {T : List (Int × Int)} {kd : Str} {z : D} {sh sh' : D → Prop} (h : FK N T kd z sh) (h' : FK N T kd z sh') : sh = sh' := by
  cases h <;> cases h' <;> rfl
/-- whether a party holds it, as a truth -/
noncomputable def hF (kd : Str) (z : D) (N : Nat) (T : Prl) : Bool := @decide (∃ sh, FK N T kd z sh ∧ ∃ e, sh e) (Classical.propDecidable _)
theorem hF_iff {kd : Str} {z : D} {N : Nat} {T : Prl} {sh : D → Prop} (h : FK N T kd z sh) : hF kd z N T = true ↔ ∃ e, sh e := by
  refine (@decide_eq_true_iff _ (Classical.propDecidable _)).trans ⟨fun ⟨sh', h', he⟩ => fk_uniq h' h ▸ he, fun he => ⟨sh, h, he⟩⟩
def prod7 : List ((Str × D) × Str) := (Th 5).flatMap fun a => kinds7.map fun b => (a, b)
def prodR : List ((Str × D) × Str) := (Th 5).flatMap fun a => (["odd ring", "even ring"] : List Str).map fun b => (a, b)
theorem tbl_fol (S : Sto) (j : Int) : prod7.map (fun x => w_follows [ob x.1.1 x.1.2, ob x.2 (.int j)] S) = mapR (fun x => some (.bl (if gOf (pfOf x.1.1 x.1.2) x.2 = 0 then false else decide (j ≤ (gOf (pfOf x.1.1 x.1.2) x.2 : Int))), S)) prod7 := by kernel_rfl
theorem tbl_folR (S : Sto) : prodR.map (fun x => w_follows [ob x.1.1 x.1.2, ob x.2 .non] S) = mapR (fun x => some (.bl (folB (pfOf x.1.1 x.1.2) x.2 .non), S)) prodR := by kernel_rfl
def folT (a b : Str × D) : Bool :=
  match b.2 with
  | .int j => if gOf (pfOf a.1 a.2) b.1 = 0 then false else decide (j ≤ (gOf (pfOf a.1 a.2) b.1 : Int))
  | _ => folB (pfOf a.1 a.2) b.1 .non
theorem k7_of {kd : Str} {lo : Nat} (h : (kd, lo) ∈ KLo) : kd ∈ kinds7 := by
  rcases klo_mem h with ⟨rfl, rfl⟩ | ⟨rfl, rfl⟩ | ⟨rfl, rfl⟩ | ⟨rfl, rfl⟩ | ⟨rfl, rfl⟩ | ⟨rfl, rfl⟩ | ⟨rfl, rfl⟩
  · exact .head _
  · exact .tail _ (.head _)
  · exact .tail _ (.tail _ (.head _))
  · exact .tail _ (.tail _ (.tail _ (.head _)))
  · exact .tail _ (.tail _ (.tail _ (.tail _ (.head _))))
  · exact .tail _ (.tail _ (.tail _ (.tail _ (.tail _ (.head _)))))
  · exact .tail _ (.tail _ (.tail _ (.tail _ (.tail _ (.tail _ (.head _))))))
theorem fol_eq {a b : Str × D} (ha : a ∈ Th 5) (hb : b ∈ Th 5) (S : Sto) : w_follows [ob a.1 a.2, ob b.1 b.2] S = some (.bl (folT a b), S) := by
  rcases th_mem hb with rfl | rfl | ⟨kd, lo, k, h1, h2, h3, rfl⟩
  · exact of_table (tbl_folR S) (a, "odd ring") (List.mem_flatMap.mpr ⟨a, ha, .head _⟩)
  · exact of_table (tbl_folR S) (a, "even ring") (List.mem_flatMap.mpr ⟨a, ha, .tail _ (.head _)⟩)
  · exact of_table (tbl_fol S k) (a, kd) (List.mem_flatMap.mpr ⟨a, ha, List.mem_map.mpr ⟨kd, k7_of h1, rfl⟩⟩)
/-- what follows is held -/
theorem fol_held {a b : Str × D} (hb : b ∈ Th 5) {N : Nat} {T : Prl} (hT : Ties (N : Int) T) {sh sh' : D → Prop} (fa : FK N T a.1 a.2 sh) (fb : FK N T b.1 b.2 sh') (h : folT a b = true) (he : ∃ e, sh e) : ∃ e, sh' e := by
  refine has_fk hT (has_of hT fa he) fb ?_
  rcases th_mem hb with rfl | rfl | ⟨kd, lo, k, h1, h2, h3, rfl⟩
  · exact h
  · exact h
  · have h : (if gOf (pfOf a.1 a.2) kd = 0 then false else decide (k ≤ (gOf (pfOf a.1 a.2) kd : Int))) = true := h
    split at h
    · cases h
    · exact h
end LW
namespace LW
open PySem PySem.Spec L2 TL DL
open PyProof.Rows hiding pairD cutD
open Tk
def zK : D → NestedKey
  | .int k => .num k
  | _ => .none
def kN (p : Str × D) : NestedKey := .tup [.text p.1, zK p.2]
def keyN (a b : Str × D) : NestedKey := .tup [kN a, kN b]
def entT (a b : Str × D) : NestedKey × D := (keyN a b, .bl (folT a b))
theorem th_z {m : Nat} {p : Str × D} (h : p ∈ Th m) : p.2 = .non ∨ ∃ k, p.2 = .int k := by
  rcases th_mem h with rfl | rfl | ⟨kd, lo, k, h1, h2, h3, rfl⟩
  · exact Or.inl rfl
  · exact Or.inl rfl
  · exact Or.inr ⟨k, rfl⟩
theorem kN_inj {m : Nat} {p q : Str × D} (hp : p ∈ Th m) (hq : q ∈ Th m) (h : kN p = kN q) : p = q := by
  obtain ⟨k, z⟩ := p
  obtain ⟨k', z'⟩ := q
  have h1 : [NestedKey.text k, zK z] = [NestedKey.text k', zK z'] := NestedKey.tup.inj h
  have h2 : k = k' := NestedKey.text.inj (List.cons.inj h1).1
  have h3 : zK z = zK z' := (List.cons.inj (List.cons.inj h1).2).1
  have a := th_z hp
  have b := th_z hq
  dsimp only at a b
  rcases a with rfl | ⟨i, rfl⟩ <;> rcases b with rfl | ⟨j, rfl⟩
  · rw [h2]
  · cases h3
  · cases h3
  · have : i = j := NestedKey.num.inj h3
    rw [h2, this]
theorem toT {m : Nat} {p : Str × D} (h : p ∈ Th m) : toNKT (thD p) = some (kN p) := by
  obtain ⟨k, z⟩ := p
  have a := th_z h
  dsimp only at a
  rcases a with rfl | ⟨i, rfl⟩ <;> rfl
theorem toT2 {m : Nat} {a b : Str × D} (ha : a ∈ Th m) (hb : b ∈ Th m) : toNKT (.tup [thD a, thD b]) = some (keyN a b) := by
  show ((toNKT (thD a)).bind fun k => ((toNKT (thD b)).bind fun k => (some []).map fun ks => k :: ks).map fun ks => k :: ks).map NestedKey.tup = _
  rw [toT ha, toT hb]
  rfl
theorem dep2 (a b : Str × D) : (keyN a b).depth ≤ 8 := by
  obtain ⟨k, z⟩ := a
  obtain ⟨k', z'⟩ := b
  have d : ∀ z : D, (zK z).depth = 0 := fun z => by cases z <;> rfl
  show max (max 0 (max (zK z).depth 0) + 1) (max (max 0 (max (zK z').depth 0) + 1) 0) + 1 ≤ 8
  rw [d, d]
  decide
/-- all entries are right, and these are there -/
def TI (done : List ((Str × D) × (Str × D))) (kvs : List (NestedKey × D)) : Prop := (∀ x ∈ kvs, ∃ a ∈ Th 5, ∃ b ∈ Th 5, x = entT a b) ∧ (∀ p ∈ done, ∃ x ∈ kvs, x.1 = keyN p.1 p.2) ∧ kvs.length ≤ done.length
theorem key_fol {a b a' b' : Str × D} (ha : a ∈ Th 5) (hb : b ∈ Th 5) (ha' : a' ∈ Th 5) (hb' : b' ∈ Th 5) (h : keyN a b = keyN a' b') : a = a' ∧ b = b' := by
  have h1 : [kN a, kN b] = [kN a', kN b'] := NestedKey.tup.inj h
  exact ⟨kN_inj ha ha' (List.cons.inj h1).1, kN_inj hb hb' (List.cons.inj (List.cons.inj h1).2).1⟩
theorem val_of {kvs : List (NestedKey × D)} {k : NestedKey} {v : D} (h1 : ∃ x ∈ kvs, x.1 = k) (h2 : ∀ x ∈ kvs, x.1 = k → x.2 = v) : valNK kvs k = some v := by
  unfold valNK
  obtain ⟨x, hx, e⟩ := h1
  cases hf : kvs.find? fun kv => decide (kv.1 = k) with
  | none =>
    have := List.find?_eq_none.mp hf x hx
    rw [decide_eq_true e] at this
    exact absurd rfl this
  | some y =>
    have e1 : decide (y.1 = k) = true := List.find?_some (p := fun kv : NestedKey × D => decide (kv.1 = k)) hf
    have e2 := of_decide_eq_true e1
    rw [Option.map_some, h2 y (List.mem_of_find?_eq_some hf) e2]
theorem TI.val {done : List ((Str × D) × (Str × D))} {kvs : List (NestedKey × D)} (h : TI done kvs) {a b : Str × D} (ha : a ∈ Th 5) (hb : b ∈ Th 5) (hd : (a, b) ∈ done) : valNK kvs (keyN a b) = some (.bl (folT a b)) := by
  refine val_of (h.2.1 _ hd) fun x hx e => ?_
  obtain ⟨a', ha', b', hb', rfl⟩ := h.1 x hx
  obtain ⟨rfl, rfl⟩ := key_fol ha' hb' ha hb e
  rfl
theorem TI.put {done : List ((Str × D) × (Str × D))} {kvs : List (NestedKey × D)} (h : TI done kvs) {a b : Str × D} (ha : a ∈ Th 5) (hb : b ∈ Th 5) : TI (done ++ [(a, b)]) (putNK kvs (keyN a b) (.bl (folT a b))) := by
  obtain ⟨h1, h2, h3⟩ := h
  unfold putNK
  split
  · rename_i hy
    obtain ⟨y, hy, ey⟩ := List.any_eq_true.mp hy
    have ey := of_decide_eq_true ey
    have same : (kvs.map fun kv => if kv.1 = keyN a b then (kv.1, D.bl (folT a b)) else kv) = kvs := by
      conv => rhs; rw [← List.map_id kvs]
      refine List.map_congr_left fun x hx => ?_
      by_cases e : x.1 = keyN a b
      · rw [if_pos e]
        obtain ⟨a', ha', b', hb', rfl⟩ := h1 x hx
        obtain ⟨rfl, rfl⟩ := key_fol ha' hb' ha hb e
        rfl
      · rw [if_neg e]
        rfl
    rw [same]
    refine ⟨h1, fun p hp => ?_, by rw [List.length_append]; omega⟩
    rcases List.mem_append.mp hp with hp | hp
    · exact h2 p hp
    · rw [List.mem_singleton.mp hp]
      exact ⟨y, hy, ey⟩
  · refine ⟨fun x hx => ?_, fun p hp => ?_, by rw [List.length_append, List.length_append, List.length_singleton, List.length_singleton]; omega⟩
    · rcases List.mem_append.mp hx with hx | hx
      · exact h1 x hx
      · exact ⟨a, ha, b, hb, List.mem_singleton.mp hx⟩
    · rcases List.mem_append.mp hp with hp | hp
      · obtain ⟨x, hx, e⟩ := h2 p hp
        exact ⟨x, List.mem_append_left _ hx, e⟩
      · rw [List.mem_singleton.mp hp]
        exact ⟨_, List.mem_append_right _ (List.mem_singleton.mpr rfl), rfl⟩
section
variable {S : Sto} {k : Nat} {kvs : List (NestedKey × D)} {done : List ((Str × D) × (Str × D))} (hS : S[k]? = some (.nt kvs)) (h : TI done kvs) {a b : Str × D} (ha : a ∈ Th 5) (hb : b ∈ Th 5)
include hS h ha hb
theorem get_tab (hd : (a, b) ∈ done) : gAtT (.ref k) (.tup [thD a, thD b]) S = some (.bl (folT a b), S) := by
  show (match S[k]?, toNKT (.tup [thD a, thD b]) with
    | some (.nt kvs), some (.tup ks) => if (NestedKey.tup ks).depth ≤ 8 then (valNK kvs (.tup ks)).map fun d => (d, S) else none
    | _, _ => none) = _
  rw [hS, toT2 ha hb]
  show (if (keyN a b).depth ≤ 8 then (valNK kvs (keyN a b)).map fun d => (d, S) else none) = _
  rw [if_pos (dep2 a b), h.val ha hb hd]
  rfl
theorem set_tab (hl : done.length ≤ 1000000) : gSetT (.ref k) (.tup [thD a, thD b]) (.bl (folT a b)) S = some (S.set k (.nt (putNK kvs (keyN a b) (.bl (folT a b))))) := by
  show (match S[k]?, toNKT (.tup [thD a, thD b]) with
    | some (.nt kvs), some (.tup ks) => if kvs.length ≤ 1000000 ∧ (NestedKey.tup ks).depth ≤ 8 then some (S.set k (.nt (putNK kvs (.tup ks) (.bl (folT a b))))) else none
    | _, _ => none) = _
  rw [hS, toT2 ha hb]
  show (if kvs.length ≤ 1000000 ∧ (keyN a b).depth ≤ 8 then some (S.set k (.nt (putNK kvs (keyN a b) (.bl (folT a b))))) else none) = _
  rw [if_pos ⟨by have := h.2.2; omega, dep2 a b⟩]
end
end LW
namespace LW
open PySem PySem.Spec L2 TL DL
open PyProof.Rows hiding pairD cutD
open Tk
local macro_rules | `(tactic| push_cast [$xs,*] $[$l]?) => `(tactic| simp only [↓q_Chain3, ↓q_iEnum, ↓q_sForR, ↓q_iR3, ↓q_repT, ↓q_ListR1, ↓q_TupR1, ↓q_iSeq, ↓q_zipM, ↓wzip_m, ↓q_nil0, ↓q_tIf, ↓q_star, ↓q_zip, ↓wseq_t, ↓wseq_l, ↓wzip_t, ↓wzip_l, ↓q_pfl_nx, ↓q_pfl_rt, ↓q_pfl_bk, ↓q_pfl_ct, ↓q_run_rt, ↓q_run_nx, ↓q_bk_nx, ↓q_bk_ct, ↓q_bk_bk, ↓q_bk_rt, ↓q_R_some, ↓q_R_none, ↓q_R_cond, ↓q_var0, ↓q_varS, ↓q_C, ↓q_Bin, ↓q_neg, ↓q_nil, ↓q_cons, ↓q_tup, ↓q_lst, ↓q_lstM, ↓q_Call, ↓q_And, ↓q_Or, ↓q_Not, ↓q_Test, ↓q_tAnd, ↓q_tOr, ↓q_tNot, ↓q_If, ↓q_Chain, ↓q_Skip, ↓q_Break, ↓q_Cont, ↓q_Never, ↓q_fNever, ↓q_Seq, ↓q_Expr, ↓q_Ret, ↓q_sIf, ↓q_Asg, ↓q_N, ↓q_gNil, ↓q_gCons, ↓q_gTup, ↓q_gSub, ↓q_Par, ↓q_Run, ↓q_For, ↓q_iLst, ↓q_iTup, ↓q_iR1, ↓q_iR2, ↓q_add, ↓q_addL, ↓q_addS, ↓q_I0, ↓q_mul, ↓q_fdiv, ↓q_mod, ↓q_eqI, ↓q_eqS, ↓q_eqB, ↓q_neI, ↓q_neS, ↓q_neB, ↓q_isN, ↓q_notN, ↓q_isi, ↓q_abs, ↓q_max2, ↓q_min2, ↓q_maxT, ↓q_intI, ↓q_intB, ↓q_lenS, ↓q_lenT, ↓q_lenL, ↓q_lenC, ↓q_divmod, ↓q_listL, ↓q_listT, ↓q_tupL, ↓q_tupT, ↓q_KIn, ↓q_Fld, ↓q_Meth, ↓q_MakeF, ↓q_sFld, ↓q_KIx, ↓q_inT, ↓q_inL, ↓q_inS, ↓q_ixL, ↓q_ixT, ↓q_ixC, ↓q_Lc, ↓q_Yes, ↓q_Sl, ↓q_oNone, ↓q_oSome, ↓q_slC, ↓q_slL, ↓q_slS, ↓q_MethK, ↓q_CallK, ↓q_Repr, ↓q_DispF, ↓q_DIx, ↓q_rep, ↓q_Prop, ↓q_IsC, ↓q_DGet1, ↓q_DIn, ↓q_gUnl, ↓q_DictK, ↓q_repM, ↓q_aXi, ↓q_aXs, ↓q_aXt, ↓q_aXl, ↓q_aMl, ↓q_ltX, ↓q_leX, ↓q_leX2, ↓q_SlX, ↓q_sXc, ↓q_sXl, ↓q_sXt, ↓q_sXs, ↓q_RevT, ↓q_sxI, ↓q_sxS, ↓q_lxT, ↓q_lxL, ↓q_txL, ↓q_txT, ↓q_lmT, ↓q_lmL, ↓q_Par3, ↓q_Join, ↓wp_two, ↓wp_r1, ↓wp_r2, ↓wp_someB, ↓wp_strE, ↓wp_FldO, ↓wp_someL, ↓wp_last, ↓wp_someX, ↓wp_three, ↓q_p40, ↓qi_t, ↓qi_f, ↓wb_bl, ↓wi_int, ↓wstr_str, ↓wtup_tup, ↓wlst_lst, ↓wref_ref, isn_int, isn_non, isn_str, isn_tup, isn_lst, isn_ref, isn_bl, isi_str_str, isi_int_int, isi_int_bl, isi_bool_int, isi_bool_bl, isi_int_non, isi_int_str, isi_tuple_tup, str_eq, String.reduceEq, List.any_cons, List.any_nil, List.all_cons, List.all_nil, Bool.and_true, Bool.or_false, Bool.true_and, Bool.false_and, Bool.and_false, Bool.false_or, Bool.or_true, Bool.true_or, Bool.not_not, flat_str, flat_int, flat_non, eqF_str, List.map_cons, List.map_nil, List.length_cons, List.length_nil, List.length_map, List.cons_append, List.nil_append, List.append_nil, List.set_cons_zero, List.set_cons_succ, List.replicate_succ, List.replicate_zero, Nat.reduceSub, Nat.reduceAdd, Nat.reduceLeDiff, Nat.zero_add, Nat.sub_self, Bool.not_eq_true', Bool.not_true, Bool.not_false, if_true, if_false, reduceIte, Bool.false_eq_true, true_and, and_true, decide_true, decide_false, Bool.true_eq_false, eq_self, $xs,*] $[$l]?)
def prT : List ((Str × D) × (Str × D)) := (Th 5).flatMap fun a => (Th 5).map fun b => (a, b)
theorem th_len : (Th 5).length = 33 := by decide +kernel
theorem TI.nil : TI [] [] := ⟨fun x hx => (by cases hx), fun p hp => (by cases hp), Nat.le_refl _⟩
theorem done_le (i : Nat) : (((Th 5).take i).flatMap fun a => (Th 5).map fun b => (a, b)).length ≤ 33 * 33 := by
  have h : ∀ l : List (Str × D), (l.flatMap fun a => (Th 5).map fun b => (a, b)).length = l.length * 33 := fun l => by
    induction l with
    | nil => rfl
    | cons a l ih =>
      rw [List.flatMap_cons, List.length_append, List.length_map, ih, th_len, List.length_cons]
      omega
  rw [h, List.length_take, th_len]
  omega
theorem followsK_eq {a b : Str × D} (ha : a ∈ Th 5) (hb : b ∈ Th 5) (S : Sto) : w_follows (kwG [1, 0] [] [ob b.1 b.2, ob a.1 a.2]) S = some (.bl (folT a b), S) := fol_eq ha hb S
theorem table_q {S : Sto} : Qr go (w__law_table [.lst ((Th 5).map thD)] S) fun _ d S' => d = .ref S.length ∧ ∃ kvs, S' = S ++ [.nt kvs] ∧ TI prT kvs := by
  unfold w__law_table d__law_table b__law_table
  have e0 : fNewT [some (.lst ((Th 5).map thD)), none, none, none, none, none] S = some (.ref S.length, S ++ [.nt []]) := rfl
  push_cast []
  refine q_of e0 ?_
  push_cast []
  refine q_for [2, 3, 4, 5] (fun i S' => ∃ kvs, S' = S ++ [.nt kvs] ∧ TI (((Th 5).take i).flatMap fun a => (Th 5).map fun b => (a, b)) kvs) ⟨[], rfl, TI.nil⟩ ?_ ?_
  · rintro i d _ S1 hi ⟨e2, e3, e4, e5, rfl⟩ ⟨kvs0, rfl, hT0⟩
    rw [List.getElem?_map] at hi
    obtain ⟨a, hga, rfl⟩ := Option.map_eq_some_iff.mp hi
    have ha := List.mem_of_getElem? hga
    push_cast []
    refine q_for [3, 4, 5] (fun j S' => ∃ kvs, S' = S ++ [.nt kvs] ∧ TI ((((Th 5).take i).flatMap fun a => (Th 5).map fun b => (a, b)) ++ ((Th 5).take j).map fun b => (a, b)) kvs) ⟨kvs0, rfl, by simpa using hT0⟩ ?_ ?_
    · rintro j d _ S2 hj ⟨e3, e4, e5, rfl⟩ ⟨kvs, rfl, hT⟩
      rw [List.getElem?_map] at hj
      obtain ⟨b, hgb, rfl⟩ := Option.map_eq_some_iff.mp hj
      have hb := List.mem_of_getElem? hgb
      have ma := th_mk (m := 5) (by decide) ha
      have mb := th_mk (m := 5) (by decide) hb
      have i0 : ∀ p : Str × D, L2.atI [D.str p.1, p.2] 0 = some (.str p.1) := fun _ => rfl
      have i1 : ∀ p : Str × D, L2.atI [D.str p.1, p.2] 1 = some p.2 := fun _ => rfl
      have da : ∀ p : Str × D, thD p = .tup [.str p.1, p.2] := fun _ => rfl
      have fo := fol_eq ha hb
      have fk := followsK_eq ha hb
      have hk : (S ++ [Cell.nt kvs])[S.length]? = some (.nt kvs) := by simp
      have dl : ((((Th 5).take i).flatMap fun a => (Th 5).map fun b => (a, b)) ++ ((Th 5).take j).map fun b => (a, b)).length ≤ 1000000 := by
        have := done_le i
        rw [List.length_append, List.length_map, List.length_take, th_len]
        omega
      have st : gSetT (.ref S.length) (.tup [.tup [.str a.1, a.2], .tup [.str b.1, b.2]]) (.bl (folT a b)) (S ++ [Cell.nt kvs]) = some (S ++ [.nt (putNK kvs (keyN a b) (.bl (folT a b)))]) := by
        refine (set_tab hk hT ha hb dl).trans ?_
        simp
      have hT2 := hT.put ha hb
      have hk2 : (S ++ [Cell.nt (putNK kvs (keyN a b) (.bl (folT a b)))])[S.length]? = some (.nt (putNK kvs (keyN a b) (.bl (folT a b)))) := by simp
      have gt : gAtT (.ref S.length) (.tup [.tup [.str a.1, a.2], .tup [.str b.1, b.2]]) (S ++ [.nt (putNK kvs (keyN a b) (.bl (folT a b)))]) = some (.bl (folT a b), S ++ [.nt (putNK kvs (keyN a b) (.bl (folT a b)))]) := get_tab hk2 hT2 ha hb (List.mem_append_right _ (List.mem_singleton.mpr rfl))
      push_cast [da, i0, i1, ma, mb, fo, st, fk, gt]
      refine ⟨_, rfl, ?_⟩
      refine q_of gt ?_
      push_cast []
      refine ⟨⟨_, _, _, rfl⟩, _, rfl, ?_⟩
      have e1 : (Th 5).take (j + 1) = (Th 5).take j ++ [b] := by rw [List.take_succ, hgb]; rfl
      rw [e1, List.map_append, ← List.append_assoc]
      exact hT2
    · rintro _ S2 ⟨e3, e4, e5, rfl⟩ ⟨kvs, rfl, hT⟩
      push_cast []
      refine ⟨⟨_, _, _, _, rfl⟩, _, rfl, ?_⟩
      have e1 : (Th 5).take (i + 1) = (Th 5).take i ++ [a] := by rw [List.take_succ, hga]; rfl
      rw [List.length_map, List.take_length] at hT
      rw [e1, List.flatMap_append, List.flatMap_singleton]
      exact hT
  · rintro _ S1 ⟨e2, e3, e4, e5, rfl⟩ ⟨kvs, rfl, hT⟩
    push_cast []
    rw [List.length_map, List.take_length] at hT
    exact ⟨_, rfl, hT⟩
end LW
namespace LW
open PySem PySem.Spec L2 TL DL
open PyProof.Rows hiding pairD cutD
open Tk
local macro_rules | `(tactic| push_cast [$xs,*] $[$l]?) => `(tactic| simp only [↓q_Chain3, ↓q_iEnum, ↓q_sForR, ↓q_iR3, ↓q_repT, ↓q_ListR1, ↓q_TupR1, ↓q_iSeq, ↓q_zipM, ↓wzip_m, ↓q_nil0, ↓q_tIf, ↓q_star, ↓q_zip, ↓wseq_t, ↓wseq_l, ↓wzip_t, ↓wzip_l, ↓q_pfl_nx, ↓q_pfl_rt, ↓q_pfl_bk, ↓q_pfl_ct, ↓q_run_rt, ↓q_run_nx, ↓q_bk_nx, ↓q_bk_ct, ↓q_bk_bk, ↓q_bk_rt, ↓q_R_some, ↓q_R_none, ↓q_R_cond, ↓q_var0, ↓q_varS, ↓q_C, ↓q_Bin, ↓q_neg, ↓q_nil, ↓q_cons, ↓q_tup, ↓q_lst, ↓q_lstM, ↓q_Call, ↓q_And, ↓q_Or, ↓q_Not, ↓q_Test, ↓q_tAnd, ↓q_tOr, ↓q_tNot, ↓q_If, ↓q_Chain, ↓q_Skip, ↓q_Break, ↓q_Cont, ↓q_Never, ↓q_fNever, ↓q_Seq, ↓q_Expr, ↓q_Ret, ↓q_sIf, ↓q_Asg, ↓q_N, ↓q_gNil, ↓q_gCons, ↓q_gTup, ↓q_gSub, ↓q_Par, ↓q_Run, ↓q_For, ↓q_iLst, ↓q_iTup, ↓q_iR1, ↓q_iR2, ↓q_add, ↓q_addL, ↓q_addS, ↓q_I0, ↓q_mul, ↓q_fdiv, ↓q_mod, ↓q_eqI, ↓q_eqS, ↓q_eqB, ↓q_neI, ↓q_neS, ↓q_neB, ↓q_isN, ↓q_notN, ↓q_isi, ↓q_abs, ↓q_max2, ↓q_min2, ↓q_maxT, ↓q_intI, ↓q_intB, ↓q_lenS, ↓q_lenT, ↓q_lenL, ↓q_lenC, ↓q_divmod, ↓q_listL, ↓q_listT, ↓q_tupL, ↓q_tupT, ↓q_KIn, ↓q_Fld, ↓q_Meth, ↓q_MakeF, ↓q_sFld, ↓q_KIx, ↓q_inT, ↓q_inL, ↓q_inS, ↓q_ixL, ↓q_ixT, ↓q_ixC, ↓q_Lc, ↓q_Yes, ↓q_Sl, ↓q_oNone, ↓q_oSome, ↓q_slC, ↓q_slL, ↓q_slS, ↓q_MethK, ↓q_CallK, ↓q_Repr, ↓q_DispF, ↓q_DIx, ↓q_rep, ↓q_Prop, ↓q_IsC, ↓q_DGet1, ↓q_DIn, ↓q_gUnl, ↓q_DictK, ↓q_repM, ↓q_aXi, ↓q_aXs, ↓q_aXt, ↓q_aXl, ↓q_aMl, ↓q_ltX, ↓q_leX, ↓q_leX2, ↓q_SlX, ↓q_sXc, ↓q_sXl, ↓q_sXt, ↓q_sXs, ↓q_RevT, ↓q_sxI, ↓q_sxS, ↓q_lxT, ↓q_lxL, ↓q_txL, ↓q_txT, ↓q_lmT, ↓q_lmL, ↓q_Par3, ↓q_Join, ↓wp_two, ↓wp_r1, ↓wp_r2, ↓wp_someB, ↓wp_strE, ↓wp_FldO, ↓wp_someL, ↓wp_last, ↓wp_someX, ↓wp_three, ↓q_p40, ↓qi_t, ↓qi_f, ↓wb_bl, ↓wi_int, ↓wstr_str, ↓wtup_tup, ↓wlst_lst, ↓wref_ref, isn_int, isn_non, isn_str, isn_tup, isn_lst, isn_ref, isn_bl, isi_str_str, isi_int_int, isi_int_bl, isi_bool_int, isi_bool_bl, isi_int_non, isi_int_str, isi_tuple_tup, str_eq, String.reduceEq, List.any_cons, List.any_nil, List.all_cons, List.all_nil, Bool.and_true, Bool.or_false, Bool.true_and, Bool.false_and, Bool.and_false, Bool.false_or, Bool.or_true, Bool.true_or, Bool.not_not, flat_str, flat_int, flat_non, eqF_str, List.map_cons, List.map_nil, List.length_cons, List.length_nil, List.length_map, List.cons_append, List.nil_append, List.append_nil, List.set_cons_zero, List.set_cons_succ, List.replicate_succ, List.replicate_zero, Nat.reduceSub, Nat.reduceAdd, Nat.reduceLeDiff, Nat.zero_add, Nat.sub_self, Bool.not_eq_true', Bool.not_true, Bool.not_false, if_true, if_false, reduceIte, Bool.false_eq_true, true_and, and_true, decide_true, decide_false, Bool.true_eq_false, eq_self, $xs,*] $[$l]?)
def zP : D → PyData
  | .int k => .int k
  | _ => .none
def thP (p : Str × D) : PyData := .tuple [.str p.1, zP p.2]
theorem toP_th {p : Str × D} (h : p ∈ Th 5) : toP (thD p) = some (thP p) := by
  obtain ⟨k, z⟩ := p
  have a := th_z h
  dsimp only at a
  rcases a with rfl | ⟨i, rfl⟩ <;> rfl
theorem toPs_th : ∀ {l : List (Str × D)}, (∀ p ∈ l, p ∈ Th 5) → toPs (l.map thD) = some (l.map thP)
  | [], _ => rfl
  | p :: l, h => by
    show (toP (thD p)).bind _ = _
    rw [toP_th (h p (by simp))]
    show (toPs (l.map thD)).map _ = _
    rw [toPs_th fun q hq => h q (List.mem_cons_of_mem _ hq)]
    rfl
theorem eqv_all : ((Th 5).all fun q => (Th 5).all fun p => PyData.eqv (thP q) (thP p) == decide (kN q = kN p)) = true := by kernel_rfl
theorem eqv_th {p q : Str × D} (hp : p ∈ Th 5) (hq : q ∈ Th 5) : PyData.eqv (thP q) (thP p) = decide (kN q = kN p) := eq_of_beq (List.all_eq_true.mp (List.all_eq_true.mp eqv_all q hq) p hp)
theorem lay_all : ((Th 5).all fun p => (thP p).canLay0 && decide ((thP p).depth ≤ 1)) = true := by kernel_rfl
theorem lay_th : ∀ {l : List (Str × D)}, (∀ p ∈ l, p ∈ Th 5) → PyData.canLayAll0 (l.map thP) = true ∧ PyData.depthAll (l.map thP) ≤ 1
  | [], _ => ⟨rfl, Nat.zero_le _⟩
  | p :: l, h => by
    have g := List.all_eq_true.mp lay_all p (h p (by simp))
    rw [Bool.and_eq_true, decide_eq_true_eq] at g
    obtain ⟨h1, h2⟩ := lay_th (l := l) fun q hq => h q (List.mem_cons_of_mem _ hq)
    constructor
    · show ((thP p).canLay0 && PyData.canLayAll0 (l.map thP)) = true
      rw [g.1, h1]
      rfl
    · show max (thP p).depth (PyData.depthAll (l.map thP)) ≤ 1
      omega
theorem in_th (neg : Bool) {p : Str × D} (hp : p ∈ Th 5) {l : List (Str × D)} (hl : ∀ q ∈ l, q ∈ Th 5) (S : Sto) : gInX neg (thD p) (.lst (l.map thD)) S = some (.bl (if neg then !decide (kN p ∈ l.map kN) else decide (kN p ∈ l.map kN)), S) := by
  have gB : gInB neg (thD p) (.lst (l.map thD)) S = none := by
    show inSeq neg (thD p) (l.map thD) S = none
    unfold inSeq
    rw [if_neg]
    intro h
    exact absurd h.1 (by simp [thD, flatD])
  unfold gInX
  rw [gB]
  show (inDeep neg (thD p) (l.map thD)).map _ = _
  unfold inDeep
  rw [toP_th hp, toPs_th hl]
  have g := List.all_eq_true.mp lay_all p hp
  rw [Bool.and_eq_true, decide_eq_true_eq] at g
  have s1 : SeqAt.shaped (thP p) = true := by
    unfold SeqAt.shaped
    rw [g.1, decide_eq_true (by omega)]
    rfl
  have s2 : SeqAt.shaped (.list (l.map thP)) = true := by
    unfold SeqAt.shaped
    obtain ⟨h1, h2⟩ := lay_th hl
    rw [show (PyData.list (l.map thP)).canLay0 = true from h1, decide_eq_true (by simp only [PyData.depth]; omega)]
    rfl
  show ((if SeqAt.shaped (thP p) = true ∧ SeqAt.shaped (.list (l.map thP)) = true then some (D.bl (if neg then !(l.map thP).any (fun z => PyData.eqv z (thP p)) else (l.map thP).any fun z => PyData.eqv z (thP p))) else none).map fun d => (d, S)) = _
  rw [if_pos ⟨s1, s2⟩]
  have e : ((l.map thP).any fun z => PyData.eqv z (thP p)) = decide (kN p ∈ l.map kN) := by
    rw [List.any_map, Bool.eq_iff_iff, List.any_eq_true, decide_eq_true_eq, List.mem_map]
    constructor
    · rintro ⟨x, h1, h2⟩
      have h2 : PyData.eqv (thP x) (thP p) = true := h2
      rw [eqv_th hp (hl x h1)] at h2
      exact ⟨x, h1, of_decide_eq_true h2⟩
    · rintro ⟨x, h1, h2⟩
      refine ⟨x, h1, ?_⟩
      show PyData.eqv (thP x) (thP p) = true
      rw [eqv_th hp (hl x h1), decide_eq_true h2]
  rw [e]
  rfl
theorem prT_mem {a b : Str × D} (ha : a ∈ Th 5) (hb : b ∈ Th 5) : (a, b) ∈ prT := List.mem_flatMap.mpr ⟨a, ha, List.mem_map.mpr ⟨b, hb, rfl⟩⟩
theorem th5_le {p : Str × D} (h : p ∈ Th 5) : ∀ k, p.2 = .int k → k ≤ 1000 := fun k e => by
  rcases th_mem h with rfl | rfl | ⟨kd, lo, k', h1, h2, h3, rfl⟩
  · cases e
  · cases e
  · cases e
    omega
section
variable {S : Sto} {k : Nat} {kvs : List (NestedKey × D)} (hS : S[k]? = some (.nt kvs)) (hT : TI prT kvs) {N : Nat} (hN : N ≤ 6) {T : Prl} (hU : Ties (N : Int) T)
include hS hT hN hU
theorem party_ok : w__law_party_right [.lst ((Th 5).map thD), .ref k, .int (N : Int), .tup (T.map pairD)] S = some (.bl true, S) := by
  have hold : ∀ p ∈ Th 5, ∀ S, w__law_holds [.str p.1, p.2, .int (N : Int), .tup (T.map pairD)] S = some (.bl (hF p.1 p.2 N T), S) := fun p hp S => by
    obtain ⟨sh, hf⟩ := th_fk N T (m := 5) (by decide) hp
    obtain ⟨b, e, hb⟩ := lholds hN hU S hf (th5_le hp)
    have eb : b = hF p.1 p.2 N T := by rw [Bool.eq_iff_iff, hb, hF_iff hf]
    rw [e, eb]
  have i0 : ∀ p : Str × D, L2.atI [D.str p.1, p.2] 0 = some (.str p.1) := fun _ => rfl
  have i1 : ∀ p : Str × D, L2.atI [D.str p.1, p.2] 1 = some p.2 := fun _ => rfl
  have da : ∀ p : Str × D, thD p = .tup [.str p.1, p.2] := fun _ => rfl
  refine Qr_iff.mpr ?_ |> R.eq
  unfold w__law_party_right d__law_party_right b__law_party_right
  push_cast []
  refine ⟨by decide +kernel, q_lcQ thD thD (fun p => hF p.1 p.2 N T) (fun p hp => ?_) ?_⟩
  · have hh := hold p hp
    push_cast [wipeD, da, i0, i1, hh]
    exact fun _ => trivial
  have hsub : ∀ q ∈ (Th 5).filter (fun p => hF p.1 p.2 N T), q ∈ Th 5 := fun q hq => (List.mem_filter.mp hq).1
  push_cast []
  refine q_forM [5, 6] (fun S' => S' = S) rfl ?_ ?_
  · rintro d hd _ S1 ⟨e5, e6, rfl⟩ rfl
    obtain ⟨a, ha, rfl⟩ := List.mem_map.mp hd
    obtain ⟨ha, hah⟩ := List.mem_filter.mp ha
    push_cast []
    refine q_forM [6] (fun S' => S' = S1) rfl ?_ ?_
    · rintro d hd _ S2 ⟨e6, rfl⟩ rfl
      obtain ⟨b, hb, rfl⟩ := List.mem_map.mp hd
      have gt := get_tab hS hT ha hb (prT_mem ha hb)
      have ni := in_th true hb hsub S2
      have key : folT a b = true → b ∈ (Th 5).filter (fun p => hF p.1 p.2 N T) := fun h => by
        obtain ⟨sa, fa⟩ := th_fk N T (m := 5) (by decide) ha
        obtain ⟨sb, fb⟩ := th_fk N T (m := 5) (by decide) hb
        exact List.mem_filter.mpr ⟨hb, (hF_iff fb).mpr (fol_held hb hU fa fb h ((hF_iff fa).mp hah))⟩
      cases hf : folT a b with
      | true =>
        rw [hf] at gt
        rw [decide_eq_true (List.mem_map.mpr ⟨b, key hf, rfl⟩)] at ni
        push_cast [gt, ni]
        exact ⟨_, rfl⟩
      | false =>
        rw [hf] at gt
        push_cast [gt]
        exact ⟨_, rfl⟩
    · rintro _ S2 ⟨e6, rfl⟩ rfl
      push_cast []
      exact ⟨_, _, rfl⟩
  · rintro _ S1 ⟨e5, e6, rfl⟩ rfl
    push_cast []
end
end LW
namespace LW
open PySem PySem.Spec L2 TL DL
open PyProof.Rows hiding pairD cutD
open Tk
local macro_rules | `(tactic| push_cast [$xs,*] $[$l]?) => `(tactic| simp only [↓q_Chain3, ↓q_iEnum, ↓q_sForR, ↓q_iR3, ↓q_repT, ↓q_ListR1, ↓q_TupR1, ↓q_iSeq, ↓q_zipM, ↓wzip_m, ↓q_nil0, ↓q_tIf, ↓q_star, ↓q_zip, ↓wseq_t, ↓wseq_l, ↓wzip_t, ↓wzip_l, ↓q_pfl_nx, ↓q_pfl_rt, ↓q_pfl_bk, ↓q_pfl_ct, ↓q_run_rt, ↓q_run_nx, ↓q_bk_nx, ↓q_bk_ct, ↓q_bk_bk, ↓q_bk_rt, ↓q_R_some, ↓q_R_none, ↓q_R_cond, ↓q_var0, ↓q_varS, ↓q_C, ↓q_Bin, ↓q_neg, ↓q_nil, ↓q_cons, ↓q_tup, ↓q_lst, ↓q_lstM, ↓q_Call, ↓q_And, ↓q_Or, ↓q_Not, ↓q_Test, ↓q_tAnd, ↓q_tOr, ↓q_tNot, ↓q_If, ↓q_Chain, ↓q_Skip, ↓q_Break, ↓q_Cont, ↓q_Never, ↓q_fNever, ↓q_Seq, ↓q_Expr, ↓q_Ret, ↓q_sIf, ↓q_Asg, ↓q_N, ↓q_gNil, ↓q_gCons, ↓q_gTup, ↓q_gSub, ↓q_Par, ↓q_Run, ↓q_For, ↓q_iLst, ↓q_iTup, ↓q_iR1, ↓q_iR2, ↓q_add, ↓q_addL, ↓q_addS, ↓q_I0, ↓q_mul, ↓q_fdiv, ↓q_mod, ↓q_eqI, ↓q_eqS, ↓q_eqB, ↓q_neI, ↓q_neS, ↓q_neB, ↓q_isN, ↓q_notN, ↓q_isi, ↓q_abs, ↓q_max2, ↓q_min2, ↓q_maxT, ↓q_intI, ↓q_intB, ↓q_lenS, ↓q_lenT, ↓q_lenL, ↓q_lenC, ↓q_divmod, ↓q_listL, ↓q_listT, ↓q_tupL, ↓q_tupT, ↓q_KIn, ↓q_Fld, ↓q_Meth, ↓q_MakeF, ↓q_sFld, ↓q_KIx, ↓q_inT, ↓q_inL, ↓q_inS, ↓q_ixL, ↓q_ixT, ↓q_ixC, ↓q_Lc, ↓q_Yes, ↓q_Sl, ↓q_oNone, ↓q_oSome, ↓q_slC, ↓q_slL, ↓q_slS, ↓q_MethK, ↓q_CallK, ↓q_Repr, ↓q_DispF, ↓q_DIx, ↓q_rep, ↓q_Prop, ↓q_IsC, ↓q_DGet1, ↓q_DIn, ↓q_gUnl, ↓q_DictK, ↓q_repM, ↓q_aXi, ↓q_aXs, ↓q_aXt, ↓q_aXl, ↓q_aMl, ↓q_ltX, ↓q_leX, ↓q_leX2, ↓q_SlX, ↓q_sXc, ↓q_sXl, ↓q_sXt, ↓q_sXs, ↓q_RevT, ↓q_sxI, ↓q_sxS, ↓q_lxT, ↓q_lxL, ↓q_txL, ↓q_txT, ↓q_lmT, ↓q_lmL, ↓q_Par3, ↓q_Join, ↓wp_two, ↓wp_r1, ↓wp_r2, ↓wp_someB, ↓wp_strE, ↓wp_FldO, ↓wp_someL, ↓wp_last, ↓wp_someX, ↓wp_three, ↓q_p40, ↓qi_t, ↓qi_f, ↓wb_bl, ↓wi_int, ↓wstr_str, ↓wtup_tup, ↓wlst_lst, ↓wref_ref, isn_int, isn_non, isn_str, isn_tup, isn_lst, isn_ref, isn_bl, isi_str_str, isi_int_int, isi_int_bl, isi_bool_int, isi_bool_bl, isi_int_non, isi_int_str, isi_tuple_tup, str_eq, String.reduceEq, List.any_cons, List.any_nil, List.all_cons, List.all_nil, Bool.and_true, Bool.or_false, Bool.true_and, Bool.false_and, Bool.and_false, Bool.false_or, Bool.or_true, Bool.true_or, Bool.not_not, flat_str, flat_int, flat_non, eqF_str, List.map_cons, List.map_nil, List.length_cons, List.length_nil, List.length_map, List.cons_append, List.nil_append, List.append_nil, List.set_cons_zero, List.set_cons_succ, List.replicate_succ, List.replicate_zero, Nat.reduceSub, Nat.reduceAdd, Nat.reduceLeDiff, Nat.zero_add, Nat.sub_self, Bool.not_eq_true', Bool.not_true, Bool.not_false, if_true, if_false, reduceIte, Bool.false_eq_true, true_and, and_true, decide_true, decide_false, Bool.true_eq_false, eq_self, $xs,*] $[$l]?)
def ltB (p q : Int × Int) : Bool := decide (p.1 < q.1) || (decide (p.1 = q.1) && decide (p.2 < q.2))
theorem ltB_iff {p q : Int × Int} : ltB p q = true ↔ ltP p q := by
  unfold ltB ltP
  rw [Bool.or_eq_true, Bool.and_eq_true, decide_eq_true_eq, decide_eq_true_eq, decide_eq_true_eq]
def ascC : List (Int × Int) → Bool
  | p :: q :: l => ltB p q && ascC (q :: l)
  | _ => true
theorem asc_pw : ∀ {L : List (Int × Int)}, ascC L = true → L.Pairwise ltP
  | [], _ => .nil
  | [p], _ => by simp
  | p :: q :: l, h => by
    have h : (ltB p q && ascC (q :: l)) = true := h
    rw [Bool.and_eq_true] at h
    have ih := asc_pw (L := q :: l) h.2
    have pq := ltB_iff.mp h.1
    refine List.pairwise_cons.mpr ⟨fun r hr => ?_, ih⟩
    rcases List.mem_cons.mp hr with rfl | hr
    · exact pq
    · have qr := (List.pairwise_cons.mp ih).1 r hr
      unfold ltP at pq qr ⊢
      omega
theorem tiesQ2 {N : Int} (h0 : 0 ≤ N) (hn : N ≤ 10) {S : Sto} {i : Nat} (h : Prs S i) {P : Tk → D → Sto → Prop} (k : ∀ T S', Ties N T → Prs S' i → DL.Apart S S' i → P go (.tup (T.map pairD)) S') : Qr go (w__law_ties [.ref i, .int N] S) P := by
  obtain ⟨c, hS, hc⟩ := h.pc
  obtain ⟨d, S', e, c', T, rfl, hc', rfl, hT⟩ := ties_run h0 hn hc
  exact ⟨_, _, pure1_eq rfl hS (pc_free hc) e (pc_free hc') (thawD_of (noRefs_pairs T)), k T _ hT (h.set hc') (DL.Apart.set S i c')⟩
theorem things5 (S : Sto) : w__law_things [.int 5] S = some (.lst ((Th 5).map thD), S) := by kernel_rfl
def lessZ : D → D
  | .int k => .int (k - 1)
  | _ => .non
def lessP (p : Str × D) : Str × D := (p.1, lessZ p.2)
def lsIn (p : Str × D) : Bool := (Th 5).any fun q => decide (kN q = kN (lessP p))
theorem tbl_less (S : Sto) : (Th 5).map (fun p => gInX false (thD (lessP p)) (.lst ((Th 5).map thD)) S) = mapR (fun p => some (.bl (lsIn p), S)) (Th 5) := by kernel_rfl
theorem less_all : ((Th 5).all fun p => folT p p && (!lsIn p || folT p (lessP p))) = true := by kernel_rfl
theorem kN_z {p q : Str × D} (hp : p.2 = .non ∨ ∃ k, p.2 = .int k) (hq : q.2 = .non ∨ ∃ k, q.2 = .int k) (h : kN p = kN q) : p = q := by
  obtain ⟨k, z⟩ := p
  obtain ⟨k', z'⟩ := q
  have h1 : [NestedKey.text k, zK z] = [NestedKey.text k', zK z'] := NestedKey.tup.inj h
  have h2 : k = k' := NestedKey.text.inj (List.cons.inj h1).1
  have h3 : zK z = zK z' := (List.cons.inj (List.cons.inj h1).2).1
  dsimp only at hp hq
  rcases hp with rfl | ⟨i, rfl⟩ <;> rcases hq with rfl | ⟨j, rfl⟩
  · rw [h2]
  · cases h3
  · cases h3
  · have : i = j := NestedKey.num.inj h3
    rw [h2, this]
theorem less_mem {p : Str × D} (hp : p ∈ Th 5) (h : lsIn p = true) : lessP p ∈ Th 5 := by
  obtain ⟨q, hq, e⟩ := List.any_eq_true.mp h
  have e := of_decide_eq_true e
  have hz : (lessP p).2 = .non ∨ ∃ k, (lessP p).2 = .int k := by
    show lessZ p.2 = .non ∨ ∃ k, lessZ p.2 = .int k
    rcases th_z hp with e | ⟨k, e⟩
    · rw [e]
      exact Or.inl rfl
    · rw [e]
      exact Or.inr ⟨_, rfl⟩
  exact kN_z (th_z hq) hz e ▸ hq
def subL (l : Prl) : List Prl := l.foldl (fun f x => f ++ f.map fun p => p ++ [x]) [[]]
theorem all_few (S : Sto) : (List.range 4).map (fun (N : Nat) => w__law_all [.int (N : Int)] S) = mapR (fun (N : Nat) => some (.tup ((pairsL (N : Int)).map pairD), S)) (List.range 4) := by kernel_rfl
theorem sub_few (S : Sto) : (List.range 4).map (fun (N : Nat) => w__law_subsets [.tup ((pairsL (N : Int)).map pairD)] S) = mapR (fun (N : Nat) => some (.lst ((subL (pairsL (N : Int))).map fun T => .tup (T.map pairD)), S)) (List.range 4) := by kernel_rfl
theorem sub_ok : ((List.range 4).all fun (N : Nat) => (subL (pairsL (N : Int))).all fun T => T.all (fun p => decide (0 ≤ p.1) && (decide (p.1 < p.2) && decide (p.2 < (N : Int)))) && ascC T) = true := by kernel_rfl
theorem few_ties {N : Nat} (h : N < 4) {T : Prl} (hT : T ∈ subL (pairsL (N : Int))) : Ties (N : Int) T := by
  have ok := List.all_eq_true.mp (List.all_eq_true.mp sub_ok N (List.mem_range.mpr h)) T hT
  simp only [Bool.and_eq_true, List.all_eq_true, decide_eq_true_eq] at ok
  exact ⟨fun p hp => ⟨(ok.1 p hp).1, (ok.1 p hp).2.1, (ok.1 p hp).2.2⟩, asc_pw ok.2⟩
def St (S : Sto) (i k : Nat) (kvs : List (NestedKey × D)) : Prop := Prs S i ∧ S[k]? = some (.nt kvs) ∧ k ≠ i
theorem St.apart {S S' : Sto} {i k : Nat} {kvs : List (NestedKey × D)} (h : St S i k kvs) (a : DL.Apart S S' i) (p : Prs S' i) : St S' i k kvs := ⟨p, (a.2 k h.2.2).trans h.2.1, h.2.2⟩
theorem right_ok {S : Sto} {i : Nat} (hP : Prs S i) : Qr go (w__law_right [.ref i] S) fun _ d _ => d = .bl true := by
  have hi : i < S.length := by
    obtain ⟨a, b, h2, h3⟩ := hP
    exact (List.getElem?_eq_some_iff.mp h2).1
  unfold w__law_right d__law_right b__law_right
  push_cast [things5]
  refine q_imp table_q ?_
  rintro _ S1 ⟨rfl, kvs, rfl, hT⟩
  have hS1 : St (S ++ [.nt kvs]) i S.length kvs := by
    refine ⟨?_, by simp, by omega⟩
    obtain ⟨a, b, h2, h3⟩ := hP
    exact ⟨a, b, (List.getElem?_append_left hi).trans h2, h3⟩
  have i0 : ∀ p : Str × D, L2.atI [D.str p.1, p.2] 0 = some (.str p.1) := fun _ => rfl
  have i1 : ∀ p : Str × D, L2.atI [D.str p.1, p.2] 1 = some p.2 := fun _ => rfl
  have da : ∀ p : Str × D, thD p = .tup [.str p.1, p.2] := fun _ => rfl
  have ix0 : ∀ (p : Str × D) (S : Sto), gIx (thD p) (.int 0) S = some (.str p.1, S) := fun _ _ => rfl
  have ix1 : ∀ (p : Str × D) (S : Sto), gIx (thD p) (.int 1) S = some (p.2, S) := fun _ _ => rfl
  push_cast []
  refine q_forM [3, 4] (fun S' => S' = S ++ [.nt kvs]) rfl ?_ ?_
  · rintro d hd _ S2 ⟨e3, e4, rfl⟩ rfl
    obtain ⟨p, hp, rfl⟩ := List.mem_map.mp hd
    have lf := List.all_eq_true.mp less_all p hp
    rw [Bool.and_eq_true, Bool.or_eq_true] at lf
    have g1 := get_tab hS1.2.1 hT hp hp (prT_mem hp hp)
    rw [lf.1] at g1
    have g2 := of_table (tbl_less (S ++ [.nt kvs])) p hp
    have g3 : lsIn p = true → gAtT (.ref S.length) (.tup [thD p, thD (lessP p)]) (S ++ [.nt kvs]) = some (.bl true, S ++ [.nt kvs]) := fun h => by
      have g := get_tab hS1.2.1 hT hp (less_mem hp h) (prT_mem hp (less_mem hp h))
      rw [h] at lf
      rw [lf.2.resolve_left (fun e => by cases e)] at g
      exact g
    rcases th_z hp with e | ⟨k, e⟩
    · have hl : thD (lessP p) = .tup [.str p.1, .non] := by
        show D.tup [.str p.1, lessZ p.2] = _
        rw [e]
        rfl
      rw [hl] at g2 g3
      cases hL : lsIn p with
      | true =>
        have g3 := g3 hL
        rw [hL] at g2
        push_cast [ix0, ix1, e, g1, g2, g3]
        exact ⟨_, _, rfl⟩
      | false =>
        rw [hL] at g2
        push_cast [ix0, ix1, e, g1, g2]
        exact ⟨_, _, rfl⟩
    · have hl : thD (lessP p) = .tup [.str p.1, .int (k - 1)] := by
        show D.tup [.str p.1, lessZ p.2] = _
        rw [e]
        rfl
      rw [hl] at g2 g3
      cases hL : lsIn p with
      | true =>
        have g3 := g3 hL
        rw [hL] at g2
        push_cast [ix0, ix1, e, g1, g2, g3]
        exact ⟨_, _, rfl⟩
      | false =>
        rw [hL] at g2
        push_cast [ix0, ix1, e, g1, g2]
        exact ⟨_, _, rfl⟩
  · rintro _ S2 ⟨e3, e4, rfl⟩ rfl
    push_cast []
    refine ⟨by decide, q_forM [5, 6] (fun S' => S' = S ++ [.nt kvs]) rfl ?_ ?_⟩
    · rintro d hd _ S2 ⟨e5, e6, rfl⟩ rfl
      obtain ⟨N, hj⟩ := List.mem_iff_getElem?.mp hd
      have hN4 : N < 4 := by
        have := (List.getElem?_eq_some_iff.mp hj).1
        rw [len_range] at this
        omega
      have hdd : d = .int (N : Int) := by
        have e : (rangeD 0 4)[N]? = some (.int (N : Int)) := by
          rcases (show N = 0 ∨ N = 1 ∨ N = 2 ∨ N = 3 by omega) with rfl | rfl | rfl | rfl <;> rfl
        rw [e] at hj
        exact (Option.some.inj hj).symm
      subst hdd
      have a1 := fun S => of_table (all_few S) N (List.mem_range.mpr hN4)
      have a2 := fun S => of_table (sub_few S) N (List.mem_range.mpr hN4)
      push_cast [a1, a2]
      refine q_forM [6] (fun S' => S' = S ++ [.nt kvs]) rfl ?_ ?_
      · rintro d hd _ S2 ⟨e6, rfl⟩ rfl
        obtain ⟨T, hTm, rfl⟩ := List.mem_map.mp hd
        have po := party_ok hS1.2.1 hT (N := N) (by omega) (few_ties hN4 hTm)
        push_cast [po]
        exact ⟨_, rfl⟩
      · rintro _ S2 ⟨e6, rfl⟩ rfl
        push_cast []
        exact ⟨_, _, rfl⟩
    · rintro _ S2 ⟨e5, e6, rfl⟩ rfl
      push_cast []
      refine ⟨by decide, q_forM [5, 7] (fun S' => St S' i S.length kvs) hS1 ?_ ?_⟩
      · rintro d hd _ S2 ⟨e5, e7, rfl⟩ hS2
        push_cast []
        refine drawQ hS2.1 (by decide) (by decide) fun r S3 r0 r1 hP3 hA3 => ?_
        have hS3 := hS2.apart hA3 hP3
        obtain ⟨N, hN⟩ : ∃ N : Nat, 4 + r = (N : Int) := ⟨(4 + r).toNat, by omega⟩
        push_cast [hN]
        refine tiesQ2 (by omega) (by omega) hS3.1 fun T S4 hU hP4 hA4 => ?_
        have hS4 := hS3.apart hA4 hP4
        have po := party_ok hS4.2.1 hT (N := N) (by omega) hU
        push_cast [po]
        exact ⟨⟨_, _, rfl⟩, hS4⟩
      · rintro _ S2 ⟨e5, e7, rfl⟩ _
        push_cast []
theorem plain (ns : List Int) (h : ns.length ≤ 63) : ∃ S', lawD [.scr ns] [] = some (.bl true, S') := by
  have main : Qr go (lawD [.scr ns] []) fun _ d S' => d = .bl true := by
    unfold lawD d_law b_law
    push_cast []
    refine ⟨by decide, by rw [len_range]; omega, ?_⟩
    refine q_lcE (fun d => d = .bl true) (fun _ _ => True) trivial ?_ ?_
    · rintro i d S' hi _
      obtain ⟨k, rfl, hk⟩ := range_mem (by omega) (List.mem_of_getElem? hi)
      push_cast [wipeD]
      refine r_purse ns h (k : Int) (by omega) (by omega) S' (P := ?_) fun S2 _ hP _ => ?_
      show Qr go _ _
      push_cast []
      exact q_imp (right_ok hP) fun d S3 e => e
    · intro ys S' hy _ _
      have ea := all_true (S := S') hy
      push_cast [ea]
  obtain ⟨d, S', e, rfl⟩ := main
  exact ⟨S', e⟩
end LW
set_option maxHeartbeats 4000000
namespace LW
open PySem PySem.Spec PyProof.Rows L2 DL
theorem all_mk {l : PySem.W.OpenLaw} {w : World} {K : PySem.W.Frag} {h : Heap} {mg : Str → Option Value} {fa : Addr} (X : K.In h) (G : h.Ns mainGlobals mg) (hfa : mg "law" = some (.ref fa))
    {t_MOST_ASKED : Tok}
    {g_FEW : Addr} {es_FEW : Array DictEntry} {cn_FEW : Nat}
    {g_LEAST : Addr} {es_LEAST : Array DictEntry} {cn_LEAST : Nat}
    {ga_PLAIN : Addr} {gd_PLAIN : Option Addr} {gi_PLAIN : Array Value} {gn_PLAIN : Nat} {gs_PLAIN : Array (Option Value)}
    {C_Thing : Addr}
    {f_is_integer : Addr} {od_is_integer an_is_integer : Option Addr} {sl_is_integer : Array (Option Value)} {oc_is_integer kV_is_integer dc_is_integer pm_is_integer cd_is_integer ct_is_integer : Value}
    {f_is_between : Addr} {od_is_between an_is_between : Option Addr} {sl_is_between : Array (Option Value)} {oc_is_between kV_is_between dc_is_between pm_is_between cd_is_between ct_is_between : Value}
    {f_Thing___init__ : Addr} {od_Thing___init__ an_Thing___init__ : Option Addr} {sl_Thing___init__ : Array (Option Value)} {oc_Thing___init__ kV_Thing___init__ dc_Thing___init__ pm_Thing___init__ cd_Thing___init__ ct_Thing___init__ : Value}
    {dt_Thing___init__ : Addr} {do_Thing___init__ : Value} {dd_Thing___init__ : Option Addr} {di_Thing___init__ : Array Value} {dn_Thing___init__ : Nat} {ds_Thing___init__ : Array (Option Value)}
    {f_Thing_kind : Addr} {od_Thing_kind an_Thing_kind : Option Addr} {sl_Thing_kind : Array (Option Value)} {oc_Thing_kind kV_Thing_kind dc_Thing_kind pm_Thing_kind cd_Thing_kind ct_Thing_kind : Value}
    {pp_Thing_kind : Addr} {pr_Thing_kind : List Value}
    {f_Thing_size : Addr} {od_Thing_size an_Thing_size : Option Addr} {sl_Thing_size : Array (Option Value)} {oc_Thing_size kV_Thing_size dc_Thing_size pm_Thing_size cd_Thing_size ct_Thing_size : Value}
    {pp_Thing_size : Addr} {pr_Thing_size : List Value}
    {f_check_thing : Addr} {od_check_thing an_check_thing : Option Addr} {sl_check_thing : Array (Option Value)} {oc_check_thing kV_check_thing dc_check_thing pm_check_thing cd_check_thing ct_check_thing : Value}
    {f_follows_from_core : Addr} {od_follows_from_core an_follows_from_core : Option Addr} {sl_follows_from_core : Array (Option Value)} {oc_follows_from_core kV_follows_from_core dc_follows_from_core pm_follows_from_core cd_follows_from_core ct_follows_from_core : Value}
    {f_follows_from_crowd : Addr} {od_follows_from_crowd an_follows_from_crowd : Option Addr} {sl_follows_from_crowd : Array (Option Value)} {oc_follows_from_crowd kV_follows_from_crowd dc_follows_from_crowd pm_follows_from_crowd cd_follows_from_crowd ct_follows_from_crowd : Value}
    {f_follows_from_ring : Addr} {od_follows_from_ring an_follows_from_ring : Option Addr} {sl_follows_from_ring : Array (Option Value)} {oc_follows_from_ring kV_follows_from_ring dc_follows_from_ring pm_follows_from_ring cd_follows_from_ring ct_follows_from_ring : Value}
    {f_all_from : Addr} {od_all_from an_all_from : Option Addr} {sl_all_from : Array (Option Value)} {oc_all_from kV_all_from dc_all_from pm_all_from cd_all_from ct_all_from : Value}
    {f_is_following : Addr} {od_is_following an_is_following : Option Addr} {sl_is_following : Array (Option Value)} {oc_is_following kV_is_following dc_is_following pm_is_following cd_is_following ct_is_following : Value}
    {f_follows : Addr} {od_follows an_follows : Option Addr} {sl_follows : Array (Option Value)} {oc_follows kV_follows dc_follows pm_follows cd_follows ct_follows : Value}
    {f__law_purse : Addr} {od__law_purse an__law_purse : Option Addr} {sl__law_purse : Array (Option Value)} {oc__law_purse kV__law_purse dc__law_purse pm__law_purse cd__law_purse ct__law_purse : Value}
    {f__law_draw : Addr} {od__law_draw an__law_draw : Option Addr} {sl__law_draw : Array (Option Value)} {oc__law_draw kV__law_draw dc__law_draw pm__law_draw cd__law_draw ct__law_draw : Value}
    {f__law_all : Addr} {od__law_all an__law_all : Option Addr} {sl__law_all : Array (Option Value)} {oc__law_all kV__law_all dc__law_all pm__law_all cd__law_all ct__law_all : Value}
    {f__law_ties : Addr} {od__law_ties an__law_ties : Option Addr} {sl__law_ties : Array (Option Value)} {oc__law_ties kV__law_ties dc__law_ties pm__law_ties cd__law_ties ct__law_ties : Value}
    {f__law_tied : Addr} {od__law_tied an__law_tied : Option Addr} {sl__law_tied : Array (Option Value)} {oc__law_tied kV__law_tied dc__law_tied pm__law_tied cd__law_tied ct__law_tied : Value}
    {f__law_subsets : Addr} {od__law_subsets an__law_subsets : Option Addr} {sl__law_subsets : Array (Option Value)} {oc__law_subsets kV__law_subsets dc__law_subsets pm__law_subsets cd__law_subsets ct__law_subsets : Value}
    {f__law_joined : Addr} {od__law_joined an__law_joined : Option Addr} {sl__law_joined : Array (Option Value)} {oc__law_joined kV__law_joined dc__law_joined pm__law_joined cd__law_joined ct__law_joined : Value}
    {f__law_rows_of : Addr} {od__law_rows_of an__law_rows_of : Option Addr} {sl__law_rows_of : Array (Option Value)} {oc__law_rows_of kV__law_rows_of dc__law_rows_of pm__law_rows_of cd__law_rows_of ct__law_rows_of : Value}
    {f__law_rings : Addr} {od__law_rings an__law_rings : Option Addr} {sl__law_rings : Array (Option Value)} {oc__law_rings kV__law_rings dc__law_rings pm__law_rings cd__law_rings ct__law_rings : Value}
    {f__law_pairs_apart : Addr} {od__law_pairs_apart an__law_pairs_apart : Option Addr} {sl__law_pairs_apart : Array (Option Value)} {oc__law_pairs_apart kV__law_pairs_apart dc__law_pairs_apart pm__law_pairs_apart cd__law_pairs_apart ct__law_pairs_apart : Value}
    {f__law_is_crowd : Addr} {od__law_is_crowd an__law_is_crowd : Option Addr} {sl__law_is_crowd : Array (Option Value)} {oc__law_is_crowd kV__law_is_crowd dc__law_is_crowd pm__law_is_crowd cd__law_is_crowd ct__law_is_crowd : Value}
    {f__law_core : Addr} {od__law_core an__law_core : Option Addr} {sl__law_core : Array (Option Value)} {oc__law_core kV__law_core dc__law_core pm__law_core cd__law_core ct__law_core : Value}
    {f__law_holds : Addr} {od__law_holds an__law_holds : Option Addr} {sl__law_holds : Array (Option Value)} {oc__law_holds kV__law_holds dc__law_holds pm__law_holds cd__law_holds ct__law_holds : Value}
    {f__law_things : Addr} {od__law_things an__law_things : Option Addr} {sl__law_things : Array (Option Value)} {oc__law_things kV__law_things dc__law_things pm__law_things cd__law_things ct__law_things : Value}
    {f__law_table : Addr} {od__law_table an__law_table : Option Addr} {sl__law_table : Array (Option Value)} {oc__law_table kV__law_table dc__law_table pm__law_table cd__law_table ct__law_table : Value}
    {f__law_party_right : Addr} {od__law_party_right an__law_party_right : Option Addr} {sl__law_party_right : Array (Option Value)} {oc__law_party_right kV__law_party_right dc__law_party_right pm__law_party_right cd__law_party_right ct__law_party_right : Value}
    {f__law_right : Addr} {od__law_right an__law_right : Option Addr} {sl__law_right : Array (Option Value)} {oc__law_right kV__law_right dc__law_right pm__law_right cd__law_right ct__law_right : Value}
    {f_law : Addr} {od_law an_law : Option Addr} {sl_law : Array (Option Value)} {oc_law kV_law dc_law pm_law cd_law ct_law : Value}
    (n_abs : PySem.W.nsIn K mainGlobals "abs" = some none)
    (n_all : PySem.W.nsIn K mainGlobals "all" = some none)
    (n_bool : PySem.W.nsIn K mainGlobals "bool" = some none)
    (n_dict : PySem.W.nsIn K mainGlobals "dict" = some none)
    (n_divmod : PySem.W.nsIn K mainGlobals "divmod" = some none)
    (n_enumerate : PySem.W.nsIn K mainGlobals "enumerate" = some none)
    (n_int : PySem.W.nsIn K mainGlobals "int" = some none)
    (n_isinstance : PySem.W.nsIn K mainGlobals "isinstance" = some none)
    (n_len : PySem.W.nsIn K mainGlobals "len" = some none)
    (n_list : PySem.W.nsIn K mainGlobals "list" = some none)
    (n_max : PySem.W.nsIn K mainGlobals "max" = some none)
    (n_min : PySem.W.nsIn K mainGlobals "min" = some none)
    (n_range : PySem.W.nsIn K mainGlobals "range" = some none)
    (n_set : PySem.W.nsIn K mainGlobals "set" = some none)
    (n_sorted : PySem.W.nsIn K mainGlobals "sorted" = some none)
    (n_str : PySem.W.nsIn K mainGlobals "str" = some none)
    (n_tuple : PySem.W.nsIn K mainGlobals "tuple" = some none)
    (c_MOST_ASKED : PySem.W.nsIn K mainGlobals "MOST_ASKED" = some (some (.int 10000000000000000000000000000000000000000 t_MOST_ASKED)))
    (k_FEW : PySem.W.nsIn K mainGlobals "FEW" = some (some (.ref g_FEW)))
    (l_FEW : K.lookup g_FEW = some ⟨.type "dict", none, .dict es_FEW cn_FEW, #[]⟩)
    (o_FEW : TabOk w.params tab_FEW es_FEW.toList)
    (y_FEW : (g_FEW == sysModules) = false)
    (k_LEAST : PySem.W.nsIn K mainGlobals "LEAST" = some (some (.ref g_LEAST)))
    (l_LEAST : K.lookup g_LEAST = some ⟨.type "dict", none, .dict es_LEAST cn_LEAST, #[]⟩)
    (o_LEAST : TabOk w.params tab_LEAST es_LEAST.toList)
    (y_LEAST : (g_LEAST == sysModules) = false)
    (ta_PLAIN : PySem.W.nsIn K mainGlobals "PLAIN" = some (some (.ref ga_PLAIN)))
    (tl_PLAIN : K.lookup ga_PLAIN = some ⟨.type "tuple", gd_PLAIN, .seq gi_PLAIN gn_PLAIN, gs_PLAIN⟩)
    (tz_PLAIN : gi_PLAIN.size ≤ sizeLine)
    (tv_PLAIN : Vals [.str "odd ring", .str "even ring"] gi_PLAIN.toList)
    (ca_Thing : PySem.W.nsIn K mainGlobals "Thing" = some (some (.ref C_Thing)))
    (cpg_Thing : PySem.W.plainGet K C_Thing Str.empty = true)
    (chd_Thing : PySem.W.hasDictIn K C_Thing = true)
    (cpo_Thing : PySem.W.plainOver K C_Thing = true)
    (csa_Thing : PySem.W.findIn K (.ref C_Thing) "__setattr__" = some (some (.builtin "object.__setattr__")))
    (cmk_Thing : PySem.W.makesIn K C_Thing = true)
    (ckp_Thing : PySem.W.keepIn K (.ref C_Thing) = true)
    (ia_Thing : PySem.W.findIn K (.ref C_Thing) "__class__" = some (some (.builtin "object.__class__")))
    (ib_Thing : PySem.W.specialIn K (.builtin "object.__class__") "__get__" = some (some (.builtin "getset_descriptor.__get__")))
    (id_Thing : PySem.W.takesIn K (.builtin "object.__class__") = some true)
    (ie_Thing : PySem.W.mroIn K C_Thing (.type "object") = some true)
    (on_Thing : PySem.W.findIn K (.ref C_Thing) "__ne__" = some (some (.builtin "object.__ne__")))
    (of_Thing : PySem.W.findIn K (.ref C_Thing) "__format__" = some (some (.builtin "object.__format__")))
    (oo_Thing : PySem.W.mroIn K C_Thing (.type "object") = some true)
    (ok_Thing : PySem.W.kitCls K (.type "NoneType") (.ref C_Thing) = some false)
    (na_Thing_many : PySem.W.findIn K (.ref C_Thing) "many" = some none)
    (na_Thing_word : PySem.W.findIn K (.ref C_Thing) "word" = some none)
    (a_is_integer : PySem.W.nsIn K mainGlobals "is_integer" = some (some (.ref f_is_integer)))
    (l_is_integer : K.lookup f_is_integer = some ⟨oc_is_integer, od_is_integer, .func (PySem.W.fnOf "is_integer" "is_integer" (defArgs s_is_integer) (defBody s_is_integer) (defScope s_is_integer) .none kV_is_integer dc_is_integer pm_is_integer an_is_integer cd_is_integer ct_is_integer), sl_is_integer⟩)
    (c_is_integer : PySem.W.codeIn K cd_is_integer "is_integer" = true)
    (k_is_integer : PySem.W.keepIn K (.ref f_is_integer) = true)
    (a_is_between : PySem.W.nsIn K mainGlobals "is_between" = some (some (.ref f_is_between)))
    (l_is_between : K.lookup f_is_between = some ⟨oc_is_between, od_is_between, .func (PySem.W.fnOf "is_between" "is_between" (defArgs s_is_between) (defBody s_is_between) (defScope s_is_between) .none kV_is_between dc_is_between pm_is_between an_is_between cd_is_between ct_is_between), sl_is_between⟩)
    (c_is_between : PySem.W.codeIn K cd_is_between "is_between" = true)
    (k_is_between : PySem.W.keepIn K (.ref f_is_between) = true)
    (a_Thing___init__ : PySem.W.findIn K (.ref C_Thing) "__init__" = some (some (.ref f_Thing___init__)))
    (i_Thing___init__ : PySem.W.isFn K (.ref f_Thing___init__) = true)
    (l_Thing___init__ : K.lookup f_Thing___init__ = some ⟨oc_Thing___init__, od_Thing___init__, .func (PySem.W.fnOf "__init__" "Thing.__init__" (defArgs s_Thing___init__) (defBody s_Thing___init__) (defScope s_Thing___init__) (.ref dt_Thing___init__) kV_Thing___init__ dc_Thing___init__ pm_Thing___init__ an_Thing___init__ cd_Thing___init__ ct_Thing___init__), sl_Thing___init__⟩)
    (c_Thing___init__ : PySem.W.codeIn K cd_Thing___init__ "Thing.__init__" = true)
    (k_Thing___init__ : PySem.W.keepIn K (.ref f_Thing___init__) = true)
    (dl_Thing___init__ : K.lookup dt_Thing___init__ = some ⟨do_Thing___init__, dd_Thing___init__, .seq di_Thing___init__ dn_Thing___init__, ds_Thing___init__⟩)
    (dv_Thing___init__ : Vals [.non] di_Thing___init__.toList)
    (pa_Thing_kind : PySem.W.findIn K (.ref C_Thing) "kind" = some (some (.ref pp_Thing_kind)))
    (pg_Thing_kind : PySem.W.specialIn K (.ref pp_Thing_kind) "__get__" = some (some (.builtin "property.__get__")))
    (pt_Thing_kind : PySem.W.takesIn K (.ref pp_Thing_kind) = some true)
    (px_Thing_kind : PySem.W.recIn K pp_Thing_kind "property" = some (.ref f_Thing_kind :: pr_Thing_kind))
    (l_Thing_kind : K.lookup f_Thing_kind = some ⟨oc_Thing_kind, od_Thing_kind, .func (PySem.W.fnOf "kind" "Thing.kind" (defArgs s_Thing_kind) (defBody s_Thing_kind) (defScope s_Thing_kind) .none kV_Thing_kind dc_Thing_kind pm_Thing_kind an_Thing_kind cd_Thing_kind ct_Thing_kind), sl_Thing_kind⟩)
    (c_Thing_kind : PySem.W.codeIn K cd_Thing_kind "Thing.kind" = true)
    (k_Thing_kind : PySem.W.keepIn K (.ref f_Thing_kind) = true)
    (pa_Thing_size : PySem.W.findIn K (.ref C_Thing) "size" = some (some (.ref pp_Thing_size)))
    (pg_Thing_size : PySem.W.specialIn K (.ref pp_Thing_size) "__get__" = some (some (.builtin "property.__get__")))
    (pt_Thing_size : PySem.W.takesIn K (.ref pp_Thing_size) = some true)
    (px_Thing_size : PySem.W.recIn K pp_Thing_size "property" = some (.ref f_Thing_size :: pr_Thing_size))
    (l_Thing_size : K.lookup f_Thing_size = some ⟨oc_Thing_size, od_Thing_size, .func (PySem.W.fnOf "size" "Thing.size" (defArgs s_Thing_size) (defBody s_Thing_size) (defScope s_Thing_size) .none kV_Thing_size dc_Thing_size pm_Thing_size an_Thing_size cd_Thing_size ct_Thing_size), sl_Thing_size⟩)
    (c_Thing_size : PySem.W.codeIn K cd_Thing_size "Thing.size" = true)
    (k_Thing_size : PySem.W.keepIn K (.ref f_Thing_size) = true)
    (a_check_thing : PySem.W.nsIn K mainGlobals "check_thing" = some (some (.ref f_check_thing)))
    (l_check_thing : K.lookup f_check_thing = some ⟨oc_check_thing, od_check_thing, .func (PySem.W.fnOf "check_thing" "check_thing" (defArgs s_check_thing) (defBody s_check_thing) (defScope s_check_thing) .none kV_check_thing dc_check_thing pm_check_thing an_check_thing cd_check_thing ct_check_thing), sl_check_thing⟩)
    (c_check_thing : PySem.W.codeIn K cd_check_thing "check_thing" = true)
    (k_check_thing : PySem.W.keepIn K (.ref f_check_thing) = true)
    (a_follows_from_core : PySem.W.nsIn K mainGlobals "follows_from_core" = some (some (.ref f_follows_from_core)))
    (l_follows_from_core : K.lookup f_follows_from_core = some ⟨oc_follows_from_core, od_follows_from_core, .func (PySem.W.fnOf "follows_from_core" "follows_from_core" (defArgs s_follows_from_core) (defBody s_follows_from_core) (defScope s_follows_from_core) .none kV_follows_from_core dc_follows_from_core pm_follows_from_core an_follows_from_core cd_follows_from_core ct_follows_from_core), sl_follows_from_core⟩)
    (c_follows_from_core : PySem.W.codeIn K cd_follows_from_core "follows_from_core" = true)
    (k_follows_from_core : PySem.W.keepIn K (.ref f_follows_from_core) = true)
    (a_follows_from_crowd : PySem.W.nsIn K mainGlobals "follows_from_crowd" = some (some (.ref f_follows_from_crowd)))
    (l_follows_from_crowd : K.lookup f_follows_from_crowd = some ⟨oc_follows_from_crowd, od_follows_from_crowd, .func (PySem.W.fnOf "follows_from_crowd" "follows_from_crowd" (defArgs s_follows_from_crowd) (defBody s_follows_from_crowd) (defScope s_follows_from_crowd) .none kV_follows_from_crowd dc_follows_from_crowd pm_follows_from_crowd an_follows_from_crowd cd_follows_from_crowd ct_follows_from_crowd), sl_follows_from_crowd⟩)
    (c_follows_from_crowd : PySem.W.codeIn K cd_follows_from_crowd "follows_from_crowd" = true)
    (k_follows_from_crowd : PySem.W.keepIn K (.ref f_follows_from_crowd) = true)
    (a_follows_from_ring : PySem.W.nsIn K mainGlobals "follows_from_ring" = some (some (.ref f_follows_from_ring)))
    (l_follows_from_ring : K.lookup f_follows_from_ring = some ⟨oc_follows_from_ring, od_follows_from_ring, .func (PySem.W.fnOf "follows_from_ring" "follows_from_ring" (defArgs s_follows_from_ring) (defBody s_follows_from_ring) (defScope s_follows_from_ring) .none kV_follows_from_ring dc_follows_from_ring pm_follows_from_ring an_follows_from_ring cd_follows_from_ring ct_follows_from_ring), sl_follows_from_ring⟩)
    (c_follows_from_ring : PySem.W.codeIn K cd_follows_from_ring "follows_from_ring" = true)
    (k_follows_from_ring : PySem.W.keepIn K (.ref f_follows_from_ring) = true)
    (a_all_from : PySem.W.nsIn K mainGlobals "all_from" = some (some (.ref f_all_from)))
    (l_all_from : K.lookup f_all_from = some ⟨oc_all_from, od_all_from, .func (PySem.W.fnOf "all_from" "all_from" (defArgs s_all_from) (defBody s_all_from) (defScope s_all_from) .none kV_all_from dc_all_from pm_all_from an_all_from cd_all_from ct_all_from), sl_all_from⟩)
    (c_all_from : PySem.W.codeIn K cd_all_from "all_from" = true)
    (k_all_from : PySem.W.keepIn K (.ref f_all_from) = true)
    (a_is_following : PySem.W.nsIn K mainGlobals "is_following" = some (some (.ref f_is_following)))
    (l_is_following : K.lookup f_is_following = some ⟨oc_is_following, od_is_following, .func (PySem.W.fnOf "is_following" "is_following" (defArgs s_is_following) (defBody s_is_following) (defScope s_is_following) .none kV_is_following dc_is_following pm_is_following an_is_following cd_is_following ct_is_following), sl_is_following⟩)
    (c_is_following : PySem.W.codeIn K cd_is_following "is_following" = true)
    (k_is_following : PySem.W.keepIn K (.ref f_is_following) = true)
    (a_follows : PySem.W.nsIn K mainGlobals "follows" = some (some (.ref f_follows)))
    (l_follows : K.lookup f_follows = some ⟨oc_follows, od_follows, .func (PySem.W.fnOf "follows" "follows" (defArgs s_follows) (defBody s_follows) (defScope s_follows) .none kV_follows dc_follows pm_follows an_follows cd_follows ct_follows), sl_follows⟩)
    (c_follows : PySem.W.codeIn K cd_follows "follows" = true)
    (k_follows : PySem.W.keepIn K (.ref f_follows) = true)
    (a__law_purse : PySem.W.nsIn K mainGlobals "_law_purse" = some (some (.ref f__law_purse)))
    (l__law_purse : K.lookup f__law_purse = some ⟨oc__law_purse, od__law_purse, .func (PySem.W.fnOf "_law_purse" "_law_purse" (defArgs s__law_purse) (defBody s__law_purse) (defScope s__law_purse) .none kV__law_purse dc__law_purse pm__law_purse an__law_purse cd__law_purse ct__law_purse), sl__law_purse⟩)
    (c__law_purse : PySem.W.codeIn K cd__law_purse "_law_purse" = true)
    (k__law_purse : PySem.W.keepIn K (.ref f__law_purse) = true)
    (a__law_draw : PySem.W.nsIn K mainGlobals "_law_draw" = some (some (.ref f__law_draw)))
    (l__law_draw : K.lookup f__law_draw = some ⟨oc__law_draw, od__law_draw, .func (PySem.W.fnOf "_law_draw" "_law_draw" (defArgs s__law_draw) (defBody s__law_draw) (defScope s__law_draw) .none kV__law_draw dc__law_draw pm__law_draw an__law_draw cd__law_draw ct__law_draw), sl__law_draw⟩)
    (c__law_draw : PySem.W.codeIn K cd__law_draw "_law_draw" = true)
    (k__law_draw : PySem.W.keepIn K (.ref f__law_draw) = true)
    (a__law_all : PySem.W.nsIn K mainGlobals "_law_all" = some (some (.ref f__law_all)))
    (l__law_all : K.lookup f__law_all = some ⟨oc__law_all, od__law_all, .func (PySem.W.fnOf "_law_all" "_law_all" (defArgs s__law_all) (defBody s__law_all) (defScope s__law_all) .none kV__law_all dc__law_all pm__law_all an__law_all cd__law_all ct__law_all), sl__law_all⟩)
    (c__law_all : PySem.W.codeIn K cd__law_all "_law_all" = true)
    (k__law_all : PySem.W.keepIn K (.ref f__law_all) = true)
    (a__law_ties : PySem.W.nsIn K mainGlobals "_law_ties" = some (some (.ref f__law_ties)))
    (l__law_ties : K.lookup f__law_ties = some ⟨oc__law_ties, od__law_ties, .func (PySem.W.fnOf "_law_ties" "_law_ties" (defArgs s__law_ties) (defBody s__law_ties) (defScope s__law_ties) .none kV__law_ties dc__law_ties pm__law_ties an__law_ties cd__law_ties ct__law_ties), sl__law_ties⟩)
    (c__law_ties : PySem.W.codeIn K cd__law_ties "_law_ties" = true)
    (k__law_ties : PySem.W.keepIn K (.ref f__law_ties) = true)
    (a__law_tied : PySem.W.nsIn K mainGlobals "_law_tied" = some (some (.ref f__law_tied)))
    (l__law_tied : K.lookup f__law_tied = some ⟨oc__law_tied, od__law_tied, .func (PySem.W.fnOf "_law_tied" "_law_tied" (defArgs s__law_tied) (defBody s__law_tied) (defScope s__law_tied) .none kV__law_tied dc__law_tied pm__law_tied an__law_tied cd__law_tied ct__law_tied), sl__law_tied⟩)
    (c__law_tied : PySem.W.codeIn K cd__law_tied "_law_tied" = true)
    (k__law_tied : PySem.W.keepIn K (.ref f__law_tied) = true)
    (a__law_subsets : PySem.W.nsIn K mainGlobals "_law_subsets" = some (some (.ref f__law_subsets)))
    (l__law_subsets : K.lookup f__law_subsets = some ⟨oc__law_subsets, od__law_subsets, .func (PySem.W.fnOf "_law_subsets" "_law_subsets" (defArgs s__law_subsets) (defBody s__law_subsets) (defScope s__law_subsets) .none kV__law_subsets dc__law_subsets pm__law_subsets an__law_subsets cd__law_subsets ct__law_subsets), sl__law_subsets⟩)
    (c__law_subsets : PySem.W.codeIn K cd__law_subsets "_law_subsets" = true)
    (k__law_subsets : PySem.W.keepIn K (.ref f__law_subsets) = true)
    (a__law_joined : PySem.W.nsIn K mainGlobals "_law_joined" = some (some (.ref f__law_joined)))
    (l__law_joined : K.lookup f__law_joined = some ⟨oc__law_joined, od__law_joined, .func (PySem.W.fnOf "_law_joined" "_law_joined" (defArgs s__law_joined) (defBody s__law_joined) (defScope s__law_joined) .none kV__law_joined dc__law_joined pm__law_joined an__law_joined cd__law_joined ct__law_joined), sl__law_joined⟩)
    (c__law_joined : PySem.W.codeIn K cd__law_joined "_law_joined" = true)
    (k__law_joined : PySem.W.keepIn K (.ref f__law_joined) = true)
    (a__law_rows_of : PySem.W.nsIn K mainGlobals "_law_rows_of" = some (some (.ref f__law_rows_of)))
    (l__law_rows_of : K.lookup f__law_rows_of = some ⟨oc__law_rows_of, od__law_rows_of, .func (PySem.W.fnOf "_law_rows_of" "_law_rows_of" (defArgs s__law_rows_of) (defBody s__law_rows_of) (defScope s__law_rows_of) .none kV__law_rows_of dc__law_rows_of pm__law_rows_of an__law_rows_of cd__law_rows_of ct__law_rows_of), sl__law_rows_of⟩)
    (c__law_rows_of : PySem.W.codeIn K cd__law_rows_of "_law_rows_of" = true)
    (k__law_rows_of : PySem.W.keepIn K (.ref f__law_rows_of) = true)
    (a__law_rings : PySem.W.nsIn K mainGlobals "_law_rings" = some (some (.ref f__law_rings)))
    (l__law_rings : K.lookup f__law_rings = some ⟨oc__law_rings, od__law_rings, .func (PySem.W.fnOf "_law_rings" "_law_rings" (defArgs s__law_rings) (defBody s__law_rings) (defScope s__law_rings) .none kV__law_rings dc__law_rings pm__law_rings an__law_rings cd__law_rings ct__law_rings), sl__law_rings⟩)
    (c__law_rings : PySem.W.codeIn K cd__law_rings "_law_rings" = true)
    (k__law_rings : PySem.W.keepIn K (.ref f__law_rings) = true)
    (a__law_pairs_apart : PySem.W.nsIn K mainGlobals "_law_pairs_apart" = some (some (.ref f__law_pairs_apart)))
    (l__law_pairs_apart : K.lookup f__law_pairs_apart = some ⟨oc__law_pairs_apart, od__law_pairs_apart, .func (PySem.W.fnOf "_law_pairs_apart" "_law_pairs_apart" (defArgs s__law_pairs_apart) (defBody s__law_pairs_apart) (defScope s__law_pairs_apart) .none kV__law_pairs_apart dc__law_pairs_apart pm__law_pairs_apart an__law_pairs_apart cd__law_pairs_apart ct__law_pairs_apart), sl__law_pairs_apart⟩)
    (c__law_pairs_apart : PySem.W.codeIn K cd__law_pairs_apart "_law_pairs_apart" = true)
    (k__law_pairs_apart : PySem.W.keepIn K (.ref f__law_pairs_apart) = true)
    (a__law_is_crowd : PySem.W.nsIn K mainGlobals "_law_is_crowd" = some (some (.ref f__law_is_crowd)))
    (l__law_is_crowd : K.lookup f__law_is_crowd = some ⟨oc__law_is_crowd, od__law_is_crowd, .func (PySem.W.fnOf "_law_is_crowd" "_law_is_crowd" (defArgs s__law_is_crowd) (defBody s__law_is_crowd) (defScope s__law_is_crowd) .none kV__law_is_crowd dc__law_is_crowd pm__law_is_crowd an__law_is_crowd cd__law_is_crowd ct__law_is_crowd), sl__law_is_crowd⟩)
    (c__law_is_crowd : PySem.W.codeIn K cd__law_is_crowd "_law_is_crowd" = true)
    (k__law_is_crowd : PySem.W.keepIn K (.ref f__law_is_crowd) = true)
    (a__law_core : PySem.W.nsIn K mainGlobals "_law_core" = some (some (.ref f__law_core)))
    (l__law_core : K.lookup f__law_core = some ⟨oc__law_core, od__law_core, .func (PySem.W.fnOf "_law_core" "_law_core" (defArgs s__law_core) (defBody s__law_core) (defScope s__law_core) .none kV__law_core dc__law_core pm__law_core an__law_core cd__law_core ct__law_core), sl__law_core⟩)
    (c__law_core : PySem.W.codeIn K cd__law_core "_law_core" = true)
    (k__law_core : PySem.W.keepIn K (.ref f__law_core) = true)
    (a__law_holds : PySem.W.nsIn K mainGlobals "_law_holds" = some (some (.ref f__law_holds)))
    (l__law_holds : K.lookup f__law_holds = some ⟨oc__law_holds, od__law_holds, .func (PySem.W.fnOf "_law_holds" "_law_holds" (defArgs s__law_holds) (defBody s__law_holds) (defScope s__law_holds) .none kV__law_holds dc__law_holds pm__law_holds an__law_holds cd__law_holds ct__law_holds), sl__law_holds⟩)
    (c__law_holds : PySem.W.codeIn K cd__law_holds "_law_holds" = true)
    (k__law_holds : PySem.W.keepIn K (.ref f__law_holds) = true)
    (a__law_things : PySem.W.nsIn K mainGlobals "_law_things" = some (some (.ref f__law_things)))
    (l__law_things : K.lookup f__law_things = some ⟨oc__law_things, od__law_things, .func (PySem.W.fnOf "_law_things" "_law_things" (defArgs s__law_things) (defBody s__law_things) (defScope s__law_things) .none kV__law_things dc__law_things pm__law_things an__law_things cd__law_things ct__law_things), sl__law_things⟩)
    (c__law_things : PySem.W.codeIn K cd__law_things "_law_things" = true)
    (k__law_things : PySem.W.keepIn K (.ref f__law_things) = true)
    (a__law_table : PySem.W.nsIn K mainGlobals "_law_table" = some (some (.ref f__law_table)))
    (l__law_table : K.lookup f__law_table = some ⟨oc__law_table, od__law_table, .func (PySem.W.fnOf "_law_table" "_law_table" (defArgs s__law_table) (defBody s__law_table) (defScope s__law_table) .none kV__law_table dc__law_table pm__law_table an__law_table cd__law_table ct__law_table), sl__law_table⟩)
    (c__law_table : PySem.W.codeIn K cd__law_table "_law_table" = true)
    (k__law_table : PySem.W.keepIn K (.ref f__law_table) = true)
    (a__law_party_right : PySem.W.nsIn K mainGlobals "_law_party_right" = some (some (.ref f__law_party_right)))
    (l__law_party_right : K.lookup f__law_party_right = some ⟨oc__law_party_right, od__law_party_right, .func (PySem.W.fnOf "_law_party_right" "_law_party_right" (defArgs s__law_party_right) (defBody s__law_party_right) (defScope s__law_party_right) .none kV__law_party_right dc__law_party_right pm__law_party_right an__law_party_right cd__law_party_right ct__law_party_right), sl__law_party_right⟩)
    (c__law_party_right : PySem.W.codeIn K cd__law_party_right "_law_party_right" = true)
    (k__law_party_right : PySem.W.keepIn K (.ref f__law_party_right) = true)
    (a__law_right : PySem.W.nsIn K mainGlobals "_law_right" = some (some (.ref f__law_right)))
    (l__law_right : K.lookup f__law_right = some ⟨oc__law_right, od__law_right, .func (PySem.W.fnOf "_law_right" "_law_right" (defArgs s__law_right) (defBody s__law_right) (defScope s__law_right) .none kV__law_right dc__law_right pm__law_right an__law_right cd__law_right ct__law_right), sl__law_right⟩)
    (c__law_right : PySem.W.codeIn K cd__law_right "_law_right" = true)
    (k__law_right : PySem.W.keepIn K (.ref f__law_right) = true)
    (a_law : PySem.W.nsIn K mainGlobals "law" = some (some (.ref f_law)))
    (l_law : K.lookup f_law = some ⟨oc_law, od_law, .func (PySem.W.fnOf "law" "law" (defArgs s_law) (defBody s_law) (defScope s_law) .none kV_law dc_law pm_law an_law cd_law ct_law), sl_law⟩)
    (c_law : PySem.W.codeIn K cd_law "law" = true)
    (k_law : PySem.W.keepIn K (.ref f_law) = true) :
    ∃ fd : FuncData, (∀ (s : Shared) (v : Value), BindsTo s fd ⟨[v], []⟩ [("_law_script", v)]) ∧ ∀ base : Heap, K.In base → base.Ns mainGlobals mg → FnG l.prog w K mg base 60 fa fd ["_law_script"] (spScr K) := by
  have e := hfa.symm.trans (PySem.W.mg_of X G a_law)
  cases e
  have T : Txt w K mg (fun c : Str => if c = "Thing" then some C_Thing else hct w c) C_Thing := ⟨fun x => (if_neg (hq_ne (by decide +kernel))).trans (hct_hq w x),
    PySem.W.mg_none_of X G n_abs,
    PySem.W.mg_none_of X G n_all,
    PySem.W.mg_none_of X G n_bool,
    PySem.W.mg_none_of X G n_dict,
    PySem.W.mg_none_of X G n_divmod,
    PySem.W.mg_none_of X G n_enumerate,
    PySem.W.mg_none_of X G n_int,
    PySem.W.mg_none_of X G n_isinstance,
    PySem.W.mg_none_of X G n_len,
    PySem.W.mg_none_of X G n_list,
    PySem.W.mg_none_of X G n_max,
    PySem.W.mg_none_of X G n_min,
    PySem.W.mg_none_of X G n_range,
    PySem.W.mg_none_of X G n_set,
    PySem.W.mg_none_of X G n_sorted,
    PySem.W.mg_none_of X G n_str,
    PySem.W.mg_none_of X G n_tuple,
    ⟨_, PySem.W.mg_of X G c_MOST_ASKED, ⟨_, rfl⟩⟩,
    kg_of (PySem.W.mg_of X G k_FEW) l_FEW o_FEW y_FEW,
    kg_of (PySem.W.mg_of X G k_LEAST) l_LEAST o_LEAST y_LEAST,
    ⟨_, _, _, _, PySem.W.mg_of X G ta_PLAIN, tl_PLAIN, rfl, rfl, tz_PLAIN, tv_PLAIN⟩,
    ⟨_, _, _, PySem.W.mg_of X G k_FEW, l_FEW, o_FEW, y_FEW⟩,
    ⟨(if_pos rfl), ⟨cpg_Thing, chd_Thing, cpo_Thing, csa_Thing⟩⟩,
    PySem.W.mg_of X G ca_Thing,
    ⟨⟨cpg_Thing, chd_Thing, cpo_Thing, csa_Thing⟩, ia_Thing, ib_Thing, id_Thing, ie_Thing, if_pos (beq_self_eq_true _)⟩,
    ⟨on_Thing, of_Thing, oo_Thing, ok_Thing⟩,
    na_Thing_many,
    na_Thing_word,
    ⟨_, _, fun_mk (st := s_is_integer) l_is_integer c_is_integer k_is_integer, PySem.W.mg_of X G a_is_integer, (fun_mk (st := s_is_integer) l_is_integer c_is_integer k_is_integer).binds (ps := ["value"]) (fun _ _ _ _ _ _ us hl => match us, hl with | [_], _ => rfl), (fun b hb => by cases hb)⟩,
    ⟨_, _, fun_mk (st := s_is_between) l_is_between c_is_between k_is_between, PySem.W.mg_of X G a_is_between, (fun_mk (st := s_is_between) l_is_between c_is_between k_is_between).binds (ps := ["value", "least", "most"]) (fun _ _ _ _ _ _ us hl => match us, hl with | [_, _, _], _ => rfl), (fun b hb => by cases hb)⟩,
    ⟨_, _, (FunD.mk ⟨_, _, _, _, _, _, _, _, _, _, rfl, l_Thing___init__, c_Thing___init__, .inr ⟨by simp, _, _, _, dn_Thing___init__, rfl, dl_Thing___init__, by simp, dv_Thing___init__⟩, .inl rfl⟩ k_Thing___init__), ⟨cmk_Thing, a_Thing___init__, i_Thing___init__, ckp_Thing⟩, fun j hj => (match j, hj with | 0, _ => FunD.binds1 (ps := ["self", "kind", "size"]) (FunD.mk ⟨_, _, _, _, _, _, _, _, _, _, rfl, l_Thing___init__, c_Thing___init__, .inr ⟨by simp, _, _, _, dn_Thing___init__, rfl, dl_Thing___init__, by simp, dv_Thing___init__⟩, .inl rfl⟩ k_Thing___init__) 2 0 (by simp) (by simp) fun _ _ _ _ _ _ _ us its h1 h2 => (match us, h1, its, h2 with | [_, _], _, [_], _ => ⟨_, rfl, rfl⟩) | 1, _ => FunD.binds1 (ps := ["self", "kind", "size"]) (FunD.mk ⟨_, _, _, _, _, _, _, _, _, _, rfl, l_Thing___init__, c_Thing___init__, .inr ⟨by simp, _, _, _, dn_Thing___init__, rfl, dl_Thing___init__, by simp, dv_Thing___init__⟩, .inl rfl⟩ k_Thing___init__) 3 1 (by simp) (by simp) fun _ _ _ _ _ _ _ us its h1 h2 => (match us, h1, its, h2 with | [_, _, _], _, [_], _ => ⟨_, rfl, rfl⟩) | j + 2, h => absurd h (by simp)), fun b hb => by cases hb⟩,
    ⟨_, _, _, fun_mk (st := s_Thing_kind) l_Thing_kind c_Thing_kind k_Thing_kind, ⟨pa_Thing_kind, pg_Thing_kind, pt_Thing_kind, ⟨_, px_Thing_kind⟩⟩, (fun_mk (st := s_Thing_kind) l_Thing_kind c_Thing_kind k_Thing_kind).binds (ps := ["self"]) (fun _ _ _ _ _ _ us hl => match us, hl with | [_], _ => rfl)⟩,
    ⟨_, _, _, fun_mk (st := s_Thing_size) l_Thing_size c_Thing_size k_Thing_size, ⟨pa_Thing_size, pg_Thing_size, pt_Thing_size, ⟨_, px_Thing_size⟩⟩, (fun_mk (st := s_Thing_size) l_Thing_size c_Thing_size k_Thing_size).binds (ps := ["self"]) (fun _ _ _ _ _ _ us hl => match us, hl with | [_], _ => rfl)⟩,
    ⟨_, _, fun_mk (st := s_check_thing) l_check_thing c_check_thing k_check_thing, PySem.W.mg_of X G a_check_thing, (fun_mk (st := s_check_thing) l_check_thing c_check_thing k_check_thing).binds (ps := ["thing"]) (fun _ _ _ _ _ _ us hl => match us, hl with | [_], _ => rfl), (fun b hb => by cases hb)⟩,
    ⟨_, _, fun_mk (st := s_follows_from_core) l_follows_from_core c_follows_from_core k_follows_from_core, PySem.W.mg_of X G a_follows_from_core, (fun_mk (st := s_follows_from_core) l_follows_from_core c_follows_from_core k_follows_from_core).binds (ps := ["number"]) (fun _ _ _ _ _ _ us hl => match us, hl with | [_], _ => rfl), (fun b hb => by cases hb)⟩,
    ⟨_, _, fun_mk (st := s_follows_from_crowd) l_follows_from_crowd c_follows_from_crowd k_follows_from_crowd, PySem.W.mg_of X G a_follows_from_crowd, (fun_mk (st := s_follows_from_crowd) l_follows_from_crowd c_follows_from_crowd k_follows_from_crowd).binds (ps := ["number"]) (fun _ _ _ _ _ _ us hl => match us, hl with | [_], _ => rfl), (fun b hb => by cases hb)⟩,
    ⟨_, _, fun_mk (st := s_follows_from_ring) l_follows_from_ring c_follows_from_ring k_follows_from_ring, PySem.W.mg_of X G a_follows_from_ring, (fun_mk (st := s_follows_from_ring) l_follows_from_ring c_follows_from_ring k_follows_from_ring).binds (ps := ["kind", "number"]) (fun _ _ _ _ _ _ us hl => match us, hl with | [_, _], _ => rfl), (fun b hb => by cases hb)⟩,
    ⟨_, _, fun_mk (st := s_all_from) l_all_from c_all_from k_all_from, PySem.W.mg_of X G a_all_from, (fun_mk (st := s_all_from) l_all_from c_all_from k_all_from).binds (ps := ["kind", "number"]) (fun _ _ _ _ _ _ us hl => match us, hl with | [_, _], _ => rfl), (fun b hb => by cases hb)⟩,
    ⟨_, _, fun_mk (st := s_is_following) l_is_following c_is_following k_is_following, PySem.W.mg_of X G a_is_following, (fun_mk (st := s_is_following) l_is_following c_is_following k_is_following).binds (ps := ["thing", "other"]) (fun _ _ _ _ _ _ us hl => match us, hl with | [_, _], _ => rfl), (fun b hb => by cases hb)⟩,
    ⟨_, _, fun_mk (st := s_follows) l_follows c_follows k_follows, PySem.W.mg_of X G a_follows, (fun_mk (st := s_follows) l_follows c_follows k_follows).binds (ps := ["thing", "other"]) (fun _ _ _ _ _ _ us hl => match us, hl with | [_, _], _ => rfl), (List.forall_mem_cons.mpr ⟨⟨fun s us ws _ h1 h2 => (match us, h1, ws, h2 with | [], _, [_, _], _ => .of_eq rfl), kwG_vals⟩, fun b hb => by cases hb⟩)⟩,
    ⟨_, _, fun_mk (st := s__law_purse) l__law_purse c__law_purse k__law_purse, PySem.W.mg_of X G a__law_purse, (fun_mk (st := s__law_purse) l__law_purse c__law_purse k__law_purse).binds (ps := ["_law_script", "_law_spot"]) (fun _ _ _ _ _ _ us hl => match us, hl with | [_, _], _ => rfl), (fun b hb => by cases hb)⟩,
    ⟨_, _, fun_mk (st := s__law_draw) l__law_draw c__law_draw k__law_draw, PySem.W.mg_of X G a__law_draw, (fun_mk (st := s__law_draw) l__law_draw c__law_draw k__law_draw).binds (ps := ["_law_purse_here", "_law_many"]) (fun _ _ _ _ _ _ us hl => match us, hl with | [_, _], _ => rfl), (fun b hb => by cases hb)⟩,
    ⟨_, _, fun_mk (st := s__law_all) l__law_all c__law_all k__law_all, PySem.W.mg_of X G a__law_all, (fun_mk (st := s__law_all) l__law_all c__law_all k__law_all).binds (ps := ["_law_many"]) (fun _ _ _ _ _ _ us hl => match us, hl with | [_], _ => rfl), (fun b hb => by cases hb)⟩,
    ⟨_, _, fun_mk (st := s__law_ties) l__law_ties c__law_ties k__law_ties, PySem.W.mg_of X G a__law_ties, (fun_mk (st := s__law_ties) l__law_ties c__law_ties k__law_ties).binds (ps := ["_law_purse_here", "_law_many"]) (fun _ _ _ _ _ _ us hl => match us, hl with | [_, _], _ => rfl), (fun b hb => by cases hb)⟩,
    ⟨_, _, fun_mk (st := s__law_tied) l__law_tied c__law_tied k__law_tied, PySem.W.mg_of X G a__law_tied, (fun_mk (st := s__law_tied) l__law_tied c__law_tied k__law_tied).binds (ps := ["_law_ties_here", "_law_x", "_law_y"]) (fun _ _ _ _ _ _ us hl => match us, hl with | [_, _, _], _ => rfl), (fun b hb => by cases hb)⟩,
    ⟨_, _, fun_mk (st := s__law_subsets) l__law_subsets c__law_subsets k__law_subsets, PySem.W.mg_of X G a__law_subsets, (fun_mk (st := s__law_subsets) l__law_subsets c__law_subsets k__law_subsets).binds (ps := ["_law_row"]) (fun _ _ _ _ _ _ us hl => match us, hl with | [_], _ => rfl), (fun b hb => by cases hb)⟩,
    ⟨_, _, fun_mk (st := s__law_joined) l__law_joined c__law_joined k__law_joined, PySem.W.mg_of X G a__law_joined, (fun_mk (st := s__law_joined) l__law_joined c__law_joined k__law_joined).binds (ps := ["_law_ties_here", "_law_left"]) (fun _ _ _ _ _ _ us hl => match us, hl with | [_, _], _ => rfl), (fun b hb => by cases hb)⟩,
    ⟨_, _, fun_mk (st := s__law_rows_of) l__law_rows_of c__law_rows_of k__law_rows_of, PySem.W.mg_of X G a__law_rows_of, (fun_mk (st := s__law_rows_of) l__law_rows_of c__law_rows_of k__law_rows_of).binds (ps := ["_law_many", "_law_ties_here", "_law_count"]) (fun _ _ _ _ _ _ us hl => match us, hl with | [_, _, _], _ => rfl), (fun b hb => by cases hb)⟩,
    ⟨_, _, fun_mk (st := s__law_rings) l__law_rings c__law_rings k__law_rings, PySem.W.mg_of X G a__law_rings, (fun_mk (st := s__law_rings) l__law_rings c__law_rings k__law_rings).binds (ps := ["_law_many", "_law_ties_here"]) (fun _ _ _ _ _ _ us hl => match us, hl with | [_, _], _ => rfl), (fun b hb => by cases hb)⟩,
    ⟨_, _, fun_mk (st := s__law_pairs_apart) l__law_pairs_apart c__law_pairs_apart k__law_pairs_apart, PySem.W.mg_of X G a__law_pairs_apart, (fun_mk (st := s__law_pairs_apart) l__law_pairs_apart c__law_pairs_apart k__law_pairs_apart).binds (ps := ["_law_ties_here"]) (fun _ _ _ _ _ _ us hl => match us, hl with | [_], _ => rfl), (fun b hb => by cases hb)⟩,
    ⟨_, _, fun_mk (st := s__law_is_crowd) l__law_is_crowd c__law_is_crowd k__law_is_crowd, PySem.W.mg_of X G a__law_is_crowd, (fun_mk (st := s__law_is_crowd) l__law_is_crowd c__law_is_crowd k__law_is_crowd).binds (ps := ["_law_part", "_law_ties_here"]) (fun _ _ _ _ _ _ us hl => match us, hl with | [_, _], _ => rfl), (fun b hb => by cases hb)⟩,
    ⟨_, _, fun_mk (st := s__law_core) l__law_core c__law_core k__law_core, PySem.W.mg_of X G a__law_core, (fun_mk (st := s__law_core) l__law_core c__law_core k__law_core).binds (ps := ["_law_ties_here", "_law_people", "_law_k"]) (fun _ _ _ _ _ _ us hl => match us, hl with | [_, _, _], _ => rfl), (fun b hb => by cases hb)⟩,
    ⟨_, _, fun_mk (st := s__law_holds) l__law_holds c__law_holds k__law_holds, PySem.W.mg_of X G a__law_holds, (fun_mk (st := s__law_holds) l__law_holds c__law_holds k__law_holds).binds (ps := ["_law_kind", "_law_k", "_law_many", "_law_ties_here"]) (fun _ _ _ _ _ _ us hl => match us, hl with | [_, _, _, _], _ => rfl), (fun b hb => by cases hb)⟩,
    ⟨_, _, fun_mk (st := s__law_things) l__law_things c__law_things k__law_things, PySem.W.mg_of X G a__law_things, (fun_mk (st := s__law_things) l__law_things c__law_things k__law_things).binds (ps := ["_law_most"]) (fun _ _ _ _ _ _ us hl => match us, hl with | [_], _ => rfl), (fun b hb => by cases hb)⟩,
    ⟨_, _, fun_mk (st := s__law_table) l__law_table c__law_table k__law_table, PySem.W.mg_of X G a__law_table, (fun_mk (st := s__law_table) l__law_table c__law_table k__law_table).binds (ps := ["_law_some"]) (fun _ _ _ _ _ _ us hl => match us, hl with | [_], _ => rfl), (fun b hb => by cases hb)⟩,
    ⟨_, _, fun_mk (st := s__law_party_right) l__law_party_right c__law_party_right k__law_party_right, PySem.W.mg_of X G a__law_party_right, (fun_mk (st := s__law_party_right) l__law_party_right c__law_party_right k__law_party_right).binds (ps := ["_law_some", "_law_table_here", "_law_many", "_law_bonds"]) (fun _ _ _ _ _ _ us hl => match us, hl with | [_, _, _, _], _ => rfl), (fun b hb => by cases hb)⟩,
    ⟨_, _, fun_mk (st := s__law_right) l__law_right c__law_right k__law_right, PySem.W.mg_of X G a__law_right, (fun_mk (st := s__law_right) l__law_right c__law_right k__law_right).binds (ps := ["_law_purse_here"]) (fun _ _ _ _ _ _ us hl => match us, hl with | [_], _ => rfl), (fun b hb => by cases hb)⟩,
    ⟨_, _, fun_mk (st := s_law) l_law c_law k_law, PySem.W.mg_of X G a_law, (fun_mk (st := s_law) l_law c_law k_law).binds (ps := ["_law_script"]) (fun _ _ _ _ _ _ us hl => match us, hl with | [_], _ => rfl), (fun b hb => by cases hb)⟩⟩
  exact ⟨_, fun s v => .of_eq rfl, fun base _ _ => law_scr (ct := (fun c : Str => if c = "Thing" then some C_Thing else hct w c)) (law_fn (fun_mk (st := s_law) l_law c_law k_law) T) plain⟩
theorem facts {l : PySem.W.OpenLaw} {w : World} {K : Fr} {h : Heap} {mg : Str → Option Value} {fa : Addr} (G : h.Ns mainGlobals mg) (hfa : mg "law" = some (.ref fa)) (c : hd.Says w h K) :
    ∃ fd : FuncData, (∀ (s : Shared) (v : Value), BindsTo s fd ⟨[v], []⟩ [("_law_script", v)]) ∧ ∀ base : Heap, K.In base → base.Ns mainGlobals mg → FnG l.prog w K mg base 60 fa fd ["_law_script"] (spScr K) := by
  obtain ⟨t_MOST_ASKED, c_MOST_ASKED⟩ := int_at (c.fact 17 _ rfl)
  obtain ⟨es_FEW, cn_FEW, l_FEW, o_FEW⟩ := tb_at (c.tab 0 _ rfl)
  obtain ⟨es_LEAST, cn_LEAST, l_LEAST, o_LEAST⟩ := tb_at (c.tab 1 _ rfl)
  obtain ⟨gd_PLAIN, gi_PLAIN, gn_PLAIN, gs_PLAIN, tl_PLAIN, tz_PLAIN, tv_PLAIN⟩ := tup_at (c.fact 22 _ rfl)
  obtain ⟨oc_is_integer, od_is_integer, sl_is_integer, kV_is_integer, dc_is_integer, pm_is_integer, an_is_integer, cd_is_integer, ct_is_integer, l_is_integer, c_is_integer, k_is_integer⟩ := def_at (c.def_ 0 _ rfl).1 (c.def_ 0 _ rfl).2
  obtain ⟨oc_is_between, od_is_between, sl_is_between, kV_is_between, dc_is_between, pm_is_between, an_is_between, cd_is_between, ct_is_between, l_is_between, c_is_between, k_is_between⟩ := def_at (c.def_ 1 _ rfl).1 (c.def_ 1 _ rfl).2
  obtain ⟨oc_Thing___init__, od_Thing___init__, sl_Thing___init__, kV_Thing___init__, dc_Thing___init__, pm_Thing___init__, an_Thing___init__, cd_Thing___init__, ct_Thing___init__, l_Thing___init__, c_Thing___init__, k_Thing___init__⟩ := def_at (c.def_ 2 _ rfl).1 (c.def_ 2 _ rfl).2
  obtain ⟨do_Thing___init__, dd_Thing___init__, di_Thing___init__, dn_Thing___init__, ds_Thing___init__, dl_Thing___init__, dv_Thing___init__⟩ := seq_at (c.fact 44 _ rfl)
  obtain ⟨pr_Thing_kind, px_Thing_kind⟩ := pr_at (c.fact 48 _ rfl)
  obtain ⟨oc_Thing_kind, od_Thing_kind, sl_Thing_kind, kV_Thing_kind, dc_Thing_kind, pm_Thing_kind, an_Thing_kind, cd_Thing_kind, ct_Thing_kind, l_Thing_kind, c_Thing_kind, k_Thing_kind⟩ := def_at (c.def_ 3 _ rfl).1 (c.def_ 3 _ rfl).2
  obtain ⟨pr_Thing_size, px_Thing_size⟩ := pr_at (c.fact 52 _ rfl)
  obtain ⟨oc_Thing_size, od_Thing_size, sl_Thing_size, kV_Thing_size, dc_Thing_size, pm_Thing_size, an_Thing_size, cd_Thing_size, ct_Thing_size, l_Thing_size, c_Thing_size, k_Thing_size⟩ := def_at (c.def_ 4 _ rfl).1 (c.def_ 4 _ rfl).2
  obtain ⟨oc_check_thing, od_check_thing, sl_check_thing, kV_check_thing, dc_check_thing, pm_check_thing, an_check_thing, cd_check_thing, ct_check_thing, l_check_thing, c_check_thing, k_check_thing⟩ := def_at (c.def_ 5 _ rfl).1 (c.def_ 5 _ rfl).2
  obtain ⟨oc_follows_from_core, od_follows_from_core, sl_follows_from_core, kV_follows_from_core, dc_follows_from_core, pm_follows_from_core, an_follows_from_core, cd_follows_from_core, ct_follows_from_core, l_follows_from_core, c_follows_from_core, k_follows_from_core⟩ := def_at (c.def_ 6 _ rfl).1 (c.def_ 6 _ rfl).2
  obtain ⟨oc_follows_from_crowd, od_follows_from_crowd, sl_follows_from_crowd, kV_follows_from_crowd, dc_follows_from_crowd, pm_follows_from_crowd, an_follows_from_crowd, cd_follows_from_crowd, ct_follows_from_crowd, l_follows_from_crowd, c_follows_from_crowd, k_follows_from_crowd⟩ := def_at (c.def_ 7 _ rfl).1 (c.def_ 7 _ rfl).2
  obtain ⟨oc_follows_from_ring, od_follows_from_ring, sl_follows_from_ring, kV_follows_from_ring, dc_follows_from_ring, pm_follows_from_ring, an_follows_from_ring, cd_follows_from_ring, ct_follows_from_ring, l_follows_from_ring, c_follows_from_ring, k_follows_from_ring⟩ := def_at (c.def_ 8 _ rfl).1 (c.def_ 8 _ rfl).2
  obtain ⟨oc_all_from, od_all_from, sl_all_from, kV_all_from, dc_all_from, pm_all_from, an_all_from, cd_all_from, ct_all_from, l_all_from, c_all_from, k_all_from⟩ := def_at (c.def_ 9 _ rfl).1 (c.def_ 9 _ rfl).2
  obtain ⟨oc_is_following, od_is_following, sl_is_following, kV_is_following, dc_is_following, pm_is_following, an_is_following, cd_is_following, ct_is_following, l_is_following, c_is_following, k_is_following⟩ := def_at (c.def_ 10 _ rfl).1 (c.def_ 10 _ rfl).2
  obtain ⟨oc_follows, od_follows, sl_follows, kV_follows, dc_follows, pm_follows, an_follows, cd_follows, ct_follows, l_follows, c_follows, k_follows⟩ := def_at (c.def_ 11 _ rfl).1 (c.def_ 11 _ rfl).2
  obtain ⟨oc__law_purse, od__law_purse, sl__law_purse, kV__law_purse, dc__law_purse, pm__law_purse, an__law_purse, cd__law_purse, ct__law_purse, l__law_purse, c__law_purse, k__law_purse⟩ := def_at (c.def_ 12 _ rfl).1 (c.def_ 12 _ rfl).2
  obtain ⟨oc__law_draw, od__law_draw, sl__law_draw, kV__law_draw, dc__law_draw, pm__law_draw, an__law_draw, cd__law_draw, ct__law_draw, l__law_draw, c__law_draw, k__law_draw⟩ := def_at (c.def_ 13 _ rfl).1 (c.def_ 13 _ rfl).2
  obtain ⟨oc__law_all, od__law_all, sl__law_all, kV__law_all, dc__law_all, pm__law_all, an__law_all, cd__law_all, ct__law_all, l__law_all, c__law_all, k__law_all⟩ := def_at (c.def_ 14 _ rfl).1 (c.def_ 14 _ rfl).2
  obtain ⟨oc__law_ties, od__law_ties, sl__law_ties, kV__law_ties, dc__law_ties, pm__law_ties, an__law_ties, cd__law_ties, ct__law_ties, l__law_ties, c__law_ties, k__law_ties⟩ := def_at (c.def_ 15 _ rfl).1 (c.def_ 15 _ rfl).2
  obtain ⟨oc__law_tied, od__law_tied, sl__law_tied, kV__law_tied, dc__law_tied, pm__law_tied, an__law_tied, cd__law_tied, ct__law_tied, l__law_tied, c__law_tied, k__law_tied⟩ := def_at (c.def_ 16 _ rfl).1 (c.def_ 16 _ rfl).2
  obtain ⟨oc__law_subsets, od__law_subsets, sl__law_subsets, kV__law_subsets, dc__law_subsets, pm__law_subsets, an__law_subsets, cd__law_subsets, ct__law_subsets, l__law_subsets, c__law_subsets, k__law_subsets⟩ := def_at (c.def_ 17 _ rfl).1 (c.def_ 17 _ rfl).2
  obtain ⟨oc__law_joined, od__law_joined, sl__law_joined, kV__law_joined, dc__law_joined, pm__law_joined, an__law_joined, cd__law_joined, ct__law_joined, l__law_joined, c__law_joined, k__law_joined⟩ := def_at (c.def_ 18 _ rfl).1 (c.def_ 18 _ rfl).2
  obtain ⟨oc__law_rows_of, od__law_rows_of, sl__law_rows_of, kV__law_rows_of, dc__law_rows_of, pm__law_rows_of, an__law_rows_of, cd__law_rows_of, ct__law_rows_of, l__law_rows_of, c__law_rows_of, k__law_rows_of⟩ := def_at (c.def_ 19 _ rfl).1 (c.def_ 19 _ rfl).2
  obtain ⟨oc__law_rings, od__law_rings, sl__law_rings, kV__law_rings, dc__law_rings, pm__law_rings, an__law_rings, cd__law_rings, ct__law_rings, l__law_rings, c__law_rings, k__law_rings⟩ := def_at (c.def_ 20 _ rfl).1 (c.def_ 20 _ rfl).2
  obtain ⟨oc__law_pairs_apart, od__law_pairs_apart, sl__law_pairs_apart, kV__law_pairs_apart, dc__law_pairs_apart, pm__law_pairs_apart, an__law_pairs_apart, cd__law_pairs_apart, ct__law_pairs_apart, l__law_pairs_apart, c__law_pairs_apart, k__law_pairs_apart⟩ := def_at (c.def_ 21 _ rfl).1 (c.def_ 21 _ rfl).2
  obtain ⟨oc__law_is_crowd, od__law_is_crowd, sl__law_is_crowd, kV__law_is_crowd, dc__law_is_crowd, pm__law_is_crowd, an__law_is_crowd, cd__law_is_crowd, ct__law_is_crowd, l__law_is_crowd, c__law_is_crowd, k__law_is_crowd⟩ := def_at (c.def_ 22 _ rfl).1 (c.def_ 22 _ rfl).2
  obtain ⟨oc__law_core, od__law_core, sl__law_core, kV__law_core, dc__law_core, pm__law_core, an__law_core, cd__law_core, ct__law_core, l__law_core, c__law_core, k__law_core⟩ := def_at (c.def_ 23 _ rfl).1 (c.def_ 23 _ rfl).2
  obtain ⟨oc__law_holds, od__law_holds, sl__law_holds, kV__law_holds, dc__law_holds, pm__law_holds, an__law_holds, cd__law_holds, ct__law_holds, l__law_holds, c__law_holds, k__law_holds⟩ := def_at (c.def_ 24 _ rfl).1 (c.def_ 24 _ rfl).2
  obtain ⟨oc__law_things, od__law_things, sl__law_things, kV__law_things, dc__law_things, pm__law_things, an__law_things, cd__law_things, ct__law_things, l__law_things, c__law_things, k__law_things⟩ := def_at (c.def_ 25 _ rfl).1 (c.def_ 25 _ rfl).2
  obtain ⟨oc__law_table, od__law_table, sl__law_table, kV__law_table, dc__law_table, pm__law_table, an__law_table, cd__law_table, ct__law_table, l__law_table, c__law_table, k__law_table⟩ := def_at (c.def_ 26 _ rfl).1 (c.def_ 26 _ rfl).2
  obtain ⟨oc__law_party_right, od__law_party_right, sl__law_party_right, kV__law_party_right, dc__law_party_right, pm__law_party_right, an__law_party_right, cd__law_party_right, ct__law_party_right, l__law_party_right, c__law_party_right, k__law_party_right⟩ := def_at (c.def_ 27 _ rfl).1 (c.def_ 27 _ rfl).2
  obtain ⟨oc__law_right, od__law_right, sl__law_right, kV__law_right, dc__law_right, pm__law_right, an__law_right, cd__law_right, ct__law_right, l__law_right, c__law_right, k__law_right⟩ := def_at (c.def_ 28 _ rfl).1 (c.def_ 28 _ rfl).2
  obtain ⟨oc_law, od_law, sl_law, kV_law, dc_law, pm_law, an_law, cd_law, ct_law, l_law, c_law, k_law⟩ := def_at (c.def_ 29 _ rfl).1 (c.def_ 29 _ rfl).2
  exact all_mk c.in_ G hfa (He.eqO_ok (c.fact 0 _ rfl))
    (He.eqO_ok (c.fact 1 _ rfl))
    (He.eqO_ok (c.fact 2 _ rfl))
    (He.eqO_ok (c.fact 3 _ rfl))
    (He.eqO_ok (c.fact 4 _ rfl))
    (He.eqO_ok (c.fact 5 _ rfl))
    (He.eqO_ok (c.fact 6 _ rfl))
    (He.eqO_ok (c.fact 7 _ rfl))
    (He.eqO_ok (c.fact 8 _ rfl))
    (He.eqO_ok (c.fact 9 _ rfl))
    (He.eqO_ok (c.fact 10 _ rfl))
    (He.eqO_ok (c.fact 11 _ rfl))
    (He.eqO_ok (c.fact 12 _ rfl))
    (He.eqO_ok (c.fact 13 _ rfl))
    (He.eqO_ok (c.fact 14 _ rfl))
    (He.eqO_ok (c.fact 15 _ rfl))
    (He.eqO_ok (c.fact 16 _ rfl))
    c_MOST_ASKED
    (He.eqO_ok (c.fact 18 _ rfl))
    l_FEW
    o_FEW
    (notB (c.fact 19 _ rfl))
    (He.eqO_ok (c.fact 20 _ rfl))
    l_LEAST
    o_LEAST
    (notB (c.fact 21 _ rfl))
    (He.eqO_ok (c.fact 23 _ rfl))
    tl_PLAIN
    tz_PLAIN
    tv_PLAIN
    (He.eqO_ok (c.fact 24 _ rfl))
    (c.fact 25 _ rfl)
    (c.fact 26 _ rfl)
    (c.fact 27 _ rfl)
    (He.eqO_ok (c.fact 28 _ rfl))
    (c.fact 29 _ rfl)
    (c.fact 30 _ rfl)
    (He.eqO_ok (c.fact 31 _ rfl))
    (He.eqO_ok (c.fact 32 _ rfl))
    (of_decide_eq_true (c.fact 33 _ rfl))
    (of_decide_eq_true (c.fact 34 _ rfl))
    (He.eqO_ok (c.fact 35 _ rfl))
    (He.eqO_ok (c.fact 36 _ rfl))
    (of_decide_eq_true (c.fact 34 _ rfl))
    (of_decide_eq_true (c.fact 37 _ rfl))
    (He.eqO_ok (c.fact 38 _ rfl))
    (He.eqO_ok (c.fact 39 _ rfl))
    (He.eqO_ok (c.fact 40 _ rfl))
    l_is_integer
    c_is_integer
    k_is_integer
    (He.eqO_ok (c.fact 41 _ rfl))
    l_is_between
    c_is_between
    k_is_between
    (He.eqO_ok (c.fact 42 _ rfl))
    (c.fact 43 _ rfl)
    l_Thing___init__
    c_Thing___init__
    k_Thing___init__
    dl_Thing___init__
    dv_Thing___init__
    (He.eqO_ok (c.fact 45 _ rfl))
    (He.eqO_ok (c.fact 46 _ rfl))
    (of_decide_eq_true (c.fact 47 _ rfl))
    px_Thing_kind
    l_Thing_kind
    c_Thing_kind
    k_Thing_kind
    (He.eqO_ok (c.fact 49 _ rfl))
    (He.eqO_ok (c.fact 50 _ rfl))
    (of_decide_eq_true (c.fact 51 _ rfl))
    px_Thing_size
    l_Thing_size
    c_Thing_size
    k_Thing_size
    (He.eqO_ok (c.fact 53 _ rfl))
    l_check_thing
    c_check_thing
    k_check_thing
    (He.eqO_ok (c.fact 54 _ rfl))
    l_follows_from_core
    c_follows_from_core
    k_follows_from_core
    (He.eqO_ok (c.fact 55 _ rfl))
    l_follows_from_crowd
    c_follows_from_crowd
    k_follows_from_crowd
    (He.eqO_ok (c.fact 56 _ rfl))
    l_follows_from_ring
    c_follows_from_ring
    k_follows_from_ring
    (He.eqO_ok (c.fact 57 _ rfl))
    l_all_from
    c_all_from
    k_all_from
    (He.eqO_ok (c.fact 58 _ rfl))
    l_is_following
    c_is_following
    k_is_following
    (He.eqO_ok (c.fact 59 _ rfl))
    l_follows
    c_follows
    k_follows
    (He.eqO_ok (c.fact 60 _ rfl))
    l__law_purse
    c__law_purse
    k__law_purse
    (He.eqO_ok (c.fact 61 _ rfl))
    l__law_draw
    c__law_draw
    k__law_draw
    (He.eqO_ok (c.fact 62 _ rfl))
    l__law_all
    c__law_all
    k__law_all
    (He.eqO_ok (c.fact 63 _ rfl))
    l__law_ties
    c__law_ties
    k__law_ties
    (He.eqO_ok (c.fact 64 _ rfl))
    l__law_tied
    c__law_tied
    k__law_tied
    (He.eqO_ok (c.fact 65 _ rfl))
    l__law_subsets
    c__law_subsets
    k__law_subsets
    (He.eqO_ok (c.fact 66 _ rfl))
    l__law_joined
    c__law_joined
    k__law_joined
    (He.eqO_ok (c.fact 67 _ rfl))
    l__law_rows_of
    c__law_rows_of
    k__law_rows_of
    (He.eqO_ok (c.fact 68 _ rfl))
    l__law_rings
    c__law_rings
    k__law_rings
    (He.eqO_ok (c.fact 69 _ rfl))
    l__law_pairs_apart
    c__law_pairs_apart
    k__law_pairs_apart
    (He.eqO_ok (c.fact 70 _ rfl))
    l__law_is_crowd
    c__law_is_crowd
    k__law_is_crowd
    (He.eqO_ok (c.fact 71 _ rfl))
    l__law_core
    c__law_core
    k__law_core
    (He.eqO_ok (c.fact 72 _ rfl))
    l__law_holds
    c__law_holds
    k__law_holds
    (He.eqO_ok (c.fact 73 _ rfl))
    l__law_things
    c__law_things
    k__law_things
    (He.eqO_ok (c.fact 74 _ rfl))
    l__law_table
    c__law_table
    k__law_table
    (He.eqO_ok (c.fact 75 _ rfl))
    l__law_party_right
    c__law_party_right
    k__law_party_right
    (He.eqO_ok (c.fact 76 _ rfl))
    l__law_right
    c__law_right
    k__law_right
    (He.eqO_ok (c.fact 77 _ rfl))
    l_law
    c_law
    k_law
end LW
open PySem PySem.W PySem.Calls PyProof.Rows in
set_option maxRecDepth 100000 in
set_option maxHeartbeats 0 in
theorem PySem.Challenge.cw_forcedties_k30_whole_things_that_follow_holds : PySem.Challenge.rw_forcedties_k30_whole_things_that_follow.Holds := by
  w_on
  refine LW.fin_open fun said => ?_
  refine HandSHeadRun.head_any (r := OpenLaw.row PySem.Challenge.rw_forcedties_k30_whole_things_that_follow) (q := LW.qv) (H := LW.hd.hook) (ob := LW.hd.ob) (M := 60000) (loose := LW.hLoose) (d := HandSHeadRun.topDef (OpenLaw.row PySem.Challenge.rw_forcedties_k30_whole_things_that_follow).prog 62) (kwd := []) LW.hd.ob_eq
    (by kernel_rfl) (fun s => by kernel_rfl) LW.run (by kernel_rfl) (by kernel_rfl) (by kernel_rfl) (by rfl) said (by decide +kernel) LW.fin_bare ?hw ?hc
  case hw => w_witness2
  case hc =>
    refine DL.walkE (l := PySem.Challenge.rw_forcedties_k30_whole_things_that_follow) (k := 60) (x := "_law_script") rfl (by kernel_rfl) ⟨rfl, by decide, by decide⟩ ?F
    intro w mg fa h Y G hmg0
    obtain ⟨K, c⟩ := Y
    have hmg : mg ("law" : PySem.Str) = some (.ref fa) := by
      have e : (HandSHeadRun.topDef (OpenLaw.row PySem.Challenge.rw_forcedties_k30_whole_things_that_follow).prog 62).name = ("law" : PySem.Str) := by kernel_rfl
      rw [← e]
      exact hmg0
    obtain ⟨fd, hb, hF⟩ := LW.facts (l := PySem.Challenge.rw_forcedties_k30_whole_things_that_follow) G hmg c
    exact ⟨K, fd, c.in_, hb, hF⟩
