import PyProof.Rows.All
import Wide.All
import OpenK.AllK
import Wide.FinOn
import HandS.ForMost
import HandS.Defaults
import HandS.Property
import HandS.EndBits
import HandS.Wide
import HandS.WideBits
import HandS.More
import HandS.IsInst
import HandS.Lambda
import HandS.EndTab
import HandS.ExcInit
import HandS.Deep
import HandS.Conv
import HandS.List
import PyProof.ReprRoads
import PyProof.CallFns
import HandS.NoneIn
import HandS.Codes
import HandS.ExcOwn
import KE.KExcInit
import PyProof.ExcBaseAll.ArithmeticError
import PyProof.ExcBaseAll.ValueError
import HandS.ExcIs
import HandS.ExcField
import HandS.SetFor
import KE.KTryMore
import KE.KNestM
import KE.GoesMore
import KE.GoesEnum
import KE.KStateDown
import HandS.Head0
import HandS.Head1
import HandS.Head2
import HandS.HeadHook1
import HandS.TupAny
import HandS.TupLe
import KE.SortData
import HandS.Style
import HandS.RaiseMore
import PySem.Challenge.RW_forcedties_k63_renamings_judged
set_option Elab.async false
set_option linter.all false
set_option maxRecDepth 100000
set_option maxHeartbeats 4000000

namespace DL
open PySem PySem.Spec PyProof.Rows L2
/-! # Promises of defs that are called while nothing is being shown (no repr is under way) -/
structure RoomG (k : Nat) (A : Around) : Prop where
  room : Room k A
  gd : A.guards = some []
theorem RoomG.mono {j k : Nat} {A : Around} (r : RoomG k A) (h : j ≤ k) : RoomG j A := ⟨r.room.mono h, r.gd⟩
theorem RoomG.deeper {k : Nat} {A : Around} (r : RoomG (k + 1) A) (env : Env) : RoomG k (A.deeper env) := ⟨r.room.deeper env, r.gd⟩
theorem RoomG.in1 {k : Nat} {A : Around} (r : RoomG (k + 1) A) : RoomG k A.in1 := ⟨r.room.in1, r.gd⟩
theorem make_guards {A : Around} {C : Addr} {us : List Value} {kw : List (Str × Value)} : (A.under (.builtin "type.__call__" ⟨.ref C :: us, kw⟩)).guards = A.guards := by
  cases h : A.guards <;> simp [Around.under, Code.guards, Code.isGuard, guardIds, pushGuards, h]
theorem RoomG.make {k : Nat} {A : Around} (r : RoomG (k + 1) A) (C : Addr) (us : List Value) (kw : List (Str × Value)) : RoomG k (A.under (.builtin "type.__call__" ⟨.ref C :: us, kw⟩)) := ⟨r.room.make C us kw, by rw [make_guards]; exact r.gd⟩
theorem RoomG.units {k : Nat} {A : Around} (r : RoomG k A) : A.units + 64 < cLine := r.room.units
structure FnG (P : Program) (w : World) (K : PySem.W.Frag) (mg : Str → Option Value) (base : Heap) (k : Nat) (f : Addr) (fd : FuncData) (ps : List Str) (sp : Sp) : Prop where
  len : ∀ vs H Q E, sp vs H Q E → vs.length = ps.length
  run : ∀ (A : Around) (outer : List Env) (s : Shared) (H : Hp) (args : Args) (us : List Value) (vs : List V) (Q : VK) (E : XK), RoomG k A → Env0 P w K mg base A outer s H →
    BindsTo s fd args (ps.zip us) → Vals vs us → sp vs H Q E → codeAny (model P w) A (.call (.ref f) args) (CR CX0 outer P w H s Q E) s
section
variable {P : Program} {w : World} {K : PySem.W.Frag} {mg : Str → Option Value} {base : Heap} {j k : Nat} {f : Addr} {fd : FuncData} {ps : List Str} {sp sp' : Sp}
theorem FnG.mono (F : FnG P w K mg base j f fd ps sp) (h : j ≤ k) : FnG P w K mg base k f fd ps sp := ⟨F.len, fun A o s H ar us vs Q E r => F.run A o s H ar us vs Q E (r.mono h)⟩
theorem FnG.imp (F : FnG P w K mg base k f fd ps sp) (h : ∀ vs H Q E, sp' vs H Q E → sp vs H Q E) : FnG P w K mg base k f fd ps sp' :=
  ⟨fun vs H Q E q => F.len vs H Q E (h _ _ _ _ q), fun A o s H ar us vs Q E r e0 b v q => F.run A o s H ar us vs Q E r e0 b v (h _ _ _ _ q)⟩
end
/-- what stands behind a call that ends well -/
theorem behind {X : Cx} {pins : List (Addr × Obj)} {σ : L2.St} {H : Hp} {s s' : Shared} {Q : VK} {E : XK} {r : Except Value Flow} (I : Inv X pins σ H s) (h : CR CX0 X.stack X.prog X.w H s Q E r s') : ∃ u, r = .ok (.ret u) ∧ EP X pins σ Q u s' := by
  cases r with
  | error er => exact False.elim h
  | ok fl =>
    cases fl <;> first | exact False.elim h | skip
    rename_i u
    exact ⟨u, rfl, I.after h⟩
section
variable {X : Cx} {k : Nat} {f C : Addr} {fd : FuncData} {ps : List Str} {sp : Sp} {dvs : List V} {ds : List Value} {E : XK} {x m : Str} {p pos apos : Pos} {e o : Expr} {es : List Expr} {ta : TE} {t tk : TA} {kws : List Keyword} {ks : List Str} {n : Nat} {g : List Value → List Value → List Value} {gV : List V → List V → List V}
theorem runG {pins : List (Addr × Obj)} {σ : L2.St} {H : Hp} {s : Shared} {Q : VK} {ar : Args} {us : List Value} {vs : List V} (F : FnG X.prog X.w X.K X.mg X.base k f fd ps sp) (hr : RoomG k X.A) (I : Inv X pins σ H s)
    (hb : BindsTo s fd ar (ps.zip us)) (rv : Vals vs us) (h : sp vs H Q E) : wpAny (model X.prog X.w) X.A (call (.ref f) ar.pos ar.kw) (EP X pins σ Q) X.xe s := by
  refine wpAny_call (codeAny_mono (F.run X.A X.stack s H ar us vs Q E hr I.env0 hb rv h) fun r s' q => ?_)
  obtain ⟨u, rfl, z⟩ := behind I q
  exact z
theorem runGb {pins : List (Addr × Obj)} {σ : L2.St} {H : Hp} {s : Shared} {Q : VK} {us : List Value} {vs : List V} (F : FnG X.prog X.w X.K X.mg X.base k f fd ps sp) (hr : RoomG k X.A) (hb : Binds X.K fd ps ds) (hd : Vals dvs ds)
    (I : Inv X pins σ H s) (rv : Vals vs us) (h : sp (vs ++ dvs) H Q E) : wpAny (model X.prog X.w) X.A (call (.ref f) us) (EP X pins σ Q) X.xe s :=
  runG (ar := ⟨us, []⟩) F hr I (hb s us I.kIn (by rw [← (rv.append hd).length]; exact F.len _ _ _ _ h)) (rv.append hd) h
theorem runGk {pins : List (Addr × Obj)} {σ : L2.St} {H : Hp} {s : Shared} {Q : VK} {us ws : List Value} {vs zs : List V} (F : FnG X.prog X.w X.K X.mg X.base k f fd ps sp) (hr : RoomG k X.A) (hb : KBn X.K fd ps n ks g gV)
    (I : Inv X pins σ H s) (rv : Vals vs us) (rz : Vals zs ws) (l1 : vs.length = n) (l2 : zs.length = ks.length) (h : sp (gV vs zs) H Q E) : wpAny (model X.prog X.w) X.A (call (.ref f) us (ks.zip ws)) (EP X pins σ Q) X.xe s :=
  runG (ar := ⟨us, ks.zip ws⟩) F hr I (hb.to s us ws I.kIn (rv.length.symm.trans l1) (rz.length.symm.trans l2)) (hb.rel rv rz) h
/-! calls by position -/
theorem pe_callG (F : FnG X.prog X.w X.K X.mg X.base k f fd ps sp) (hr : RoomG k X.A) (hg : Gl X x) (hm : X.mg x = some (.ref f)) (hk : PySem.W.keepIn X.K (.ref f) = true) (hb : Binds X.K fd ps ds) (hd : Vals dvs ds)
    (ha : PA X (e :: es) t) (hdb : (x == ("__debug__" : Str)) = false := by decide) (hst : starEach (e :: es) X.env = (false, eval e X.env) :: starEach es X.env := by rfl) (hpl : (backTo pos (starEach es X.env)).any (·.1) = false := by rfl) :
    PE X (.Call (.Name x p) (e :: es) [] pos) (tCall sp dvs E t) :=
  ⟨fun pins s σ H Q I h => wpAny_Call_Name_kw (ld_glob I hg hm (PySem.W.callWith_K (h₀ := X.base) I.ok.mod.kin hk
    (thn (ha.run pos pins s σ H _ I h) fun us s1 ⟨vs, H1, I1, rv, q⟩ => ⟨I1.kIn, runGb F hr hb hd I1 rv q⟩) hst hpl) hdb)⟩
theorem pe_callG0 (F : FnG X.prog X.w X.K X.mg X.base k f fd ps sp) (hr : RoomG k X.A) (hg : Gl X x) (hm : X.mg x = some (.ref f)) (hk : PySem.W.keepIn X.K (.ref f) = true) (hb : Binds X.K fd ps ds) (hd : Vals dvs ds)
    (hdb : (x == ("__debug__" : Str)) = false := by decide) : PE X (.Call (.Name x p) [] [] pos) (tCall sp dvs E tNil) :=
  ⟨fun pins s σ H Q I h => wpAny_Call_Name_kw (ld_glob I hg hm (PySem.W.callWith_K0 I.kIn hk (runGb (us := []) F hr hb hd I .nil h)) hdb)⟩
theorem pe_methG {pl : Sem Bool} (he : PE X o ta) (c : Cls X.K C) (hm : Meth X.K C m f) (F : FnG X.prog X.w X.K X.mg X.base k f fd ps sp) (hr : RoomG k X.A) (hb : Binds X.K fd ps ds) (hd : Vals dvs ds) (ha : PA X (e :: es) t)
    (hst : starEach (e :: es) X.env = (false, eval e X.env) :: starEach es X.env := by rfl) (hpl : (backTo pos (starEach es X.env)).any (·.1) = false := by rfl)
    (ht : eval (.Call (.Attribute o m apos) (e :: es) [] pos) X.env = (eval o X.env >>= fun ov => standAt apos.atName >>= fun _ => holding [ov] (getMethod ov m pl) >>= fun q =>
      callWith pos q.1 q.2 (backTo pos (starEach (e :: es) X.env)) (backToKw pos (keywordEach [] X.env))) := by rfl) :
    PE X (.Call (.Attribute o m apos) (e :: es) [] pos) (tMeth C m sp dvs E ta t) := by
  refine ⟨fun pins s σ H Q I h => PySem.W.methodCall_KW (pl := pl) (thn (he.run pins s σ H _ I h) fun u s1 ⟨y, H1, I1, ry, a, dx, fs, ex, ea, l, q⟩ => ?_) ht⟩
  subst ex
  have ry : u = Value.ref a := ry
  subst ry
  exact getmeth_ok I1 ea c hm l (PySem.W.callWith_K (first := [.ref a]) (h₀ := X.base) I.ok.mod.kin hm.kp (thn (ha.run pos pins s1 σ H1 _ I1 q)
    fun us s2 ⟨vs, H2, I2, rv, q2⟩ => ⟨I2.kIn, runGb (us := .ref a :: us) (vs := .ref a :: vs) F hr hb hd I2 (.cons rfl rv) q2⟩) hst hpl)
theorem pe_methG0 {pl : Sem Bool} (he : PE X o ta) (c : Cls X.K C) (hm : Meth X.K C m f) (F : FnG X.prog X.w X.K X.mg X.base k f fd ps sp) (hr : RoomG k X.A) (hb : Binds X.K fd ps ds) (hd : Vals dvs ds)
    (ht : eval (.Call (.Attribute o m apos) [] [] pos) X.env = (eval o X.env >>= fun ov => standAt apos.atName >>= fun _ => holding [ov] (getMethod ov m pl) >>= fun q =>
      callWith pos q.1 q.2 (backTo pos (starEach [] X.env)) (backToKw pos (keywordEach [] X.env))) := by rfl) : PE X (.Call (.Attribute o m apos) [] [] pos) (tMeth C m sp dvs E ta tNil) := by
  refine ⟨fun pins s σ H Q I h => PySem.W.methodCall_KW (pl := pl) (thn (he.run pins s σ H _ I h) fun u s1 ⟨y, H1, I1, ry, a, dx, fs, ex, ea, l, q⟩ => ?_) ht⟩
  subst ex
  have ry : u = Value.ref a := ry
  subst ry
  exact getmeth_ok I1 ea c hm l (PySem.W.callWith_K0 (first := [.ref a]) I1.kIn hm.kp (runGb (us := [.ref a]) (vs := [.ref a]) F hr hb hd I1 (.cons rfl .nil) q))
/-! calls by name alone -/
def tMethK (C : Addr) (m : Str) (n : Nat) (sp : Sp) (gV : List V → List V → List V) (E : XK) (ta : TE) (tk : TA) : TE := fun σ H Q => ta σ H fun x H1 => ∃ a dx fs, x = .ref a ∧ H1 a = some (.ins C dx fs) ∧ fs.lookup m = none ∧
  tk σ H1 fun zs H2 => zs.length = n ∧ sp (gV [x] zs) H2 Q E
theorem pe_methGK {pl : Sem Bool} (he : PE X o ta) (c : Cls X.K C) (hm : Meth X.K C m f) (F : FnG X.prog X.w X.K X.mg X.base k f fd ps sp) (hr : RoomG k X.A) (hb : KBn X.K fd ps 1 ks g gV) (hkw : PK X kws tk)
    (hall : (backToKw pos (keywordEach kws X.env)).all (·.1.isSome) = true := by rfl) (hks : (backToKw pos (keywordEach kws X.env)).filterMap (·.1) = ks := by rfl)
    (hpl : ((backTo pos (starEach [] X.env)).any (·.1) || (backToKw pos (keywordEach kws X.env)).any (·.1.isNone)) = false := by rfl)
    (ht : eval (.Call (.Attribute o m apos) [] kws pos) X.env = (eval o X.env >>= fun ov => standAt apos.atName >>= fun _ => holding [ov] (getMethod ov m pl) >>= fun q =>
      callWith pos q.1 q.2 (backTo pos (starEach [] X.env)) (backToKw pos (keywordEach kws X.env))) := by rfl) : PE X (.Call (.Attribute o m apos) [] kws pos) (tMethK C m ks.length sp gV E ta tk) := by
  refine ⟨fun pins s σ H Q I h => PySem.W.methodCall_KW (pl := pl) (thn (he.run pins s σ H _ I h) fun u s1 ⟨y, H1, I1, ry, a, dx, fs, ex, ea, l, q⟩ => ?_) ht⟩
  subst ex
  have ry : u = Value.ref a := ry
  subst ry
  refine getmeth_ok I1 ea c hm l (PySem.W.callWith_KW0 (first := [.ref a]) (h₀ := X.base) I.ok.mod.kin hm.kp hall (thn (hkw.run pos pins s1 σ H1 _ I1 q) fun ws s2 ⟨zs, H2, I2, rz, lz, q2⟩ => ⟨I2.kIn, ?_⟩) hpl)
  rw [hks]
  exact runGk (us := [.ref a]) (vs := [.ref a]) F hr hb I2 (.cons rfl .nil) rz rfl lz q2
def tCallK0 (n : Nat) (sp : Sp) (gV : List V → List V → List V) (E : XK) (tk : TA) : TE := fun σ H Q => tk σ H fun zs H2 => zs.length = n ∧ sp (gV [] zs) H2 Q E
theorem pe_callGK (F : FnG X.prog X.w X.K X.mg X.base k f fd ps sp) (hr : RoomG k X.A) (hg : Gl X x) (hm : X.mg x = some (.ref f)) (hk : PySem.W.keepIn X.K (.ref f) = true) (hb : KBn X.K fd ps 0 ks g gV) (hkw : PK X kws tk)
    (hall : (backToKw pos (keywordEach kws X.env)).all (·.1.isSome) = true := by rfl) (hks : (backToKw pos (keywordEach kws X.env)).filterMap (·.1) = ks := by rfl) (hdb : (x == ("__debug__" : Str)) = false := by decide)
    (hpl : ((backTo pos (starEach [] X.env)).any (·.1) || (backToKw pos (keywordEach kws X.env)).any (·.1.isNone)) = false := by rfl) : PE X (.Call (.Name x p) [] kws pos) (tCallK0 ks.length sp gV E tk) := by
  refine ⟨fun pins s σ H Q I h => wpAny_Call_Name_kw (ld_glob I hg hm (PySem.W.callWith_KW0 (h₀ := X.base) I.ok.mod.kin hk hall (thn (hkw.run pos pins s σ H _ I h) fun ws s2 ⟨zs, H2, I2, rz, lz, q2⟩ => ⟨I2.kIn, ?_⟩) hpl) hdb)⟩
  rw [hks]
  exact runGk (us := []) (vs := []) F hr hb I2 .nil rz rfl lz q2
/-! new objects -/
theorem runMk {pins : List (Addr × Obj)} {σ : L2.St} {H : Hp} {s : Shared} {Q : VK} {us ws zs' : List Value} {kn : List Str} (M : Mk X.K C f) (F : FnG X.prog X.w X.K X.mg X.base k f fd ps sp) (hr : RoomG (k + 1) X.A) (I : Inv X pins σ H s)
    (hb : ∀ s' : Shared, X.K.In s'.heap → BindsTo s' fd ⟨.ref (s.heap.objs.size + 1) :: us, kn.zip ws⟩ (ps.zip (.ref (s.heap.objs.size + 1) :: zs'))) {zv : List V} (rv : Vals zv zs')
    (h : ∀ y dx, H y = none → H dx = none → dx ≠ y → sp (.ref y :: zv) (upd (upd H dx (.own y)) y (.ins C dx [])) (fun v H2 => v = .non ∧ Q (.ref y) H2) E) :
    wpAny (model X.prog X.w) X.A (call (.ref C) us (kn.zip ws)) (EP X pins σ Q) X.xe s := by
  have hq := h (s.heap.objs.size + 1) s.heap.objs.size (I.hok.fresh (Nat.le_succ _)) (I.hok.fresh (Nat.le_refl _)) (Nat.ne_of_lt (Nat.lt_succ_self _))
  have J := Inv.made (C := C) I
  refine wpAny_call (make_map (f := f) I.kIn M.makes M.init (beq_iff_eq.mp M.fn) (codeAny_mono (F.run _ X.stack _ _ _ _ (V.ref (s.heap.objs.size + 1) :: zv) _ E (hr.make C us (kn.zip ws)) (J.env0.make C us (kn.zip ws)) (hb _ J.kIn) (.cons rfl rv) hq) fun r s' z => ?_))
  obtain ⟨u, rfl, v, H', I3, ru, ev, q3⟩ := behind J z
  subst ev
  exact ⟨ru, V.ref (s.heap.objs.size + 1), H', I3, rfl, q3⟩
theorem pe_makeG (M : Mk X.K C f) (F : FnG X.prog X.w X.K X.mg X.base k f fd ps sp) (hr : RoomG (k + 1) X.A) (hg : Gl X x) (hm : X.mg x = some (.ref C)) (hb : Binds X.K fd ps ds) (hd : Vals dvs ds)
    (ha : PA X (e :: es) t) (hdb : (x == ("__debug__" : Str)) = false := by decide) (hst : starEach (e :: es) X.env = (false, eval e X.env) :: starEach es X.env := by rfl) (hpl : (backTo pos (starEach es X.env)).any (·.1) = false := by rfl) :
    PE X (.Call (.Name x p) (e :: es) [] pos) (tMake C sp dvs E t) := by
  refine ⟨fun pins s σ H Q I h => wpAny_Call_Name_kw (ld_glob I hg hm (PySem.W.callWith_K (h₀ := X.base) I.ok.mod.kin M.kp (thn (ha.run pos pins s σ H _ I h) fun us s1 ⟨vs, H1, I1, rv, q⟩ => ⟨I1.kIn, ?_⟩) hst hpl) hdb)⟩
  have q0 := q (s1.heap.objs.size + 1) s1.heap.objs.size (I1.hok.fresh (Nat.le_succ _)) (I1.hok.fresh (Nat.le_refl _)) (Nat.ne_of_lt (Nat.lt_succ_self _))
  have hl := F.len _ _ _ _ q0
  refine runMk (kn := []) (ws := []) M F hr I1 (fun s' kin => hb s' (Value.ref (s1.heap.objs.size + 1) :: us) kin ?_) (rv.append hd) q
  rw [← hl, List.cons_append, List.length_cons, List.length_cons, (rv.append hd).length]
def tMakeK0 (C : Addr) (n : Nat) (sp : Sp) (gV : List V → List V → List V) (E : XK) (tk : TA) : TE := fun σ H Q => tk σ H fun zs H1 => zs.length = n ∧ ∀ y dx, H1 y = none → H1 dx = none → dx ≠ y →
  sp (gV [.ref y] zs) (upd (upd H1 dx (.own y)) y (.ins C dx [])) (fun v H2 => v = .non ∧ Q (.ref y) H2) E
end
/-! ## the body of a def -/
section
variable {P : Program} {w : World} {K : PySem.W.Frag} {mg : Str → Option Value} {base : Heap}
theorem fnG_of {k : Nat} {f : Addr} {nm qual : Str} {prm : Arguments} {body : List Stmt} {scope : Scope} {dV kV doc pm cdv ct oc : Value} {an od : Option Addr} {osl : Array (Option Value)} {N ps : List Str} {sp : Sp}
    (lk : K.lookup f = some ⟨oc, od, .func (PySem.W.fnOf nm qual prm body scope dV kV doc pm an cdv ct), osl⟩) (hcd : PySem.W.codeIn K cdv qual = true) (S : FnScope N ps scope) (len : ∀ vs H Q E, sp vs H Q E → vs.length = ps.length)
    (hbody : ∀ (A : Around) (outer : List Env) (s : Shared) (H : Hp) (vs : List V) (Q : VK) (E : XK), RoomG k (A.deeper (envOfC qual scope s.heap.objs.size f cdv)) → sp vs H Q E →
      ∃ t, PSs (cxOf CX0 P w K mg base N qual scope f cdv A outer s H E).nox body t ∧ t { nx := fun _ H' => Q .non H', rt := Q } (start N vs) H) : FnG P w K mg base (k + 1) f (PySem.W.fnOf nm qual prm body scope dV kV doc pm an cdv ct) ps sp := by
  refine ⟨len, fun A outer s H ar us vs Q E hr e0 hb rv hsp => ?_⟩
  have old := fun b o e => (e0.bs b o e).1
  have kin : K.In s.heap := e0.mod.kin.keeps old
  refine codeAny_call_function hr.room.depth (kin _ _ lk) rfl S.co S.gen rfl (PySem.W.codeRec_of kin hcd) (hb _ _ _ _ (wpAny_newFunctionEnv_cells S.kind (fun y hy => ?_) fun env he s1 nw => ?_))
  · rcases S.par y.1 (List.of_mem_zip (b := y.2) hy).1 with q | q
    · exact .inl q
    · exact .inr ⟨q, PySem.W.cellsFrom_some _ _ _ (.inl q)⟩
  · subst he
    refine ⟨(e0.mod.nolimit.keeps old).keeps nw.toInCall.keep, codeAny_func ?_⟩
    obtain ⟨t, ht, hq⟩ := hbody A outer s H vs Q E (hr.deeper _) hsp
    refine wpAny_mono (ht.nox.run [] s1 (start N vs) H _ (inv_start S hr.room.hd e0 (len _ _ _ _ hsp) rv nw) hq) (fun fl s' z => ?_) fun _ _ z => z
    cases fl with
    | ret u => obtain ⟨v, _, G, J, ru, q⟩ := z; exact ⟨v, G, J.os, J.bare, J.base, J.hok, ru, q⟩
    | next => obtain ⟨_, G, J, q⟩ := z; exact ⟨.non, G, J.os, J.bare, J.base, J.hok, rfl, q⟩
    | brk => obtain ⟨_, _, _, q⟩ := z; exact q.elim
    | cont => obtain ⟨_, _, _, q⟩ := z; exact q.elim
theorem funG {x qual : Str} {st : Stmt} {f : Addr} {fd : FuncData} {N ps : List Str} {k : Nat} {sp : Sp} (F : Fun K x qual st f fd) (S : FnScope N ps (defScope st)) (len : ∀ vs H Q E, sp vs H Q E → vs.length = ps.length)
    (hbody : ∀ (cdv : Value) (A : Around) (outer : List Env) (s : Shared) (H : Hp) (vs : List V) (Q : VK) (E : XK), RoomG k (A.deeper (envOfC qual (defScope st) s.heap.objs.size f cdv)) → sp vs H Q E →
      ∃ t, PSs (cxOf CX0 P w K mg base N qual (defScope st) f cdv A outer s H E).nox (defBody st) t ∧ t { nx := fun _ H' => Q .non H', rt := Q } (start N vs) H) : FnG P w K mg base (k + 1) f fd ps sp := by
  obtain ⟨oc, od, kV, doc, pm, an, cdv, ct, osl, rfl, lk, hcd⟩ := F.ex
  exact fnG_of lk hcd S len (hbody cdv)
theorem funDG {x qual : Str} {prm : Arguments} {body : List Stmt} {scope : Scope} {dvs : List V} {kws : List (Str × V)} {f : Addr} {fd : FuncData} {N ps : List Str} {k : Nat} {sp : Sp} (F : FunD K x qual prm body scope dvs kws f fd) (S : FnScope N ps scope)
    (len : ∀ vs H Q E, sp vs H Q E → vs.length = ps.length)
    (hbody : ∀ (cdv : Value) (A : Around) (outer : List Env) (s : Shared) (H : Hp) (vs : List V) (Q : VK) (E : XK), RoomG k (A.deeper (envOfC qual scope s.heap.objs.size f cdv)) → sp vs H Q E →
      ∃ t, PSs (cxOf CX0 P w K mg base N qual scope f cdv A outer s H E).nox body t ∧ t { nx := fun _ H' => Q .non H', rt := Q } (start N vs) H) : FnG P w K mg base (k + 1) f fd ps sp := by
  obtain ⟨oc, od, dV, kV, doc, pm, an, cdv, ct, osl, rfl, lk, hcd, _, _⟩ := F.ex
  exact fnG_of lk hcd S len (hbody cdv)
end
/-! ## the law's end -/
section
variable {P : Program} {w : World} {K : PySem.W.Frag} {mg mb : Str → Option Value} {k : Nat} {fa a : Addr} {fd : FuncData} {x : Str} {sp : Sp} {s : Shared} {vs : List Value} {ns : List Int}
/-- from a tracked heap that holds the script at most -/
theorem lawG_core {G : Hp} (kin : K.In s.heap) (nsg : s.heap.Ns mainGlobals mg) (nsb : s.heap.Ns builtinsNs mb) (boot : ∀ y : Str, y ≠ "__name__" → mb y = bootBuiltins y) (lim : s.heap.NoLimit) (gn : s.gens = #[])
    (ha : s.heap.get? a = some { cls := .type "list", data := .seq vs.toArray }) (hr : Room k callerA) (F : ∀ base : Heap, K.In base → base.Ns mainGlobals mg → FnG P w K mg base k fa fd [x] sp) (bind : ∀ (z : Shared) (u : Value), BindsTo z fd ⟨[u], []⟩ [(x, u)])
    (only : Only G) (hok : HOk P w G s.heap) (at_ : ∀ b, G b ≠ none → b = a) (nk : G a ≠ none → K.lookup a = none) (hsp : sp [.ref a] G (fun v _ => v = .bl true) fun _ _ _ => False) :
    codeAny (model P w) callerA (.call (.ref fa) ⟨[.ref a], []⟩) (fun r z => r = .ok (.ret (.bool true)) ∧ OldK s.heap z.heap ∧ z.os = s.os ∧ AllBare z.gens) s := by
  have hid : ∀ {b : Addr} {o : Obj}, s.heap.get? b = some o → (b = a → False) → (hidT s.heap G).get? b = some o := fun {b o} e ne => hidT_get e (by
    cases q : G b with
    | none => rfl
    | some _ => exact (ne (at_ b (by rw [q]; simp))).elim)
  have nsd : ∀ {b : Addr} {m : Str → Option Value}, s.heap.Ns b m → (hidT s.heap G).Ns b m := fun {b m} ⟨o, es, ep, e, d, r⟩ => ⟨o, es, ep, hid e (fun q => by
    subst q
    rw [ha] at e
    cases e
    cases d), d, r⟩
  have kb : K.In (hidT s.heap G) := fun b o e => hidT_get (kin b o e) (by
    cases q : G b with
    | none => rfl
    | some _ =>
      have q1 := at_ b (by rw [q]; simp)
      subst q1
      rw [nk (by rw [q]; simp)] at e
      cases e)
  obtain ⟨mc, l1, l2⟩ := lim
  have none0 : ∀ b : Addr, b ∈ frs [] → False := fun b h => by cases h
  refine codeAny_mono ((F _ kb (nsd nsg)).run callerA [] s G ⟨[.ref a], []⟩ [.ref a] [.ref a] _ _ ⟨hr, rfl⟩ ⟨rfl, ⟨kb, nsd nsg, ⟨mb, nsd nsb, boot⟩, ⟨mc, nsd l1, l2⟩⟩, fun b o e => of_hidT e, Nat.le_of_eq (hidT_size _ _), trivial, fun b h => (none0 b h).elim, hok, .of_eq gn⟩
    (bind s (.ref a)) (.cons rfl .nil) hsp) fun r z h => ?_
  cases r with
  | error er => exact False.elim h
  | ok fl =>
    cases fl <;> first | exact False.elim h | skip
    rename_i u
    obtain ⟨v, G', os, bare, un, hok', ru, q⟩ := h
    have q : v = .bl true := q
    subst q
    have ru : u = Value.bool true := ru
    subst ru
    refine ⟨rfl, OldK.of_keep fun b o e => ?_, os, bare⟩
    cases q : G b with
    | none => exact un.keep b o e q (none0 b) (fun h => by cases h)
    | some c =>
      rcases only b with y | ⟨ob, xs, y⟩
      · rw [q] at y
        cases y
      · have e1 := (hok b _ y).1
        rw [e] at e1
        cases e1
        exact (hok' b _ (un.frzs b _ _ y)).1
theorem lawG (kin : K.In s.heap) (nsg : s.heap.Ns mainGlobals mg) (nsb : s.heap.Ns builtinsNs mb) (boot : ∀ y : Str, y ≠ "__name__" → mb y = bootBuiltins y) (lim : s.heap.NoLimit) (gn : s.gens = #[])
    (ha : s.heap.get? a = some { cls := .type "list", data := .seq vs.toArray }) (hi : IntsAre vs ns) (hl : ns.length ≤ sizeLine) (hr : Room k callerA) (F : ∀ base : Heap, K.In base → base.Ns mainGlobals mg → FnG P w K mg base k fa fd [x] sp)
    (bind : ∀ (z : Shared) (u : Value), BindsTo z fd ⟨[u], []⟩ [(x, u)]) (hsp : ∀ G : Hp, SqL K G a (ns.map V.int) → sp [.ref a] G (fun v _ => v = .bl true) fun _ _ _ => False) :
    codeAny (model P w) callerA (.call (.ref fa) ⟨[.ref a], []⟩) (fun r z => r = .ok (.ret (.bool true)) ∧ OldK s.heap z.heap ∧ z.os = s.os ∧ AllBare z.gens) s := by
  cases hk : K.lookup a with
  | some o =>
    have e := kin a o hk
    rw [ha] at e
    cases e
    exact lawG_core (G := fun _ => none) kin nsg nsb boot lim gn ha hr F bind (fun _ => .inl rfl) (fun _ _ y => by cases y) (fun _ y => absurd rfl y) (fun y => absurd rfl y)
      (hsp _ (.inr ⟨_, vs.toArray, _, hk, rfl, rfl, rfl, by rw [List.size_toArray, hi.length]; exact hl, by simpa using vals_ints hi⟩))
  | none =>
    have at_ : ∀ b, (fun b => if b = a then some (HO.frz { cls := .type "list", data := .seq vs.toArray } (.lst (ns.map V.int))) else none) b ≠ none → b = a := fun b y => Decidable.byContradiction fun ne => y (if_neg ne)
    refine lawG_core (G := fun b => if b = a then some (.frz { cls := .type "list", data := .seq vs.toArray } (.lst (ns.map V.int))) else none) kin nsg nsb boot lim gn ha hr F bind (fun b => ?_) (fun b u y => ?_) at_ (fun _ => hk) (hsp _ (.inl (.inr ⟨_, if_pos rfl⟩)))
    · by_cases hb : b = a
      · exact .inr ⟨_, _, if_pos hb⟩
      · exact .inl (if_neg hb)
    · have hb : b = a := at_ b (by rw [y]; simp)
      subst hb
      have y2 := (if_pos rfl).symm.trans y
      cases y2
      exact ⟨ha, by rw [List.length_map]; exact hl, vs, _, vals_ints hi, ha⟩
end
theorem walkG {l : PySem.W.OpenLaw} {n k : Nat} {q : Program} {loose : List Str} {XP : (Str → Option Value) → Heap → Prop} {YP : World → Heap → Prop} {d : DefRec} {K : Params → PySem.W.Frag} {sp : PySem.W.Frag → Sp} {x : Str}
    (hn : l.most = some n) (hn2 : n ≤ sizeLine) (hdf : d.params.defaults = []) (hr : Room k callerA) (hY : ∀ (w : World) (h : Heap), YP w h → (K w.params).In h)
    (F : ∀ (w : World) (mg : Str → Option Value) (fa : Addr) (h : Heap), (K w.params).In h → h.Ns mainGlobals mg → mg d.name = some (.ref fa) →
      ∃ fd : FuncData, (∀ (z : Shared) (u : Value), BindsTo z fd ⟨[u], []⟩ [(x, u)]) ∧ ∀ base : Heap, (K w.params).In base → base.Ns mainGlobals mg → FnG l.prog w (K w.params) mg base k fa fd [x] (sp (K w.params)))
    (hsp : ∀ (K : PySem.W.Frag) (G : Hp) (a : Addr) (ns : List Int), ns.length ≤ n → SqL K G a (ns.map V.int) → sp K [.ref a] G (fun v _ => v = .bl true) fun _ _ _ => False) :
    PySem.W.WalkO q loose XP YP l.row.toRowW d [] (fun f vs => PySem.call f vs) := by
  refine Att.attach_call hn hdf fun w s₀ s₁ mg mb fa o pm cd doc a vs ns G Y ho hd hcd hmg hobj hints hlen hg => ?_
  obtain ⟨fd, hb, hF⟩ := F w mg fa _ (hY w _ Y) G.T.g hmg
  exact lawG (hY w _ Y) G.T.g G.T.b G.T.builtins G.T.nolimit hg hobj hints (Nat.le_trans hlen hn2) hr hF hb fun H hS => hsp _ H a ns hlen hS
end DL

namespace DL
open PySem L2

/-! # The data layer: plain data over the hand layer's heap -/
inductive D where
  | non
  | bl (b : Bool)
  | int (i : Int)
  | str (x : Str)
  | tup (ds : List D)
  | lst (ds : List D)
  | dct (ks : List Key) (ds : List D)
  | scr (ns : List Int)
  | ref (i : Nat)
  | obj (c : Str) (fs : List Str) (ds : List D)
  | exc (c : Str) (fs : List Str) (ds : List D)

inductive Cell where
  | lst (ds : List D)
  | dct (kvs : List (Key × D))
  | ins (c : Str) (fs : List Str) (ds : List D)
  | tab (q : Str)

abbrev Sto := List Cell
abbrev DEnv := List (Option D)
abbrev FE := DEnv → Sto → Option (D × Sto)
abbrev FA := DEnv → Sto → Option (List D × Sto)
abbrev FT := DEnv → Sto → Option (Bool × Sto)
abbrev FD := List D → Sto → Option (D × Sto)
inductive Fl where
  | nx (env : DEnv)
  | rt (d : D)
  | bk (env : DEnv)
  | ct (env : DEnv)
abbrev FS := DEnv → Sto → Option (Fl × Sto)

abbrev CT := Str → Option Addr

/-- at a: an error of the class at C that stands as it is, its dict at dx, if it has one -/
def exk (a C : Addr) (dx : Option Addr) : HO := .ext fun h => ∃ o vs, h.get? a = some o ∧ o.cls = .ref C ∧ o.dict = dx ∧ o.data = .fields vs

section
variable (K : PySem.W.Frag) (ct : CT)
mutual
def Rep (m : List Addr) (F : Hp) : D → V → Prop
  | .non, v => v = .non
  | .bl b, v => v = .bl b
  | .int i, v => v = .int i
  | .str x, v => v = .str x
  | .tup ds, v => ∃ a vs, v = .ref a ∧ SqT K F a vs ∧ Reps m F ds vs
  | .lst ds, v => ∃ a vs, v = .ref a ∧ F a = some (.lst vs) ∧ Reps m F ds vs
  | .dct ks ds, v => ∃ a vs, v = .ref a ∧ F a = some (.dK (ks.zip vs)) ∧ ks.length = vs.length ∧ Reps m F ds vs
  | .scr ns, v => ∃ a, v = .ref a ∧ SqL K F a (ns.map V.int)
  | .ref i, v => ∃ a, m[i]? = some a ∧ v = .ref a
  | .obj c fs ds, v => ∃ a C dx vs, v = .ref a ∧ ct c = some C ∧ F a = some (.ins C dx (fs.zip vs)) ∧ fs.length = vs.length ∧ Reps m F ds vs
  | .exc c fs ds, v => ∃ a C dx vs, v = .ref a ∧ ct c = some C ∧ F a = some (exk a C dx) ∧ ((dx = none ∧ fs = []) ∨ ∃ d, dx = some d ∧ F d = some (.xd (fs.zip vs))) ∧ fs.length = vs.length ∧ Reps m F ds vs
def Reps (m : List Addr) (F : Hp) : List D → List V → Prop
  | [], vs => vs = []
  | d :: ds, vs => ∃ v r, vs = v :: r ∧ Rep m F d v ∧ Reps m F ds r
end
def CellR (m : List Addr) (F : Hp) (o : Option HO) : Cell → Prop
  | .lst ds => ∃ vs, o = some (.lst vs) ∧ Reps K ct m F ds vs
  | .dct kvs => ∃ us, o = some (.dK us) ∧ Paired (fun (p : Key × D) (q : Key × V) => p.1 = q.1 ∧ Rep K ct m F p.2 q.2) kvs us
  | .ins c fs ds => ∃ C dx vs, o = some (.ins C dx (fs.zip vs)) ∧ ct c = some C ∧ fs.length = vs.length ∧ Reps K ct m F ds vs
  | .tab q => ∃ ps : Array Value, o = some (.tbl ps) ∧ TriplesOk ps.toList ∧ ∀ (pos : Pos) (cv : Value), codeAmong pos ps.toList = some cv → ∃ c, cv = .ref c ∧ F c = some (LamX.CodeO c q)
def isTab : Cell → Option Str
  | .tab q => some q
  | _ => none
structure Sim (m : List Addr) (F : Hp) (S : Sto) (H : Hp) : Prop where
  same : Same F H
  len : m.length = S.length
  nd : m.Nodup
  off : ∀ a ∈ m, F a = none
  cell : ∀ (i : Nat) (a : Addr) (c : Cell), m[i]? = some a → S[i]? = some c → CellR K ct m F (H a) c
  tab : ∀ (i : Nat) (a : Addr) (c : Cell) (q : Str), m[i]? = some a → S[i]? = some c → isTab c = some q → ct q = some a
def EnvR (m : List Addr) (F : Hp) (env : DEnv) (σ : St) : Prop :=
  env.length = σ.length ∧ ∀ (i : Nat) (d : D), env[i]? = some (some d) → ∃ v, σ[i]? = some (some v) ∧ Rep K ct m F d v
end
/-- what an evaluation may do to the heap -/
structure Ext (m : List Addr) (F H : Hp) (m' : List Addr) (F' H' : Hp) : Prop where
  pre : ∀ (i : Nat) (a : Addr), m[i]? = some a → m'[i]? = some a
  same : Same F F'
  keep : ∀ b o, H b = some o → b ∉ m → H' b = some o
  new : ∀ a ∈ m', a ∈ m ∨ H a = none
  fnew : ∀ b o, F' b = some o → F b = some o ∨ H b = none
  grow : ∀ b o, H b = some o → ∃ o', H' b = some o'

theorem nodup_inj {α : Type} {a : α} : ∀ {l : List α} {i j : Nat}, l.Nodup → l[i]? = some a → l[j]? = some a → i = j
  | [], _, _, _, h, _ => by simp at h
  | x :: l, 0, 0, _, _, _ => rfl
  | x :: l, 0, j + 1, n, h, q => by
    simp at h q
    exact absurd (List.mem_iff_getElem?.mpr ⟨j, q⟩) (h ▸ (List.nodup_cons.mp n).1)
  | x :: l, i + 1, 0, n, h, q => by
    simp at h q
    exact absurd (List.mem_iff_getElem?.mpr ⟨i, h⟩) (q ▸ (List.nodup_cons.mp n).1)
  | x :: l, i + 1, j + 1, n, h, q => by
    have := nodup_inj (i := i) (j := j) (List.nodup_cons.mp n).2 (by simpa using h) (by simpa using q)
    omega
theorem Ext.refl (m : List Addr) (F H : Hp) : Ext m F H m F H := ⟨fun _ _ h => h, Same.refl _, fun _ _ h _ => h, fun _ h => .inl h, fun _ _ h => .inl h, fun _ o h => ⟨o, h⟩⟩
theorem Ext.mem {m m' : List Addr} {F H F' H' : Hp} (e : Ext m F H m' F' H') {a : Addr} (h : a ∈ m) : a ∈ m' := by
  obtain ⟨i, hi⟩ := List.mem_iff_getElem?.mp h
  exact List.mem_iff_getElem?.mpr ⟨i, e.pre i a hi⟩
theorem Ext.trans {m m1 m2 : List Addr} {F F1 F2 H H1 H2 : Hp} (a : Ext m F H m1 F1 H1) (b : Ext m1 F1 H1 m2 F2 H2) : Ext m F H m2 F2 H2 where
  pre := fun i x h => b.pre i x (a.pre i x h)
  same := a.same.trans b.same
  keep := fun c o h n => b.keep c o (a.keep c o h n) fun hm => by
    rcases a.new c hm with q | q
    · exact n q
    · rw [h] at q; cases q
  new := fun x hx => by
    rcases b.new x hx with q | q
    · exact a.new x q
    · cases e : H x with
      | none => exact .inr rfl
      | some o =>
        obtain ⟨o', h⟩ := a.grow x o e
        rw [h] at q; cases q
  fnew := fun x o hx => by
    rcases b.fnew x o hx with q | q
    · exact a.fnew x o q
    · cases e : H x with
      | none => exact .inr rfl
      | some o =>
        obtain ⟨o', h⟩ := a.grow x o e
        rw [h] at q; cases q
  grow := fun x o h => by
    obtain ⟨o1, h1⟩ := a.grow x o h
    exact b.grow x o1 h1

section
variable {K : PySem.W.Frag} {ct : CT}
theorem sqT_mono {F F' : Hp} {a : Addr} {vs : List V} (e : Same F F') (h : SqT K F a vs) : SqT K F' a vs := by
  rcases h with (h | ⟨o, h⟩) | h
  · exact .inl (.inl (e _ _ h))
  · exact .inl (.inr ⟨o, e _ _ h⟩)
  · exact .inr h
mutual
theorem Rep.mono' {m m' : List Addr} {F F' : Hp} (hp : ∀ (i : Nat) (a : Addr), m[i]? = some a → m'[i]? = some a) (e : Same F F') : ∀ (d : D) (v : V), Rep K ct m F d v → Rep K ct m' F' d v
  | .non, _, h => h
  | .bl _, _, h => h
  | .int _, _, h => h
  | .str _, _, h => h
  | .tup ds, _, h => by
    obtain ⟨a, vs, e1, e2, e3⟩ := h
    exact ⟨a, vs, e1, sqT_mono e e2, Reps.mono' hp e ds vs e3⟩
  | .lst ds, _, h => by
    obtain ⟨a, vs, e1, e2, e3⟩ := h
    exact ⟨a, vs, e1, e _ _ e2, Reps.mono' hp e ds vs e3⟩
  | .dct ks ds, _, h => by
    obtain ⟨a, vs, e1, e2, e4, e3⟩ := h
    exact ⟨a, vs, e1, e _ _ e2, e4, Reps.mono' hp e ds vs e3⟩
  | .scr _, _, h => by
    obtain ⟨a, e1, e2⟩ := h
    exact ⟨a, e1, e.seq e2⟩
  | .ref i, _, h => by
    obtain ⟨a, e1, e2⟩ := h
    exact ⟨a, hp i a e1, e2⟩
  | .obj c fs ds, _, h => by
    obtain ⟨a, C, dx, vs, e1, e2, e4, e5, e3⟩ := h
    exact ⟨a, C, dx, vs, e1, e2, e _ _ e4, e5, Reps.mono' hp e ds vs e3⟩
  | .exc c fs ds, _, h => by
    obtain ⟨a, C, dx, vs, e1, e2, e4, e6, e5, e3⟩ := h
    exact ⟨a, C, dx, vs, e1, e2, e _ _ e4, e6.imp id fun ⟨d, q1, q2⟩ => ⟨d, q1, e _ _ q2⟩, e5, Reps.mono' hp e ds vs e3⟩
theorem Reps.mono' {m m' : List Addr} {F F' : Hp} (hp : ∀ (i : Nat) (a : Addr), m[i]? = some a → m'[i]? = some a) (e : Same F F') : ∀ (ds : List D) (vs : List V), Reps K ct m F ds vs → Reps K ct m' F' ds vs
  | [], _, h => h
  | d :: ds, _, h => by
    obtain ⟨v, r, e1, e2, e3⟩ := h
    exact ⟨v, r, e1, Rep.mono' hp e d v e2, Reps.mono' hp e ds r e3⟩
end
variable {m m' : List Addr} {F F' H H' : Hp} {S S' : Sto} {env : DEnv} {σ : St} {d : D} {v : V} {ds : List D} {vs : List V}
theorem Rep.mono (h : Rep K ct m F d v) (e : Ext m F H m' F' H') : Rep K ct m' F' d v := Rep.mono' e.pre e.same d v h
theorem Reps.mono (h : Reps K ct m F ds vs) (e : Ext m F H m' F' H') : Reps K ct m' F' ds vs := Reps.mono' e.pre e.same ds vs h
theorem EnvR.mono (h : EnvR K ct m F env σ) (e : Ext m F H m' F' H') : EnvR K ct m' F' env σ :=
  ⟨h.1, fun i d q => let ⟨v, h1, h2⟩ := h.2 i d q; ⟨v, h1, h2.mono e⟩⟩
theorem CellR.mono {o : Option HO} {c : Cell} (h : CellR K ct m F o c) (e : Ext m F H m' F' H') : CellR K ct m' F' o c := by
  cases c with
  | lst ds => obtain ⟨vs, e1, e2⟩ := h; exact ⟨vs, e1, e2.mono e⟩
  | dct kvs => obtain ⟨vs, e1, e2⟩ := h; exact ⟨vs, e1, Paired.mapP e2 fun p q z => ⟨z.1, z.2.mono e⟩⟩
  | ins c fs ds => obtain ⟨C, dx, vs, e1, e4, e3, e2⟩ := h; exact ⟨C, dx, vs, e1, e4, e3, e2.mono e⟩
  | tab q => obtain ⟨ps, e1, e2, e3⟩ := h; exact ⟨ps, e1, e2, fun pos cv hc => let ⟨c, z1, z2⟩ := e3 pos cv hc; ⟨c, z1, e.same _ _ z2⟩⟩
theorem CellR.isSome {o : Option HO} {c : Cell} (h : CellR K ct m F o c) : ∃ u, o = some u := by
  cases c with
  | lst ds => obtain ⟨vs, e1, _⟩ := h; exact ⟨_, e1⟩
  | dct kvs => obtain ⟨vs, e1, _⟩ := h; exact ⟨_, e1⟩
  | ins c fs ds => obtain ⟨C, dx, vs, e1, _⟩ := h; exact ⟨_, e1⟩
  | tab q => obtain ⟨ps, e1, _⟩ := h; exact ⟨_, e1⟩
theorem Sim.at (s : Sim K ct m F S H) {i : Nat} {a : Addr} (h : m[i]? = some a) : ∃ c, S[i]? = some c ∧ CellR K ct m F (H a) c := by
  have hi : i < S.length := by
    rw [← s.len]
    exact (List.getElem?_eq_some_iff.mp h).1
  exact ⟨S[i], List.getElem?_eq_getElem hi, s.cell i a S[i] h (List.getElem?_eq_getElem hi)⟩
theorem Sim.there (s : Sim K ct m F S H) {a : Addr} (h : a ∈ m) : ∃ o, H a = some o := by
  obtain ⟨i, hi⟩ := List.mem_iff_getElem?.mp h
  obtain ⟨c, _, hc⟩ := s.at hi
  exact hc.isSome
/-- a new frozen object -/
theorem Sim.frozen (s : Sim K ct m F S H) {p : Addr} (hp : H p = none) (o : HO) : Sim K ct m (upd F p o) S (upd H p o) ∧ Ext m F H m (upd F p o) (upd H p o) := by
  have nm : p ∉ m := fun h => by
    obtain ⟨o, q⟩ := s.there h
    rw [hp] at q; cases q
  have x : Ext m F H m (upd F p o) (upd H p o) := by
    refine ⟨fun _ _ h => h, fun b u h => ?_, fun b u h _ => ?_, fun a h => .inl h, fun b u h => ?_, fun b u h => ?_⟩
    · rw [upd_ne (ne_of_none (s.same _ _ h) hp)]; exact h
    · rw [upd_ne (ne_of_none h hp)]; exact h
    · by_cases hb : b = p
      · rw [hb]; exact .inr hp
      · rw [upd_ne hb] at h; exact .inl h
    · exact ⟨u, by rw [upd_ne (ne_of_none h hp)]; exact h⟩
  refine ⟨⟨fun b u h => ?_, s.len, s.nd, fun a h => ?_, fun i a c h1 h2 => ?_, s.tab⟩, x⟩
  · by_cases hb : b = p
    · rw [hb, upd_same] at h; rw [hb, upd_same]; exact h
    · rw [upd_ne hb] at h; rw [upd_ne hb]; exact s.same _ _ h
  · have na : a ≠ p := fun e => nm (e ▸ h)
    rw [upd_ne na]; exact s.off a h
  · have hm : a ∈ m := List.mem_iff_getElem?.mpr ⟨i, h1⟩
    have na : a ≠ p := fun e => nm (e ▸ hm)
    rw [upd_ne na]
    exact (s.cell i a c h1 h2).mono x
/-- a new cell -/
theorem Sim.fresh (s : Sim K ct m F S H) {p : Addr} (hp : H p = none) {o : HO} {c : Cell} (hc : CellR K ct m F (some o) c) (nt : isTab c = none := by rfl) : Sim K ct (m ++ [p]) F (S ++ [c]) (upd H p o) ∧ Ext m F H (m ++ [p]) F (upd H p o) := by
  have nm : p ∉ m := fun h => by
    obtain ⟨o, q⟩ := s.there h
    rw [hp] at q; cases q
  have x : Ext m F H (m ++ [p]) F (upd H p o) := by
    refine ⟨fun i a h => ?_, Same.refl _, fun b u h _ => ?_, fun a h => ?_, fun b u h => .inl h, fun b u h => ?_⟩
    · rw [List.getElem?_append_left (List.getElem?_eq_some_iff.mp h).1]; exact h
    · rw [upd_ne (ne_of_none h hp)]; exact h
    · rcases List.mem_append.mp h with q | q
      · exact .inl q
      · rw [List.mem_singleton.mp q]; exact .inr hp
    · exact ⟨u, by rw [upd_ne (ne_of_none h hp)]; exact h⟩
  refine ⟨⟨fun b u h => ?_, by simp [s.len], ?_, fun a h => ?_, fun i a c' h1 h2 => ?_, fun i a c' q h1 h2 h3 => ?_⟩, x⟩
  · rw [upd_ne (ne_of_none (s.same _ _ h) hp)]; exact s.same _ _ h
  · rw [List.nodup_append]
    exact ⟨s.nd, by simp, fun a ha b hb e => nm (by rw [List.mem_singleton.mp hb] at e; exact e ▸ ha)⟩
  · rcases List.mem_append.mp h with q | q
    · exact s.off a q
    · rw [List.mem_singleton.mp q]
      cases e : F p with
      | none => rfl
      | some o => rw [s.same _ _ e] at hp; cases hp
  · by_cases hi : i < m.length
    · rw [List.getElem?_append_left hi] at h1
      rw [List.getElem?_append_left (s.len ▸ hi)] at h2
      have hm : a ∈ m := List.mem_iff_getElem?.mpr ⟨i, h1⟩
      have na : a ≠ p := fun e => nm (e ▸ hm)
      rw [upd_ne na]
      exact (s.cell i a c' h1 h2).mono x
    · rw [List.getElem?_append_right (by omega)] at h1
      rw [List.getElem?_append_right (by have := s.len; omega)] at h2
      have e0 : i - m.length = 0 := by
        have := (List.getElem?_eq_some_iff.mp h1).1
        simp at this; omega
      rw [e0] at h1
      rw [← s.len, e0] at h2
      simp at h1 h2
      subst h1 h2
      rw [upd_same]
      exact hc.mono x
  · by_cases hi : i < m.length
    · rw [List.getElem?_append_left hi] at h1
      rw [List.getElem?_append_left (s.len ▸ hi)] at h2
      exact s.tab i a c' q h1 h2 h3
    · rw [List.getElem?_append_right (by have := s.len; omega)] at h2
      have := List.mem_of_getElem? h2
      rw [List.mem_singleton.mp this, nt] at h3
      cases h3
/-- a cell is changed -/
theorem Sim.change (s : Sim K ct m F S H) {i : Nat} {p : Addr} (hi : m[i]? = some p) {o : HO} {c : Cell} (hc : CellR K ct m F (some o) c) (nt : ∀ q, isTab c = some q → ct q = some p := by (intro q h; cases h)) : Sim K ct m F (S.set i c) (upd H p o) ∧ Ext m F H m F (upd H p o) := by
  have hm : p ∈ m := List.mem_iff_getElem?.mpr ⟨i, hi⟩
  have x : Ext m F H m F (upd H p o) := by
    refine ⟨fun _ _ h => h, Same.refl _, fun b u h n => ?_, fun a h => .inl h, fun _ _ h => .inl h, fun b u h => ?_⟩
    · have nb : b ≠ p := fun e => n (e ▸ hm)
      rw [upd_ne nb]; exact h
    · by_cases hb : b = p
      · rw [hb, upd_same]; exact ⟨o, rfl⟩
      · rw [upd_ne hb]; exact ⟨u, h⟩
  refine ⟨⟨fun b u h => ?_, by simp [s.len], s.nd, s.off, fun j a c' h1 h2 => ?_, fun j a c' q h1 h2 h3 => ?_⟩, x⟩
  · have nb : b ≠ p := fun e => by
      subst e
      rw [s.off b hm] at h; cases h
    rw [upd_ne nb]; exact s.same _ _ h
  · have hil : i < m.length := (List.getElem?_eq_some_iff.mp hi).1
    by_cases hj : j = i
    · subst hj
      rw [hi] at h1
      cases h1
      rw [List.getElem?_set_self (s.len ▸ hil)] at h2
      cases h2
      rw [upd_same]
      exact hc
    · rw [List.getElem?_set_ne (fun e => hj e.symm)] at h2
      have na : a ≠ p := fun e => by
        subst e
        have hjl : j < m.length := (List.getElem?_eq_some_iff.mp h1).1
        exact hj (nodup_inj s.nd h1 hi)
      rw [upd_ne na]
      exact s.cell j a c' h1 h2
  · have hil : i < m.length := (List.getElem?_eq_some_iff.mp hi).1
    by_cases hj : j = i
    · subst hj
      rw [hi] at h1
      cases h1
      rw [List.getElem?_set_self (s.len ▸ hil)] at h2
      cases h2
      exact nt q h3
    · rw [List.getElem?_set_ne (fun e => hj e.symm)] at h2
      exact s.tab j a c' q h1 h2 h3
theorem Reps.length : ∀ {ds : List D} {vs : List V}, Reps K ct m F ds vs → ds.length = vs.length
  | [], _, h => by have h : _ = _ := h; subst h; rfl
  | d :: ds, _, h => by
    obtain ⟨v, r, e1, _, e3⟩ := h
    subst e1
    simp [Reps.length e3]
theorem Reps.get : ∀ {ds : List D} {vs : List V} {i : Nat} {d : D}, Reps K ct m F ds vs → ds[i]? = some d → ∃ v, vs[i]? = some v ∧ Rep K ct m F d v
  | [], _, _, _, _, h => by simp at h
  | d :: ds, _, 0, _, hr, h => by
    obtain ⟨v, r, e1, e2, _⟩ := hr
    subst e1
    simp at h
    subst h
    exact ⟨v, rfl, e2⟩
  | d :: ds, _, i + 1, _, hr, h => by
    obtain ⟨v, r, e1, _, e3⟩ := hr
    subst e1
    exact Reps.get (i := i) e3 (by simpa using h)
theorem Reps.getV {i : Nat} (h : Reps K ct m F ds vs) (e : vs[i]? = some v) : ∃ d, ds[i]? = some d ∧ Rep K ct m F d v := by
  have hi : i < ds.length := by
    rw [h.length]
    exact (List.getElem?_eq_some_iff.mp e).1
  obtain ⟨v', q1, q2⟩ := h.get (List.getElem?_eq_getElem hi)
  rw [e] at q1
  cases q1
  exact ⟨_, List.getElem?_eq_getElem hi, q2⟩
theorem Reps.snoc : ∀ {ds : List D} {vs : List V} {d : D} {v : V}, Reps K ct m F ds vs → Rep K ct m F d v → Reps K ct m F (ds ++ [d]) (vs ++ [v])
  | [], _, d, v, h, q => by
    have h : _ = _ := h
    subst h
    exact ⟨v, [], rfl, q, rfl⟩
  | e :: ds, _, d, v, h, q => by
    obtain ⟨x, r, e1, e2, e3⟩ := h
    subst e1
    exact ⟨x, r ++ [v], rfl, e2, e3.snoc q⟩
theorem Reps.append : ∀ {ds es : List D} {vs us : List V}, Reps K ct m F ds vs → Reps K ct m F es us → Reps K ct m F (ds ++ es) (vs ++ us)
  | [], _, _, _, h, q => by
    have h : _ = _ := h
    subst h
    exact q
  | e :: ds, _, _, _, h, q => by
    obtain ⟨x, r, e1, e2, e3⟩ := h
    subst e1
    exact ⟨x, _, rfl, e2, e3.append q⟩
theorem Reps.set : ∀ {ds : List D} {vs : List V} {d : D} {v : V} (i : Nat), Reps K ct m F ds vs → Rep K ct m F d v → Reps K ct m F (ds.set i d) (vs.set i v)
  | [], _, d, v, i, h, q => by
    have h : _ = _ := h
    subst h
    cases i <;> exact rfl
  | e :: ds, _, d, v, 0, h, q => by
    obtain ⟨x, r, e1, e2, e3⟩ := h
    subst e1
    exact ⟨v, r, rfl, q, e3⟩
  | e :: ds, _, d, v, i + 1, h, q => by
    obtain ⟨x, r, e1, e2, e3⟩ := h
    subst e1
    exact ⟨x, _, rfl, e2, e3.set i q⟩
theorem Reps.take : ∀ {ds : List D} {vs : List V} (n : Nat), Reps K ct m F ds vs → Reps K ct m F (ds.take n) (vs.take n)
  | _, _, 0, _ => by simp [Reps]
  | [], _, n + 1, h => by
    have h : _ = _ := h
    subst h
    exact rfl
  | d :: ds, _, n + 1, h => by
    obtain ⟨x, r, e1, e2, e3⟩ := h
    subst e1
    exact ⟨x, _, rfl, e2, e3.take n⟩
theorem Reps.drop : ∀ {ds : List D} {vs : List V} (n : Nat), Reps K ct m F ds vs → Reps K ct m F (ds.drop n) (vs.drop n)
  | _, _, 0, h => h
  | [], _, n + 1, h => by
    have h : _ = _ := h
    subst h
    exact rfl
  | d :: ds, _, n + 1, h => by
    obtain ⟨x, r, e1, e2, e3⟩ := h
    subst e1
    exact e3.drop n
theorem Reps.mk1 (h : Rep K ct m F d v) : Reps K ct m F [d] [v] := ⟨v, [], rfl, h, rfl⟩
theorem Reps.ints (ns : List Int) : Reps K ct m F (ns.map D.int) (ns.map V.int) := by
  induction ns with
  | nil => exact rfl
  | cons n ns ih => exact ⟨_, _, rfl, rfl, ih⟩
theorem EnvR.set (h : EnvR K ct m F env σ) (i : Nat) (q : Rep K ct m F d v) : EnvR K ct m F (env.set i (some d)) (σ.set i (some v)) := by
  refine ⟨by simp [h.1], fun j e hj => ?_⟩
  by_cases e1 : i = j
  · subst e1
    have hl : i < env.length := by
      have := (List.getElem?_eq_some_iff.mp hj).1
      simpa using this
    rw [List.getElem?_set_self hl] at hj
    cases hj
    rw [List.getElem?_set_self (h.1 ▸ hl)]
    exact ⟨v, rfl, q⟩
  · rw [List.getElem?_set_ne e1] at hj
    rw [List.getElem?_set_ne e1]
    exact h.2 j e hj
end

/-! ## judgements -/
section
variable (ct : CT)
def PostE (K : PySem.W.Frag) (m : List Addr) (F H : Hp) (S' : Sto) (d : D) (Q : VK) : Prop :=
  ∀ m' F' v H', Ext m F H m' F' H' → Sim K ct m' F' S' H' → Rep K ct m' F' d v → Q v H'
def PostA (K : PySem.W.Frag) (m : List Addr) (F H : Hp) (S' : Sto) (ds : List D) (Q : List V → Hp → Prop) : Prop :=
  ∀ m' F' vs H', Ext m F H m' F' H' → Sim K ct m' F' S' H' → Reps K ct m' F' ds vs → Q vs H'
def PostT (K : PySem.W.Frag) (m : List Addr) (F H : Hp) (S' : Sto) (b : Bool) (Q : Bool → Hp → Prop) : Prop :=
  ∀ m' F' H', Ext m F H m' F' H' → Sim K ct m' F' S' H' → Q b H'
def PostS (K : PySem.W.Frag) (m : List Addr) (F H : Hp) (S' : Sto) (fl : Fl) (E : Ends) : Prop :=
  match fl with
  | .nx env' => ∀ m' F' σ' H', Ext m F H m' F' H' → Sim K ct m' F' S' H' → EnvR K ct m' F' env' σ' → E.nx σ' H'
  | .rt d => ∀ m' F' v H', Ext m F H m' F' H' → Sim K ct m' F' S' H' → Rep K ct m' F' d v → E.rt v H'
  | .bk env' => ∀ m' F' σ' H', Ext m F H m' F' H' → Sim K ct m' F' S' H' → EnvR K ct m' F' env' σ' → E.bk σ' H'
  | .ct env' => ∀ m' F' σ' H', Ext m F H m' F' H' → Sim K ct m' F' S' H' → EnvR K ct m' F' env' σ' → E.ct σ' H'
def SE (X : Cx) (e : Expr) (f : FE) : Prop := ∃ t, PE X e t ∧ ∀ m F S σ H env d S' Q, Sim X.K ct m F S H → EnvR X.K ct m F env σ → f env S = some (d, S') → PostE ct X.K m F H S' d Q → t σ H Q
def SA (X : Cx) (es : List Expr) (f : FA) : Prop := ∃ t, PA X es t ∧ ∀ m F S σ H env ds S' Q, Sim X.K ct m F S H → EnvR X.K ct m F env σ → f env S = some (ds, S') → PostA ct X.K m F H S' ds Q → t σ H Q
def ST (X : Cx) (e : Expr) (f : FT) : Prop := ∃ t, PT X e t ∧ ∀ m F S σ H env b S' Q, Sim X.K ct m F S H → EnvR X.K ct m F env σ → f env S = some (b, S') → PostT ct X.K m F H S' b Q → t σ H Q
def SW (X : Cx) (e : Expr) (f : FT) : Prop := ∃ t, PW X e t ∧ ∀ m F S σ H env b S' Q, Sim X.K ct m F S H → EnvR X.K ct m F env σ → f env S = some (b, S') → PostT ct X.K m F H S' b Q → t σ H Q
def SS (X : Cx) (st : Stmt) (f : FS) : Prop := ∃ t, PS X st t ∧ ∀ m F S σ H env fl S' E, Sim X.K ct m F S H → EnvR X.K ct m F env σ → f env S = some (fl, S') → PostS ct X.K m F H S' fl E → t E σ H
def SSs (X : Cx) (sts : List Stmt) (f : FS) : Prop := ∃ t, PSs X sts t ∧ ∀ m F S σ H env fl S' E, Sim X.K ct m F S H → EnvR X.K ct m F env σ → f env S = some (fl, S') → PostS ct X.K m F H S' fl E → t E σ H
/-- a rule of two values, at data -/
def OpD (K : PySem.W.Frag) (r : R2) (g : D → D → Sto → Option (D × Sto)) : Prop := ∀ m F S H x y dx dy d S' Q, Sim K ct m F S H → Rep K ct m F dx x → Rep K ct m F dy y → g dx dy S = some (d, S') → PostE ct K m F H S' d Q → r x y H Q
def CallD (K : PySem.W.Frag) (r : List V → Hp → VK → Prop) (g : FD) : Prop := ∀ m F S H xs ds d S' Q, Sim K ct m F S H → Reps K ct m F ds xs → g ds S = some (d, S') → PostE ct K m F H S' d Q → r xs H Q
end

section
variable {ct : CT} {K : PySem.W.Frag} {m m1 : List Addr} {F F1 H H1 : Hp} {S S' : Sto}
theorem PostE.ext {d : D} {Q : VK} (p : PostE ct K m F H S' d Q) (e : Ext m F H m1 F1 H1) : PostE ct K m1 F1 H1 S' d Q := fun m' F' v H' x s r => p m' F' v H' (e.trans x) s r
theorem PostA.ext {d : List D} {Q : List V → Hp → Prop} (p : PostA ct K m F H S' d Q) (e : Ext m F H m1 F1 H1) : PostA ct K m1 F1 H1 S' d Q := fun m' F' v H' x s r => p m' F' v H' (e.trans x) s r
theorem PostT.ext {d : Bool} {Q : Bool → Hp → Prop} (p : PostT ct K m F H S' d Q) (e : Ext m F H m1 F1 H1) : PostT ct K m1 F1 H1 S' d Q := fun m' F' H' x s => p m' F' H' (e.trans x) s
theorem PostS.ext {fl : Fl} {E : Ends} (p : PostS ct K m F H S' fl E) (e : Ext m F H m1 F1 H1) : PostS ct K m1 F1 H1 S' fl E := by
  cases fl with
  | nx env' => exact fun m' F' σ' H' x s r => p m' F' σ' H' (e.trans x) s r
  | rt d => exact fun m' F' σ' H' x s r => p m' F' σ' H' (e.trans x) s r
  | bk env' => exact fun m' F' σ' H' x s r => p m' F' σ' H' (e.trans x) s r
  | ct env' => exact fun m' F' σ' H' x s r => p m' F' σ' H' (e.trans x) s r
theorem PostE.now {d : D} {v : V} {Q : VK} (p : PostE ct K m F H S d Q) (s : Sim K ct m F S H) (r : Rep K ct m F d v) : Q v H := p m F v H (Ext.refl _ _ _) s r
end
end DL

namespace DL
open PySem L2
section
variable {ct : CT} {X : Cx} {a b c e : Expr} {es : List Expr} {fa fb fc f : FE} {fas : FA} {pos : Pos}
/-! ## names, constants -/
def fVar (i : Nat) : FE := fun env S => match env[i]? with
  | some (some d) => some (d, S)
  | _ => none
def fC (d : D) : FE := fun _ S => some (d, S)
theorem se_var (i : Nat) {x : Str} (hN : X.N[i]? = some x := by rfl) (hv : Vis X.env.scope x := by first | exact Or.inl rfl | exact Or.inr (Or.inl rfl) | exact Or.inr (Or.inr rfl)) (hd : (x == ("__debug__" : Str)) = false := by decide)
    (hcd : (x == ("__classdict__" : Str)) = false := by decide) : SE ct X (.Name x pos) (fVar i) := by
  refine ⟨_, pe_var hN hv hd hcd, fun m F S σ H env d S' Q s r h p => ?_⟩
  unfold fVar at h
  split at h
  · rename_i d' e
    cases h
    obtain ⟨v, h1, h2⟩ := r.2 i _ e
    exact ⟨v, h1, p.now s h2⟩
  · cases h
theorem se_of {t : TE} {d : D} {v : V} (h : PE X e t) (ht : ∀ σ H (Q : VK), Q v H → t σ H Q) (hr : ∀ m F, Rep X.K ct m F d v) : SE ct X e (fC d) :=
  ⟨t, h, fun m F S σ H env d' S' Q s _ q p => by
    cases q
    exact ht σ H Q (p.now s (hr m F))⟩
theorem se_int {i : Int} {j : Nat} : SE ct X (.Constant (.int i) j pos) (fC (.int i)) := se_of pe_int (fun _ _ _ q => q) fun _ _ => rfl
theorem se_bl {i : Bool} {j : Nat} : SE ct X (.Constant (.bool i) j pos) (fC (.bl i)) := se_of pe_bl (fun _ _ _ q => q) fun _ _ => rfl
theorem se_non {j : Nat} : SE ct X (.Constant .none j pos) (fC .non) := se_of pe_non (fun _ _ _ q => q) fun _ _ => rfl
theorem se_str {i : Str} {j : Nat} : SE ct X (.Constant (.str i) j pos) (fC (.str i)) := se_of pe_str (fun _ _ _ q => q) fun _ _ => rfl
theorem se_glob {x : Str} {v : V} {u : Value} {d : D} (hg : Gl X x) (hm : X.mg x = some u) (r : RelV v u) (hr : ∀ m F, Rep X.K ct m F d v) (hd : (x == ("__debug__" : Str)) = false := by decide) : SE ct X (.Name x pos) (fC d) :=
  se_of (pe_glob hg hm r hd) (fun _ _ _ q => q) hr
/-! ## two values in a row -/
def fBin (g : D → D → Sto → Option (D × Sto)) (fa fb : FE) : FE := fun env S => (fa env S).bind fun p => (fb env p.2).bind fun q => g p.1 q.1 q.2
theorem bind_some {α β : Type} {o : Option α} {k : α → Option β} {r : β} (h : o.bind k = some r) : ∃ x, o = some x ∧ k x = some r := by
  cases o with
  | none => cases h
  | some x => exact ⟨x, rfl, h⟩
theorem two {m : List Addr} {F H : Hp} {S S' : Sto} {env : DEnv} {d : D} {σ : St} {Q : VK} {g : D → D → Sto → Option (D × Sto)} {r : R2} {ta tb : TE}
    (ra : ∀ m F S σ H env d S' Q, Sim X.K ct m F S H → EnvR X.K ct m F env σ → fa env S = some (d, S') → PostE ct X.K m F H S' d Q → ta σ H Q)
    (rb : ∀ m F S σ H env d S' Q, Sim X.K ct m F S H → EnvR X.K ct m F env σ → fb env S = some (d, S') → PostE ct X.K m F H S' d Q → tb σ H Q)
    (o : OpD ct X.K r g) (s : Sim X.K ct m F S H) (en : EnvR X.K ct m F env σ) (h : fBin g fa fb env S = some (d, S')) (p : PostE ct X.K m F H S' d Q) : tOp r ta tb σ H Q := by
  obtain ⟨⟨x, S1⟩, h1, h⟩ := bind_some h
  obtain ⟨⟨y, S2⟩, h2, h⟩ := bind_some h
  refine ra m F S σ H env x S1 _ s en h1 fun m1 F1 v1 H1 x1 s1 r1 => ?_
  refine rb m1 F1 S1 σ H1 env y S2 _ s1 (en.mono x1) h2 fun m2 F2 v2 H2 x2 s2 r2 => ?_
  exact o m2 F2 S2 H2 v1 v2 x y d S' Q s2 (r1.mono x2) r2 h ((p.ext x1).ext x2)
theorem se_op {op : Operator} {r : R2} {g : D → D → Sto → Option (D × Sto)} (ho : OpR X (binaryOp op) r) (od : OpD ct X.K r g) (ha : SE ct X a fa) (hb : SE ct X b fb) : SE ct X (.BinOp a op b pos) (fBin g fa fb) := by
  obtain ⟨ta, pa, ra⟩ := ha
  obtain ⟨tb, pb, rb⟩ := hb
  exact ⟨_, pe_op ho pa pb, fun m F S σ H env d S' Q s en h p => two ra rb od s en h p⟩
theorem se_cmp {op : CmpOp} {r : R2} {g : D → D → Sto → Option (D × Sto)} (ho : OpR X (compareOp op) r) (od : OpD ct X.K r g) (ha : SE ct X a fa) (hb : SE ct X b fb) (hm : behindInMarks op b = false) : SE ct X (.Compare a [op] [b] pos) (fBin g fa fb) := by
  obtain ⟨ta, pa, ra⟩ := ha
  obtain ⟨tb, pb, rb⟩ := hb
  exact ⟨_, pe_cmpR ho pa pb hm, fun m F S σ H env d S' Q s en h p => two ra rb od s en h p⟩
theorem se_ix {r : R2} {g : D → D → Sto → Option (D × Sto)} (ho : IxR X r) (od : OpD ct X.K r g) (ha : SE ct X a fa) (hb : SE ct X b fb) (hs : PlainIx b) : SE ct X (.Subscript a b pos) (fBin g fa fb) := by
  obtain ⟨ta, pa, ra⟩ := ha
  obtain ⟨tb, pb, rb⟩ := hb
  exact ⟨_, pe_ix ho pa pb hs, fun m F S σ H env d S' Q s en h p => two ra rb od s en h p⟩
def fUn (g : D → Option D) (fa : FE) : FE := fun env S => (fa env S).bind fun p => (g p.1).map fun d => (d, p.2)
def gNeg : D → Option D
  | .int i => some (.int (-i))
  | _ => none
theorem se_neg (ha : SE ct X a fa) : SE ct X (.UnaryOp .USub a pos) (fUn gNeg fa) := by
  obtain ⟨ta, pa, ra⟩ := ha
  refine ⟨_, pe_un un_neg pa, fun m F S σ H env d S' Q s en h p => ?_⟩
  obtain ⟨⟨x, S1⟩, h1, h⟩ := bind_some h
  refine ra m F S σ H env x S1 _ s en h1 fun m1 F1 v1 H1 x1 s1 r1 => ?_
  cases x with
  | int i =>
    cases h
    have r1 : v1 = .int i := r1
    exact ⟨i, r1, (p.ext x1).now s1 rfl⟩
  | _ => cases h
/-! ## arguments -/
def fNil : FA := fun _ S => some ([], S)
def fCons (f : FE) (fs : FA) : FA := fun env S => (f env S).bind fun p => (fs env p.2).bind fun q => some (p.1 :: q.1, q.2)
theorem sa_nil : SA ct X [] fNil := ⟨_, pa_nil, fun m F S σ H env d S' Q s en h p => by
  cases h
  exact p m F [] H (Ext.refl _ _ _) s rfl⟩
theorem sa_cons (ha : SE ct X e f) (hr : SA ct X es fas) (hs : starEach (e :: es) X.env = (false, eval e X.env) :: starEach es X.env := by rfl) : SA ct X (e :: es) (fCons f fas) := by
  obtain ⟨ta, pa, ra⟩ := ha
  obtain ⟨tb, pb, rb⟩ := hr
  refine ⟨_, pa_cons pa pb hs, fun m F S σ H env d S' Q s en h p => ?_⟩
  obtain ⟨⟨x, S1⟩, h1, h⟩ := bind_some h
  obtain ⟨⟨ys, S2⟩, h2, h⟩ := bind_some h
  cases h
  refine ra m F S σ H env x S1 _ s en h1 fun m1 F1 v1 H1 x1 s1 r1 => ?_
  refine rb m1 F1 S1 σ H1 env ys S2 _ s1 (en.mono x1) h2 fun m2 F2 v2 H2 x2 s2 r2 => ?_
  exact p m2 F2 (v1 :: v2) H2 (x1.trans x2) s2 ⟨v1, v2, rfl, r1.mono x2, r2⟩
/-! ## displays -/
def fTup (fs : FA) : FE := fun env S => (fs env S).bind fun p => if p.1.length ≤ 1000 then some (.tup p.1, p.2) else none
def fLst (fs : FA) : FE := fun env S => (fs env S).bind fun p => if p.1.length ≤ 1000 then some (.lst p.1, p.2) else none
/-- a list that will be changed -/
def fLstM (fs : FA) : FE := fun env S => (fs env S).bind fun p => if p.1.length ≤ 1000 then some (.ref p.2.length, p.2 ++ [.lst p.1]) else none
theorem line_of {n : Nat} (h : n ≤ 1000) : n ≤ sizeLine := Nat.le_trans h (by decide)
theorem se_tup {k : Nat} (ha : SA ct X es fas) : SE ct X (.Tuple es k pos) (fTup fas) := by
  obtain ⟨ta, pa, ra⟩ := ha
  refine ⟨_, pe_tup pa, fun m F S σ H env d S' Q s en h p => ?_⟩
  obtain ⟨⟨xs, S1⟩, h1, h⟩ := bind_some h
  by_cases hl : xs.length ≤ 1000
  · rw [if_pos hl] at h
    cases h
    refine ra m F S σ H env xs S1 _ s en h1 fun m1 F1 vs H1 x1 s1 r1 => ⟨line_of (r1.length ▸ hl), fun q hq => ?_⟩
    obtain ⟨s2, x2⟩ := s1.frozen hq (.tup vs)
    exact p m1 _ (.ref q) _ (x1.trans x2) s2 ⟨q, vs, rfl, SqT.of upd_same, r1.mono x2⟩
  · rw [if_neg hl] at h
    cases h
theorem se_lst (ha : SA ct X es fas) : SE ct X (.List es pos) (fLst fas) := by
  obtain ⟨ta, pa, ra⟩ := ha
  refine ⟨_, pe_lst pa, fun m F S σ H env d S' Q s en h p => ?_⟩
  obtain ⟨⟨xs, S1⟩, h1, h⟩ := bind_some h
  by_cases hl : xs.length ≤ 1000
  · rw [if_pos hl] at h
    cases h
    refine ra m F S σ H env xs S1 _ s en h1 fun m1 F1 vs H1 x1 s1 r1 => ⟨line_of (r1.length ▸ hl), fun q hq => ?_⟩
    obtain ⟨s2, x2⟩ := s1.frozen hq (.lst vs)
    exact p m1 _ (.ref q) _ (x1.trans x2) s2 ⟨q, vs, rfl, upd_same, r1.mono x2⟩
  · rw [if_neg hl] at h
    cases h
theorem se_lstM (ha : SA ct X es fas) : SE ct X (.List es pos) (fLstM fas) := by
  obtain ⟨ta, pa, ra⟩ := ha
  refine ⟨_, pe_lst pa, fun m F S σ H env d S' Q s en h p => ?_⟩
  obtain ⟨⟨xs, S1⟩, h1, h⟩ := bind_some h
  by_cases hl : xs.length ≤ 1000
  · rw [if_pos hl] at h
    cases h
    refine ra m F S σ H env xs S1 _ s en h1 fun m1 F1 vs H1 x1 s1 r1 => ⟨line_of (r1.length ▸ hl), fun q hq => ?_⟩
    obtain ⟨s2, x2⟩ := s1.fresh hq (o := .lst vs) (c := .lst xs) ⟨vs, rfl, r1⟩
    exact p _ _ (.ref q) _ (x1.trans x2) s2 ⟨q, by rw [← s1.len]; simp, rfl⟩
  · rw [if_neg hl] at h
    cases h
/-! ## calls of built-ins -/
def fCall (g : FD) (fas : FA) : FE := fun env S => (fas env S).bind fun p => g p.1 p.2
theorem se_callB {id : String} {x : Str} {p : Pos} {r : List V → Hp → VK → Prop} {g : FD} (hc : CallR X (.builtin id) r) (cd : CallD ct X.K r g) (hg : Gl X x) (hm : X.mg x = none) (hv : bootBuiltins x = some (.builtin id)) (ha : SA ct X (e :: es) fas)
    (hn : x ≠ "__name__" := by decide) (hdb : (x == ("__debug__" : Str)) = false := by decide) (he : starEach (e :: es) X.env = (false, eval e X.env) :: starEach es X.env := by rfl) (hpl : (backTo pos (starEach es X.env)).any (·.1) = false := by rfl) :
    SE ct X (.Call (.Name x p) (e :: es) [] pos) (fCall g fas) := by
  obtain ⟨ta, pa, ra⟩ := ha
  refine ⟨_, pe_callB hc hg hm hv pa hn hdb he hpl, fun m F S σ H env d S' Q s en h p => ?_⟩
  obtain ⟨⟨xs, S1⟩, h1, h⟩ := bind_some h
  exact ra m F S σ H env xs S1 _ s en h1 fun m1 F1 vs H1 x1 s1 r1 => cd m1 F1 S1 H1 vs xs d S' Q s1 r1 h (p.ext x1)
theorem se_callTy {T : String} {x : Str} {p : Pos} {r : List V → Hp → VK → Prop} {g : FD} (hc : CallR X (.type T) r) (cd : CallD ct X.K r g) (hg : Gl X x) (hm : X.mg x = none) (hv : bootBuiltins x = some (.type T)) (ha : SA ct X (e :: es) fas)
    (hn : x ≠ "__name__" := by decide) (hdb : (x == ("__debug__" : Str)) = false := by decide) (he : starEach (e :: es) X.env = (false, eval e X.env) :: starEach es X.env := by rfl) (hpl : (backTo pos (starEach es X.env)).any (·.1) = false := by rfl) :
    SE ct X (.Call (.Name x p) (e :: es) [] pos) (fCall g fas) := by
  obtain ⟨ta, pa, ra⟩ := ha
  refine ⟨_, pe_callTy hc hg hm hv pa hn hdb he hpl, fun m F S σ H env d S' Q s en h p => ?_⟩
  obtain ⟨⟨xs, S1⟩, h1, h⟩ := bind_some h
  exact ra m F S σ H env xs S1 _ s en h1 fun m1 F1 vs H1 x1 s1 r1 => cd m1 F1 S1 H1 vs xs d S' Q s1 r1 h (p.ext x1)
/-! ## and, or, not, if as values -/
def fAnd (fa fb : FE) : FE := fun env S => (fa env S).bind fun p => match p.1 with
  | .bl true => fb env p.2
  | .bl false => some (.bl false, p.2)
  | _ => none
def fOr (fa fb : FE) : FE := fun env S => (fa env S).bind fun p => match p.1 with
  | .bl true => some (.bl true, p.2)
  | .bl false => fb env p.2
  | _ => none
def fNot (fa : FE) : FE := fun env S => (fa env S).bind fun p => match p.1 with
  | .bl b => some (.bl (!b), p.2)
  | _ => none
theorem se_one {op : BoolOp} (h : SE ct X a f) : SE ct X (.BoolOp op [a] pos) f := by
  obtain ⟨ta, pa, ra⟩ := h
  exact ⟨ta, pe_one pa, ra⟩
theorem se_and {rest : List Expr} (ha : SE ct X a fa) (hb : SE ct X (.BoolOp .And (b :: rest) pos) fb) : SE ct X (.BoolOp .And (a :: b :: rest) pos) (fAnd fa fb) := by
  obtain ⟨ta, pa, ra⟩ := ha
  obtain ⟨tb, pb, rb⟩ := hb
  refine ⟨_, pe_and pa pb, fun m F S σ H env d S' Q s en h p => ?_⟩
  obtain ⟨⟨x, S1⟩, h1, h⟩ := bind_some h
  refine ra m F S σ H env x S1 _ s en h1 fun m1 F1 v1 H1 x1 s1 r1 => ?_
  cases x with
  | bl k =>
    have r1 : v1 = .bl k := r1
    refine ⟨k, r1, ?_⟩
    cases k with
    | true => exact iteT (rb m1 F1 S1 σ H1 env d S' _ s1 (en.mono x1) h (p.ext x1))
    | false => cases h; exact iteF ((p.ext x1).now s1 rfl)
  | _ => cases h
theorem se_or {rest : List Expr} (ha : SE ct X a fa) (hb : SE ct X (.BoolOp .Or (b :: rest) pos) fb) : SE ct X (.BoolOp .Or (a :: b :: rest) pos) (fOr fa fb) := by
  obtain ⟨ta, pa, ra⟩ := ha
  obtain ⟨tb, pb, rb⟩ := hb
  refine ⟨_, pe_or pa pb, fun m F S σ H env d S' Q s en h p => ?_⟩
  obtain ⟨⟨x, S1⟩, h1, h⟩ := bind_some h
  refine ra m F S σ H env x S1 _ s en h1 fun m1 F1 v1 H1 x1 s1 r1 => ?_
  cases x with
  | bl k =>
    have r1 : v1 = .bl k := r1
    refine ⟨k, r1, ?_⟩
    cases k with
    | false => exact iteF (rb m1 F1 S1 σ H1 env d S' _ s1 (en.mono x1) h (p.ext x1))
    | true => cases h; exact iteT ((p.ext x1).now s1 rfl)
  | _ => cases h
theorem se_not (ha : SE ct X a fa) : SE ct X (.UnaryOp .Not a pos) (fNot fa) := by
  obtain ⟨ta, pa, ra⟩ := ha
  refine ⟨_, pe_not pa, fun m F S σ H env d S' Q s en h p => ?_⟩
  obtain ⟨⟨x, S1⟩, h1, h⟩ := bind_some h
  refine ra m F S σ H env x S1 _ s en h1 fun m1 F1 v1 H1 x1 s1 r1 => ?_
  cases x with
  | bl k =>
    have r1 : v1 = .bl k := r1
    cases h
    exact ⟨k, r1, (p.ext x1).now s1 rfl⟩
  | _ => cases h
/-! ## tests -/
def fTest (f : FE) : FT := fun env S => (f env S).bind fun p => match p.1 with
  | .bl b => some (b, p.2)
  | _ => none
def tAndD (ta tb : FT) : FT := fun env S => (ta env S).bind fun p => if p.1 = true then tb env p.2 else some (false, p.2)
def tOrD (ta tb : FT) : FT := fun env S => (ta env S).bind fun p => if p.1 = true then some (true, p.2) else tb env p.2
def tNotD (ta : FT) : FT := fun env S => (ta env S).bind fun p => some (!p.1, p.2)
def fIf (t : FT) (fa fb : FE) : FE := fun env S => (t env S).bind fun p => if p.1 = true then fa env p.2 else fb env p.2
variable {ga gb : FT}
theorem st_val (h : SE ct X e f) (he : ∀ whole, isTrue e X.env whole = (do let v ← whole; standAt e.pos; holding [v] (truthy v)) := by intro _; rfl) : ST ct X e (fTest f) := by
  obtain ⟨ta, pa, ra⟩ := h
  refine ⟨_, pt_val pa he, fun m F S σ H env d S' Q s en h p => ?_⟩
  obtain ⟨⟨x, S1⟩, h1, h⟩ := bind_some h
  refine ra m F S σ H env x S1 _ s en h1 fun m1 F1 v1 H1 x1 s1 r1 => ?_
  cases x with
  | bl k =>
    have r1 : v1 = .bl k := r1
    cases h
    exact ⟨_, r1, p m1 F1 H1 x1 s1⟩
  | _ => cases h
theorem st_cmp {op : CmpOp} {r : R2} {g : D → D → Sto → Option (D × Sto)} (ho : OpR X (compareOp op) r) (od : OpD ct X.K r g) (ha : SE ct X a fa) (hb : SE ct X b fb) (hm : behindInMarks op b = false) : ST ct X (.Compare a [op] [b] pos) (fTest (fBin g fa fb)) := by
  obtain ⟨ta, pa, ra⟩ := ha
  obtain ⟨tb, pb, rb⟩ := hb
  refine ⟨_, pt_cmpR ho pa pb hm, fun m F S σ H env d S' Q s en h p => ?_⟩
  obtain ⟨⟨x, S1⟩, h1, h⟩ := bind_some h
  refine two ra rb od s en h1 fun m1 F1 v1 H1 x1 s1 r1 => ?_
  cases x with
  | bl k =>
    have r1 : v1 = .bl k := r1
    cases h
    exact ⟨_, r1, p m1 F1 H1 x1 s1⟩
  | _ => cases h
theorem st_not (h : ST ct X a ga) : ST ct X (.UnaryOp .Not a pos) (tNotD ga) := by
  obtain ⟨ta, pa, ra⟩ := h
  refine ⟨_, pt_not pa, fun m F S σ H env d S' Q s en h p => ?_⟩
  obtain ⟨⟨x, S1⟩, h1, h⟩ := bind_some h
  cases h
  exact ra m F S σ H env x S1 _ s en h1 fun m1 F1 H1 x1 s1 => p m1 F1 H1 x1 s1
theorem SW.st (h : SW ct X e ga) : ST ct X e ga := by
  obtain ⟨t, p, r⟩ := h
  exact ⟨t, p.pt, r⟩
theorem sw_and1 (h : ST ct X a ga) : SW ct X (.BoolOp .And [a] pos) ga := by
  obtain ⟨t, p, r⟩ := h
  exact ⟨t, pw_and1 p, r⟩
theorem sw_or1 (h : ST ct X a ga) : SW ct X (.BoolOp .Or [a] pos) ga := by
  obtain ⟨t, p, r⟩ := h
  exact ⟨t, pw_or1 p, r⟩
theorem sw_and {rest : List Expr} (ha : ST ct X a ga) (hb : SW ct X (.BoolOp .And (b :: rest) pos) gb) : SW ct X (.BoolOp .And (a :: b :: rest) pos) (tAndD ga gb) := by
  obtain ⟨ta, pa, ra⟩ := ha
  obtain ⟨tb, pb, rb⟩ := hb
  refine ⟨_, pw_and pa pb, fun m F S σ H env d S' Q s en h p => ?_⟩
  obtain ⟨⟨x, S1⟩, h1, h⟩ := bind_some h
  refine ra m F S σ H env x S1 _ s en h1 fun m1 F1 H1 x1 s1 => ?_
  cases x with
  | true => exact iteT (rb m1 F1 S1 σ H1 env d S' _ s1 (en.mono x1) h (p.ext x1))
  | false => cases h; exact iteF (p m1 F1 H1 x1 s1)
theorem sw_or {rest : List Expr} (ha : ST ct X a ga) (hb : SW ct X (.BoolOp .Or (b :: rest) pos) gb) : SW ct X (.BoolOp .Or (a :: b :: rest) pos) (tOrD ga gb) := by
  obtain ⟨ta, pa, ra⟩ := ha
  obtain ⟨tb, pb, rb⟩ := hb
  refine ⟨_, pw_or pa pb, fun m F S σ H env d S' Q s en h p => ?_⟩
  obtain ⟨⟨x, S1⟩, h1, h⟩ := bind_some h
  refine ra m F S σ H env x S1 _ s en h1 fun m1 F1 H1 x1 s1 => ?_
  cases x with
  | false => exact iteF (rb m1 F1 S1 σ H1 env d S' _ s1 (en.mono x1) h (p.ext x1))
  | true => cases h; exact iteT (p m1 F1 H1 x1 s1)
theorem se_if (hc : ST ct X c ga) (ha : SE ct X a fa) (hb : SE ct X b fb) : SE ct X (.IfExp c a b pos) (fIf ga fa fb) := by
  obtain ⟨tc, pc, rc⟩ := hc
  obtain ⟨ta, pa, ra⟩ := ha
  obtain ⟨tb, pb, rb⟩ := hb
  refine ⟨_, pe_ifExp pc pa pb, fun m F S σ H env d S' Q s en h p => ?_⟩
  obtain ⟨⟨x, S1⟩, h1, h⟩ := bind_some h
  refine rc m F S σ H env x S1 _ s en h1 fun m1 F1 H1 x1 s1 => ?_
  cases x with
  | true => exact iteT (ra m1 F1 S1 σ H1 env d S' _ s1 (en.mono x1) h (p.ext x1))
  | false => exact iteF (rb m1 F1 S1 σ H1 env d S' _ s1 (en.mono x1) h (p.ext x1))
/-! ## chains -/
def fChain (g g' : D → D → Sto → Option (D × Sto)) (fa fb fc : FE) : FE := fun env S => (fa env S).bind fun p => (fb env p.2).bind fun q => (g p.1 q.1 q.2).bind fun z => match z.1 with
  | .bl true => (fc env z.2).bind fun w => g' q.1 w.1 w.2
  | .bl false => some (.bl false, z.2)
  | _ => none
theorem chain {m : List Addr} {F H : Hp} {S S' : Sto} {env : DEnv} {d : D} {σ : St} {Q : VK} {g g' : D → D → Sto → Option (D × Sto)} {r r' : R2} {ta tb tc : TE}
    (ra : ∀ m F S σ H env d S' Q, Sim X.K ct m F S H → EnvR X.K ct m F env σ → fa env S = some (d, S') → PostE ct X.K m F H S' d Q → ta σ H Q)
    (rb : ∀ m F S σ H env d S' Q, Sim X.K ct m F S H → EnvR X.K ct m F env σ → fb env S = some (d, S') → PostE ct X.K m F H S' d Q → tb σ H Q)
    (rc : ∀ m F S σ H env d S' Q, Sim X.K ct m F S H → EnvR X.K ct m F env σ → fc env S = some (d, S') → PostE ct X.K m F H S' d Q → tc σ H Q)
    (o : OpD ct X.K r g) (o' : OpD ct X.K r' g') (s : Sim X.K ct m F S H) (en : EnvR X.K ct m F env σ) (h : fChain g g' fa fb fc env S = some (d, S')) (p : PostE ct X.K m F H S' d Q) : tChain r r' ta tb tc σ H Q := by
  obtain ⟨⟨x, S1⟩, h1, h⟩ := bind_some h
  obtain ⟨⟨y, S2⟩, h2, h⟩ := bind_some h
  obtain ⟨⟨z, S3⟩, h3, h⟩ := bind_some h
  refine ra m F S σ H env x S1 _ s en h1 fun m1 F1 v1 H1 x1 s1 r1 => ?_
  refine rb m1 F1 S1 σ H1 env y S2 _ s1 (en.mono x1) h2 fun m2 F2 v2 H2 x2 s2 r2 => ?_
  refine o m2 F2 S2 H2 v1 v2 x y z S3 _ s2 (r1.mono x2) r2 h3 fun m3 F3 v3 H3 x3 s3 r3 => ?_
  cases z with
  | bl k =>
    have r3 : v3 = .bl k := r3
    refine ⟨k, r3, ?_⟩
    cases k with
    | true =>
      obtain ⟨⟨w, S4⟩, h4, h⟩ := bind_some h
      refine iteT (rc m3 F3 S3 σ H3 env w S4 _ s3 (((en.mono x1).mono x2).mono x3) h4 fun m4 F4 v4 H4 x4 s4 r4 => ?_)
      exact o' m4 F4 S4 H4 v2 v4 y w d S' Q s4 ((r2.mono x3).mono x4) r4 h ((((p.ext x1).ext x2).ext x3).ext x4)
    | false => cases h; exact iteF ((((p.ext x1).ext x2).ext x3).now s3 rfl)
  | _ => cases h
theorem se_chain {op op' : CmpOp} {r r' : R2} {g g' : D → D → Sto → Option (D × Sto)} (ho : OpR X (compareOp op) r) (od : OpD ct X.K r g) (ho' : OpR X (compareOp op') r') (od' : OpD ct X.K r' g') (ha : SE ct X a fa) (hb : SE ct X b fb) (hc : SE ct X c fc)
    (hm : lastMarks [op, op'] [b, c] = false := by with_unfolding_all rfl) : SE ct X (.Compare a [op, op'] [b, c] pos) (fChain g g' fa fb fc) := by
  obtain ⟨ta, pa, ra⟩ := ha
  obtain ⟨tb, pb, rb⟩ := hb
  obtain ⟨tc, pc, rc⟩ := hc
  exact ⟨_, pe_chain ho ho' pa pb pc hm, fun m F S σ H env d S' Q s en h p => chain ra rb rc od od' s en h p⟩
theorem st_chain {op op' : CmpOp} {r r' : R2} {g g' : D → D → Sto → Option (D × Sto)} (ho : OpR X (compareOp op) r) (od : OpD ct X.K r g) (ho' : OpR X (compareOp op') r') (od' : OpD ct X.K r' g') (ha : SE ct X a fa) (hb : SE ct X b fb) (hc : SE ct X c fc)
    (hm : lastMarks [op, op'] [b, c] = false := by with_unfolding_all rfl) : ST ct X (.Compare a [op, op'] [b, c] pos) (fTest (fChain g g' fa fb fc)) := by
  obtain ⟨ta, pa, ra⟩ := ha
  obtain ⟨tb, pb, rb⟩ := hb
  obtain ⟨tc, pc, rc⟩ := hc
  refine ⟨_, pt_chain ho ho' pa pb pc hm, fun m F S σ H env d S' Q s en h p => ?_⟩
  obtain ⟨⟨x, S1⟩, h1, h⟩ := bind_some h
  refine chain ra rb rc od od' s en h1 fun m1 F1 v1 H1 x1 s1 r1 => ?_
  cases x with
  | bl k =>
    have r1 : v1 = .bl k := r1
    cases h
    exact ⟨_, r1, p m1 F1 H1 x1 s1⟩
  | _ => cases h
end
end DL

namespace DL
open PySem PySem.Spec PyProof.Rows L2
section
variable {ct : CT} {X : Cx} {a b c e : Expr} {es : List Expr} {fa fb fc f : FE} {fas : FA} {ga gb : FT} {pos : Pos} {st : Stmt} {rest : List Stmt} {f1 f2 : FS}
/-! ## statements -/
def sSkip : FS := fun env S => some (.nx env, S)
def sSeq (f1 f2 : FS) : FS := fun env S => (f1 env S).bind fun p => match p.1 with
  | .nx env' => f2 env' p.2
  | fl => some (fl, p.2)
theorem sss_nil : SSs ct X [] sSkip := ⟨_, pss_nil, fun m F S σ H env fl S' E s en h p => by
  cases h
  exact p m F σ H (Ext.refl _ _ _) s en⟩
theorem sss_cons (h1 : SS ct X st f1) (h2 : SSs ct X rest f2) : SSs ct X (st :: rest) (sSeq f1 f2) := by
  obtain ⟨ta, pa, ra⟩ := h1
  obtain ⟨tb, pb, rb⟩ := h2
  refine ⟨_, pss_cons pa pb, fun m F S σ H env fl S' E s en h p => ?_⟩
  obtain ⟨⟨x, S1⟩, h1, h⟩ := bind_some h
  refine ra m F S σ H env x S1 _ s en h1 ?_
  cases x with
  | nx env1 => exact fun m1 F1 σ1 H1 x1 s1 r1 => rb m1 F1 S1 σ1 H1 env1 fl S' E s1 r1 h (p.ext x1)
  | rt d => cases h; exact p
  | bk env1 => cases h; exact p
  | ct env1 => cases h; exact p
theorem sss_one (h1 : SS ct X st f1) : SSs ct X [st] f1 := by
  obtain ⟨ta, pa, ra⟩ := h1
  exact ⟨_, pss_one pa, ra⟩
theorem ss_pass : SS ct X (.Pass pos) sSkip := ⟨_, ps_pass, fun m F S σ H env fl S' E s en h p => by
  cases h
  exact p m F σ H (Ext.refl _ _ _) s en⟩
def sBreak : FS := fun env S => some (.bk env, S)
def sCont : FS := fun env S => some (.ct env, S)
theorem ss_break : SS ct X (.Break pos) sBreak := ⟨_, ps_break, fun m F S σ H env fl S' E s en h p => by
  cases h
  exact p m F σ H (Ext.refl _ _ _) s en⟩
theorem ss_continue : SS ct X (.Continue pos) sCont := ⟨_, ps_continue, fun m F S σ H env fl S' E s en h p => by
  cases h
  exact p m F σ H (Ext.refl _ _ _) s en⟩
/-- what is never reached -/
def sNever : FS := fun _ _ => none
theorem ss_never : SS ct X st sNever := ⟨_, ps_never, fun m F S σ H env fl S' E s en h p => by cases h⟩
theorem sss_never {sts : List Stmt} : SSs ct X sts sNever := ⟨_, pss_never, fun m F S σ H env fl S' E s en h p => by cases h⟩
def sExpr (f : FE) : FS := fun env S => (f env S).bind fun p => some (.nx env, p.2)
def sRet (f : FE) : FS := fun env S => (f env S).bind fun p => some (.rt p.1, p.2)
def sIf (t : FT) (f1 f2 : FS) : FS := fun env S => (t env S).bind fun p => if p.1 = true then f1 env p.2 else f2 env p.2
theorem ss_expr (he : SE ct X e f) (hs : swapsWith e none pos.line X.env = pure false := by rfl) : SS ct X (.Expr e pos) (sExpr f) := by
  obtain ⟨ta, pa, ra⟩ := he
  refine ⟨_, ps_expr pa hs, fun m F S σ H env fl S' E s en h p => ?_⟩
  obtain ⟨⟨x, S1⟩, h1, h⟩ := bind_some h
  cases h
  exact ra m F S σ H env x S1 _ s en h1 fun m1 F1 v1 H1 x1 s1 r1 => p m1 F1 σ H1 x1 s1 (en.mono x1)
theorem ss_ret (he : SE ct X e f) : SS ct X (.Return (some e) pos) (sRet f) := by
  obtain ⟨ta, pa, ra⟩ := he
  refine ⟨_, ps_ret pa, fun m F S σ H env fl S' E s en h p => ?_⟩
  obtain ⟨⟨x, S1⟩, h1, h⟩ := bind_some h
  cases h
  exact ra m F S σ H env x S1 _ s en h1 fun m1 F1 v1 H1 x1 s1 r1 => p m1 F1 v1 H1 x1 s1 r1
theorem ss_if {as bs : List Stmt} (hc : ST ct X c ga) (ha : SSs ct X as f1) (hb : SSs ct X bs f2) : SS ct X (.If c as bs pos) (sIf ga f1 f2) := by
  obtain ⟨tc, pc, rc⟩ := hc
  obtain ⟨ta, pa, ra⟩ := ha
  obtain ⟨tb, pb, rb⟩ := hb
  refine ⟨_, ps_if pc pa pb, fun m F S σ H env fl S' E s en h p => ?_⟩
  obtain ⟨⟨x, S1⟩, h1, h⟩ := bind_some h
  refine rc m F S σ H env x S1 _ s en h1 fun m1 F1 H1 x1 s1 => ?_
  cases x with
  | true => exact iteT (ra m1 F1 S1 σ H1 env fl S' _ s1 (en.mono x1) h (p.ext x1))
  | false => exact iteF (rb m1 F1 S1 σ H1 env fl S' _ s1 (en.mono x1) h (p.ext x1))
/-! ## targets -/
abbrev FG := D → DEnv → Sto → Option (DEnv × Sto)
def SG (ct : CT) (X : Cx) (tg : Expr) (g : FG) : Prop := ∃ t, PG X tg t ∧ ∀ m F S σ H env d v env' S' Q, Sim X.K ct m F S H → EnvR X.K ct m F env σ → Rep X.K ct m F d v → g d env S = some (env', S') →
  (∀ m' F' σ' H', Ext m F H m' F' H' → Sim X.K ct m' F' S' H' → EnvR X.K ct m' F' env' σ' → Q σ' H') → t v σ H Q
abbrev FGs := List D → DEnv → Sto → Option (DEnv × Sto)
def SGs (ct : CT) (X : Cx) (tgs : List Expr) (g : FGs) : Prop := ∃ t, PGs X tgs t ∧ ∀ m F S σ H env ds vs env' S' Q, Sim X.K ct m F S H → EnvR X.K ct m F env σ → Reps X.K ct m F ds vs → g ds env S = some (env', S') →
  (∀ m' F' σ' H', Ext m F H m' F' H' → Sim X.K ct m' F' S' H' → EnvR X.K ct m' F' env' σ' → Q σ' H') → t vs σ H Q
def gN (i : Nat) : FG := fun d env S => some (env.set i (some d), S)
theorem sg_name {i : Nat} {x : Str} (hN : X.N.Nodup) (hi : X.N[i]? = some x) (hx : Loc X.env.scope x) (hf : X.fn x = true ∨ X.env.scope.names.lookup x = some .local := by first | exact .inl rfl | exact .inr rfl | assumption) : SG ct X (.Name x pos) (gN i) :=
  ⟨_, pg_name hN hi hx hf, fun m F S σ H env d v env' S' Q s en r h q => by
    cases h
    exact q m F _ H (Ext.refl _ _ _) s (en.set i r)⟩
def gNil : FGs := fun ds env S => match ds with
  | [] => some (env, S)
  | _ => none
def gCons (g : FG) (gs : FGs) : FGs := fun ds env S => match ds with
  | d :: r => (g d env S).bind fun p => gs r p.1 p.2
  | _ => none
theorem sgs_nil : SGs ct X [] gNil := ⟨_, pgs_nil, fun m F S σ H env ds vs env' S' Q s en r h q => by
  cases ds with
  | nil =>
    cases h
    exact ⟨r, q m F _ H (Ext.refl _ _ _) s en⟩
  | cons _ _ => cases h⟩
theorem sgs_cons {t : Expr} {ts : List Expr} {g : FG} {gs : FGs} (h1 : SG ct X t g) (h2 : SGs ct X ts gs) (hs : (assignEach (t :: ts) X.env).map (·.2) = assign t X.env :: (assignEach ts X.env).map (·.2) := by rfl) : SGs ct X (t :: ts) (gCons g gs) := by
  obtain ⟨ta, pa, ra⟩ := h1
  obtain ⟨tb, pb, rb⟩ := h2
  refine ⟨_, pgs_cons pa pb hs, fun m F S σ H env ds vs env' S' Q s en r h q => ?_⟩
  cases ds with
  | nil => cases h
  | cons d dr =>
    obtain ⟨⟨env1, S1⟩, h1, h⟩ := bind_some h
    obtain ⟨v, vr, e1, r1, r2⟩ := r
    refine ⟨v, vr, e1, ra m F S σ H env d v env1 S1 _ s en r1 h1 fun m1 F1 σ1 H1 x1 s1 en1 => ?_⟩
    exact rb m1 F1 S1 σ1 H1 env1 dr vr env' S' Q s1 en1 (r2.mono x1) h fun m2 F2 σ2 H2 x2 s2 en2 => q m2 F2 σ2 H2 (x1.trans x2) s2 en2
/-- (a, b, ..) = a tuple -/
def gTup (n : Nat) (gs : FGs) : FG := fun d env S => match d with
  | .tup ds => if ds.length = n then gs ds env S else none
  | _ => none
theorem sg_tup {ts : List Expr} {k n : Nat} {gs : FGs} (hc : X.calm = true) (h : SGs ct X ts gs) (hn : (assignEach ts X.env).length = n := by rfl) (hst : (assignEach ts X.env).findIdx? (·.1) = none := by rfl) : SG ct X (.Tuple ts k pos) (gTup n gs) := by
  obtain ⟨ta, pa, ra⟩ := h
  refine ⟨_, pg_tup hc pa hn hst, fun m F S σ H env d v env' S' Q s en r h q => ?_⟩
  cases d with
  | tup ds =>
    obtain ⟨a, vs, e1, e2, e3⟩ := r
    by_cases hl : ds.length = n
    · have h : (if ds.length = n then gs ds env S else none) = some (env', S') := h
      rw [if_pos hl] at h
      exact ⟨a, vs, e1, sqT_mono s.same e2, by rw [← e3.length]; exact hl, ra m F S σ H env ds vs env' S' Q s en e3 h q⟩
    · have h : (if ds.length = n then gs ds env S else none) = some (env', S') := h
      rw [if_neg hl] at h
      cases h
  | _ => cases h
/-- o[i] = .. by a rule -/
def SetD (ct : CT) (K : PySem.W.Frag) (t : TSet) (g : D → D → D → Sto → Option Sto) : Prop := ∀ m F S H o i v d1 d2 d3 S' Q, Sim K ct m F S H → Rep K ct m F d1 o → Rep K ct m F d2 i → Rep K ct m F d3 v → g d1 d2 d3 S = some S' →
  (∀ m' F' H', Ext m F H m' F' H' → Sim K ct m' F' S' H' → Q H') → t o i v H Q
def gSub (g : D → D → D → Sto → Option Sto) (fa fb : FE) : FG := fun d env S => (fa env S).bind fun p => (fb env p.2).bind fun q => (g p.1 q.1 d q.2).map fun S' => (env, S')
theorem sg_sub {t : TSet} {g : D → D → D → Sto → Option Sto} (ho : SE ct X a fa) (hi : SE ct X b fb) (hs : PSet X t) (sd : SetD ct X.K t g)
    (ha : ∀ v, assign (.Subscript a b pos) X.env v = (do
      let ov ← holding [v] (eval a X.env)
      let iv ← holding [v, ov] (eval b X.env)
      standAt pos
      holding [v, ov, iv] (setItem ov iv v)
      release [v, ov, iv] []) := by intro _; rfl) : SG ct X (.Subscript a b pos) (gSub g fa fb) := by
  obtain ⟨ta, pa, ra⟩ := ho
  obtain ⟨tb, pb, rb⟩ := hi
  refine ⟨_, pg_sub pa pb hs ha, fun m F S σ H env d v env' S' Q s en r h q => ?_⟩
  obtain ⟨⟨x, S1⟩, h1, h⟩ := bind_some h
  obtain ⟨⟨y, S2⟩, h2, h⟩ := bind_some h
  cases h3 : g x y d S2 with
  | none => simp only [h3] at h; cases h
  | some S3 =>
    simp only [h3] at h
    cases h
    refine ra m F S σ H env x S1 _ s en h1 fun m1 F1 v1 H1 x1 s1 r1 => ?_
    refine rb m1 F1 S1 σ H1 env y S2 _ s1 (en.mono x1) h2 fun m2 F2 v2 H2 x2 s2 r2 => ?_
    exact sd m2 F2 S2 H2 v1 v2 v x y d _ _ s2 (r1.mono x2) r2 ((r.mono x1).mono x2) h3 fun m3 F3 H3 x3 s3 => q m3 F3 σ H3 ((x1.trans x2).trans x3) s3 (((en.mono x1).mono x2).mono x3)
/-! ## assignments -/
def sAsg (f : FE) (g : FG) : FS := fun env S => (f env S).bind fun p => (g p.1 env p.2).map fun q => (.nx q.1, q.2)
theorem ss_asg {tg : Expr} {g : FG} (he : SE ct X e f) (hg : SG ct X tg g) (hs : swapsWithSole [tg] e pos.line X.env = pure false := by rfl) (hw : swappedStores [tg] e X.env = pure none := by rfl)
    (h1 : (assignEach [tg] X.env).map (·.2) = [assign tg X.env] := by rfl) : SS ct X (.Assign [tg] e pos) (sAsg f g) := by
  obtain ⟨ta, pa, ra⟩ := he
  obtain ⟨tb, pb, rb⟩ := hg
  refine ⟨_, ps_asg pa pb hs hw h1, fun m F S σ H env fl S' E s en h p => ?_⟩
  obtain ⟨⟨x, S1⟩, h1, h⟩ := bind_some h
  cases h3 : g x env S1 with
  | none => simp only [h3] at h; cases h
  | some q3 =>
    obtain ⟨env3, S3⟩ := q3
    simp only [h3] at h
    cases h
    refine ra m F S σ H env x S1 _ s en h1 fun m1 F1 v1 H1 x1 s1 r1 => ?_
    exact rb m1 F1 S1 σ H1 env x v1 env3 _ _ s1 (en.mono x1) r1 h3 fun m2 F2 σ2 H2 x2 s2 en2 => p m2 F2 σ2 H2 (x1.trans x2) s2 en2
theorem ss_set {i : Nat} {x : Str} {pos' : Pos} (hN : X.N.Nodup) (hi : X.N[i]? = some x) (hx : Loc X.env.scope x) (he : SE ct X e f) (hs : swapsWith e (some (.Name x pos')) pos.line X.env = pure false := by rfl) (hf : X.fn x = true ∨ X.env.scope.names.lookup x = some .local := by first | exact .inl rfl | exact .inr rfl | assumption) :
    SS ct X (.Assign [.Name x pos'] e pos) (sAsg f (gN i)) := by
  obtain ⟨ta, pa, ra⟩ := he
  refine ⟨_, ps_set hN hi hx pa hs hf, fun m F S σ H env fl S' E s en h p => ?_⟩
  obtain ⟨⟨x, S1⟩, h1, h⟩ := bind_some h
  cases h
  exact ra m F S σ H env x S1 _ s en h1 fun m1 F1 v1 H1 x1 s1 r1 => p m1 F1 _ H1 x1 s1 ((en.mono x1).set i r1)
/-- a, b = x, y -/
def sPar (i j : Nat) (fas : FA) : FS := fun env S => (fas env S).bind fun p => match p.1 with
  | [v, w] => some (.nx ((env.set i (some v)).set j (some w)), p.2)
  | _ => none
theorem ss_par {i j : Nat} (hp : ∀ ta, PA X [a, b] ta → PS X st (tPar i j ta)) (ha : SA ct X [a, b] fas) : SS ct X st (sPar i j fas) := by
  obtain ⟨ta, pa, ra⟩ := ha
  refine ⟨_, hp ta pa, fun m F S σ H env fl S' E s en h p => ?_⟩
  obtain ⟨⟨xs, S1⟩, h1, h⟩ := bind_some h
  match xs, h with
  | [v, w], h =>
    cases h
    refine ra m F S σ H env _ S1 _ s en h1 fun m1 F1 vs H1 x1 s1 r1 => ?_
    obtain ⟨v1, r1', e1, q1, v2, r2', e2, q2, e3⟩ := r1
    have e3 : r2' = [] := e3
    subst e3 e2 e1
    exact ⟨v1, v2, rfl, p m1 F1 _ H1 x1 s1 (((en.mono x1).set i q1).set j q2)⟩
  | [], h => cases h
  | [_], h => cases h
  | _ :: _ :: _ :: _, h => cases h
/-! ## what is walked -/
structure Ext0 (m : List Addr) (F : Hp) (m' : List Addr) (F' : Hp) : Prop where
  pre : ∀ (i : Nat) (a : Addr), m[i]? = some a → m'[i]? = some a
  same : Same F F'
theorem Ext.e0 {m m' : List Addr} {F H F' H' : Hp} (x : Ext m F H m' F' H') : Ext0 m F m' F' := ⟨x.pre, x.same⟩
theorem Ext0.trans {m m1 m2 : List Addr} {F F1 F2 : Hp} (a : Ext0 m F m1 F1) (b : Ext0 m1 F1 m2 F2) : Ext0 m F m2 F2 := ⟨fun i x h => b.pre i x (a.pre i x h), a.same.trans b.same⟩
theorem Rep.mono0 {K : PySem.W.Frag} {ct : CT} {m m' : List Addr} {F F' : Hp} {d : D} {v : V} (h : Rep K ct m F d v) (x : Ext0 m F m' F') : Rep K ct m' F' d v := Rep.mono' x.pre x.same d v h
theorem Reps.mono0 {K : PySem.W.Frag} {ct : CT} {m m' : List Addr} {F F' : Hp} {d : List D} {v : List V} (h : Reps K ct m F d v) (x : Ext0 m F m' F') : Reps K ct m' F' d v := Reps.mono' x.pre x.same d v h
def ItOk (ct : CT) (K : PySem.W.Frag) (m0 : List Addr) (F0 : Hp) (items : List D) (J : It) : Prop := ∀ (i : Nat) (m : List Addr) (F : Hp) (S : Sto) (H : Hp), Ext0 m0 F0 m F → Sim K ct m F S H →
  (∀ d, items[i]? = some d → J.go i H ∧ ∀ x H', J.yld i H x H' → ∃ F', Ext m F H m F' H' ∧ Sim K ct m F' S H' ∧ Rep K ct m F' d x) ∧ (items.length = i → J.stop i H)
def SI (ct : CT) (X : Cx) (tg iter : Expr) (fi : FA) : Prop := ∃ wi, PI X tg iter wi ∧ ∀ m F S σ H env items S' R, Sim X.K ct m F S H → EnvR X.K ct m F env σ → fi env S = some (items, S') →
  (∀ m' F' J H', Ext m F H m' F' H' → Sim X.K ct m' F' S' H' → ItOk ct X.K m' F' items J → R J H') → wi σ H R
def forD (g : FG) (body : FS) : List D → FS
  | [], env, S => some (.nx env, S)
  | x :: xs, env, S => (g x env S).bind fun p => (body p.1 p.2).bind fun q => match q.1 with
    | .nx env' => forD g body xs env' q.2
    | .ct env' => forD g body xs env' q.2
    | .bk env' => some (.nx env', q.2)
    | .rt d => some (.rt d, q.2)
def sFor (fi : FA) (g : FG) (body : FS) : FS := fun env S => (fi env S).bind fun p => forD g body p.1 env p.2
theorem drop_cons {α : Type} : ∀ {l : List α} {i : Nat} {x : α} {r : List α}, l.drop i = x :: r → l[i]? = some x ∧ l.drop (i + 1) = r
  | [], i, x, r, h => by simp at h
  | y :: l, 0, x, r, h => by
    simp at h
    simp [h]
  | y :: l, i + 1, x, r, h => by
    have := drop_cons (l := l) (i := i) (by simpa using h)
    simpa using this
theorem ss_for {tg iter : Expr} {body : List Stmt} {fi : FA} {g : FG} {fb : FS} (hp : PassesOwn (model X.prog X.w) X.A X.env X.xe) (hc : X.calm = true) (hi : SI ct X tg iter fi) (hg : SG ct X tg g) (hb : SSs ct X body fb)
    (hs : ∀ x, foldedSetIterable iter X.env x = pure x := by intro _; rfl) : SS ct X (.For tg iter body [] pos) (sFor fi g fb) := by
  obtain ⟨wi, pi, ri⟩ := hi
  obtain ⟨tg', pg, rg⟩ := hg
  obtain ⟨tb, pb, rb⟩ := hb
  refine ⟨_, ps_for hp hc pi pg pb hs, fun m F S σ H env fl S' E s en h p => ?_⟩
  obtain ⟨⟨items, S1⟩, h1, h⟩ := bind_some h
  refine ri m F S σ H env items S1 _ s en h1 fun m1 F1 J H1 x1 s1 ok => ?_
  refine ⟨fun i k σ' H' => k = items.length - i ∧ i ≤ items.length ∧ ∃ m' F' env' S2, Ext m1 F1 H1 m' F' H' ∧ Sim X.K ct m' F' S2 H' ∧ EnvR X.K ct m' F' env' σ' ∧ forD g fb (items.drop i) env' S2 = some (fl, S'),
    ⟨_, rfl, Nat.zero_le _, m1, F1, env, S1, Ext.refl _ _ _, s1, en.mono x1, h⟩, ?_⟩
  rintro i k σ' H' ⟨rfl, hle, m', F', env', S2, x', s', en', hf⟩
  have okk := ok i m' F' S2 H' x'.e0 s'
  cases hd : items.drop i with
  | nil =>
    rw [hd] at hf
    cases hf
    have hl : items.length = i := by
      have := congrArg List.length hd
      simp at this
      omega
    exact .inl ⟨okk.2 hl, p m' F' σ' H' (x1.trans x') s' en'⟩
  | cons d r =>
    rw [hd] at hf
    obtain ⟨q1, q2⟩ := drop_cons hd
    have hlt : i < items.length := (List.getElem?_eq_some_iff.mp q1).1
    obtain ⟨⟨env1, S3⟩, h3, hf⟩ := bind_some hf
    obtain ⟨⟨fl4, S4⟩, h4, hf⟩ := bind_some hf
    obtain ⟨go, yl⟩ := okk.1 d q1
    refine .inr ⟨go, fun σ5 H5 => ∃ m5 F5 env5 S5, Ext m1 F1 H1 m5 F5 H5 ∧ Sim X.K ct m5 F5 S5 H5 ∧ EnvR X.K ct m5 F5 env5 σ5 ∧ forD g fb (items.drop (i + 1)) env5 S5 = some (fl, S'), fun σ5 H5 w => ⟨items.length - (i + 1), by omega, rfl, hlt, w⟩, fun x H5 y => ?_⟩
    obtain ⟨F5, x5, s5, r5⟩ := yl x H5 y
    refine rg m' F5 S2 σ' H5 env' d x env1 S3 _ s5 (en'.mono x5) r5 h3 fun m6 F6 σ6 H6 x6 s6 en6 => ?_
    refine rb m6 F6 S3 σ6 H6 env1 fl4 S4 _ s6 en6 h4 ?_
    have xx : Ext m1 F1 H1 m6 F6 H6 := (x'.trans x5).trans x6
    cases fl4 with
    | nx env7 => exact fun m7 F7 σ7 H7 x7 s7 en7 => ⟨m7, F7, env7, S4, xx.trans x7, s7, en7, by rw [q2]; exact hf⟩
    | ct env7 => exact fun m7 F7 σ7 H7 x7 s7 en7 => ⟨m7, F7, env7, S4, xx.trans x7, s7, en7, by rw [q2]; exact hf⟩
    | bk env7 => cases hf; exact fun m7 F7 σ7 H7 x7 s7 en7 => p m7 F7 σ7 H7 (x1.trans (xx.trans x7)) s7 en7
    | rt d7 => cases hf; exact fun m7 F7 v7 H7 x7 s7 r7 => p m7 F7 v7 H7 (x1.trans (xx.trans x7)) s7 r7
/-! ## while -/
def whileD (t : FT) (body : FS) : Nat → FS
  | 0, _, _ => none
  | n + 1, env, S => (t env S).bind fun p => if p.1 = true then (body env p.2).bind fun q => match q.1 with
      | .nx env' => whileD t body n env' q.2
      | .ct env' => whileD t body n env' q.2
      | .bk env' => some (.nx env', q.2)
      | .rt d => some (.rt d, q.2)
    else some (.nx env, p.2)
theorem ss_while {body : List Stmt} {fb : FS} (n : Nat) (hp : PassesOwn (model X.prog X.w) X.A X.env X.xe) (hc : ST ct X c ga) (hb : SSs ct X body fb) : SS ct X (.While c body [] pos) (whileD ga fb n) := by
  obtain ⟨tc, pc, rc⟩ := hc
  obtain ⟨tb, pb, rb⟩ := hb
  refine ⟨_, ps_while hp pc pb, fun m F S σ H env fl S' E s en h p => ?_⟩
  refine ⟨fun k σ' H' => ∃ m' F' env' S2, Ext m F H m' F' H' ∧ Sim X.K ct m' F' S2 H' ∧ EnvR X.K ct m' F' env' σ' ∧ whileD ga fb k env' S2 = some (fl, S'), ⟨n, m, F, env, S, Ext.refl _ _ _, s, en, h⟩, ?_⟩
  rintro k σ' H' ⟨m', F', env', S2, x', s', en', hf⟩
  cases k with
  | zero => cases hf
  | succ k =>
    obtain ⟨⟨b1, S3⟩, h3, hf⟩ := bind_some hf
    refine rc m' F' S2 σ' H' env' b1 S3 _ s' en' h3 fun m3 F3 H3 x3 s3 => ?_
    cases b1 with
    | true =>
      obtain ⟨⟨fl4, S4⟩, h4, hf⟩ := bind_some (show (fb env' S3).bind _ = _ from hf)
      refine iteT ⟨fun σ5 H5 => ∃ m5 F5 env5 S5, Ext m F H m5 F5 H5 ∧ Sim X.K ct m5 F5 S5 H5 ∧ EnvR X.K ct m5 F5 env5 σ5 ∧ whileD ga fb k env5 S5 = some (fl, S'), fun σ5 H5 w => ⟨k, Nat.lt_succ_self _, w⟩, ?_⟩
      refine rb m3 F3 S3 σ' H3 env' fl4 S4 _ s3 (en'.mono x3) h4 ?_
      cases fl4 with
      | nx env7 => exact fun m7 F7 σ7 H7 x7 s7 en7 => ⟨m7, F7, env7, S4, (x'.trans x3).trans x7, s7, en7, hf⟩
      | ct env7 => exact fun m7 F7 σ7 H7 x7 s7 en7 => ⟨m7, F7, env7, S4, (x'.trans x3).trans x7, s7, en7, hf⟩
      | bk env7 => cases hf; exact fun m7 F7 σ7 H7 x7 s7 en7 => p m7 F7 σ7 H7 ((x'.trans x3).trans x7) s7 en7
      | rt d7 => cases hf; exact fun m7 F7 v7 H7 x7 s7 r7 => p m7 F7 v7 H7 ((x'.trans x3).trans x7) s7 r7
    | false =>
      cases hf
      exact iteF (p m3 F3 σ' H3 (x'.trans x3) s3 (en'.mono x3))
/-! ## the body of a def, calls of defs -/
def runD (n : Nat) (g : FS) : FD := fun ds S => (g (ds.map some ++ List.replicate (n - ds.length) none) S).bind fun p => match p.1 with
  | .rt d => some (d, p.2)
  | .nx _ => some (.non, p.2)
  | _ => none
def spD (K : PySem.W.Frag) (ct : CT) (n : Nat) (g : FD) : Sp := fun vs H Q _ => vs.length = n ∧ ∃ m F S ds d S', Sim K ct m F S H ∧ Reps K ct m F ds vs ∧ g ds S = some (d, S') ∧ PostE ct K m F H S' d Q
end
section
variable {P : Program} {w : World} {K : PySem.W.Frag} {mg : Str → Option Value} {base : Heap} {ct : CT}
theorem def_ok {x qual : Str} {st : Stmt} {f : Addr} {fd : FuncData} {N ps : List Str} {k : Nat} {g : FS} (F : Fun K x qual st f fd) (S : FnScope N ps (defScope st))
    (hbody : ∀ (cdv : Value) (A : Around) (outer : List Env) (s : Shared) (H : Hp) (E : XK), RoomG k (A.deeper (envOfC qual (defScope st) s.heap.objs.size f cdv)) →
      SSs ct (cxOf CX0 P w K mg base N qual (defScope st) f cdv A outer s H E).nox (defBody st) g) : FnG P w K mg base (k + 1) f fd ps (spD K ct ps.length (runD N.length g)) := by
  refine funG F S (fun vs H Q E h => h.1) (fun cdv A outer s H vs Q E hr h => ?_)
  obtain ⟨hl, m, F', S0, ds, d, S', sim, reps, hg, post⟩ := h
  obtain ⟨t, pt, rt⟩ := hbody cdv A outer s H E hr
  refine ⟨t, pt, ?_⟩
  obtain ⟨⟨fl, S1⟩, h1, h2⟩ := bind_some hg
  refine rt m F' S0 _ H _ fl S1 _ sim ?_ h1 ?_
  · have hl2 := reps.length
    refine ⟨by simp [L2.start, hl2], fun i e he => ?_⟩
    by_cases hi : i < ds.length
    · rw [List.getElem?_append_left (by simpa using hi)] at he
      simp at he
      obtain ⟨v, q1, q2⟩ := reps.get (i := i) (d := e) (by simpa using he)
      refine ⟨v, ?_, q2⟩
      unfold L2.start
      rw [List.getElem?_append_left (by simpa [← hl2] using hi)]
      simp [q1]
    · rw [List.getElem?_append_right (by simpa using hi)] at he
      have := List.mem_of_getElem? he
      simp at this
  · cases fl with
    | rt d1 => cases h2; exact fun m' F1 v H' x1 s1 r1 => post m' F1 v H' x1 s1 r1
    | nx env1 => cases h2; exact fun m' F1 σ1 H' x1 s1 r1 => post m' F1 .non H' x1 s1 rfl
    | bk env1 => cases h2
    | ct env1 => cases h2
end
section
variable {ct : CT} {X : Cx} {e : Expr} {es : List Expr} {fas : FA} {x : Str} {p pos : Pos}
theorem se_call {k n : Nat} {f : Addr} {fd : FuncData} {ps : List Str} {g : FD} (F : FnG X.prog X.w X.K X.mg X.base k f fd ps (spD X.K ct n g)) (hr : RoomG k X.A) (hg : Gl X x) (hm : X.mg x = some (.ref f)) (hk : PySem.W.keepIn X.K (.ref f) = true) (hb : Binds X.K fd ps [])
    (ha : SA ct X (e :: es) fas) (hn : ∀ env S ds S', fas env S = some (ds, S') → ds.length = n) (hdb : (x == ("__debug__" : Str)) = false := by decide) (he : starEach (e :: es) X.env = (false, eval e X.env) :: starEach es X.env := by rfl) (hpl : (backTo pos (starEach es X.env)).any (·.1) = false := by rfl) :
    SE ct X (.Call (.Name x p) (e :: es) [] pos) (fCall g fas) := by
  obtain ⟨ta, pa, ra⟩ := ha
  refine ⟨_, pe_callG (E := fun _ _ _ => False) F hr hg hm hk hb .nil pa hdb he hpl, fun m F S σ H env d S' Q s en h p => ?_⟩
  obtain ⟨⟨xs, S1⟩, h1, h⟩ := bind_some h
  refine ra m F S σ H env xs S1 _ s en h1 fun m1 F1 vs H1 x1 s1 r1 => ?_
  rw [List.append_nil]
  exact ⟨by rw [← r1.length]; exact hn _ _ _ _ h1, m1, F1, S1, xs, d, S', s1, r1, h, p.ext x1⟩
theorem fNil_len {env : DEnv} {S S' : Sto} {ds : List D} (h : fNil env S = some (ds, S')) : ds.length = 0 := by cases h; rfl
theorem fCons_len {f : FE} {fs : FA} {n : Nat} (hn : ∀ env S ds S', fs env S = some (ds, S') → ds.length = n) : ∀ env S ds S', fCons f fs env S = some (ds, S') → ds.length = n + 1 := fun env S ds S' h => by
  obtain ⟨⟨x, S1⟩, h1, h⟩ := bind_some h
  obtain ⟨⟨y, S2⟩, h2, h⟩ := bind_some h
  cases h
  simp [hn _ _ _ _ h2]
end
end DL

namespace DL
open PySem PySem.Spec PyProof.Rows L2
theorem line_eq : sizeLine = 16777216 := sizeLine_eq
/-! ## operators at data -/
section
variable {ct : CT} {K : PySem.W.Frag}
/-- an operator of two ints -/
def gI (C : Int → Int → Bool) (k : Int → Int → D) : D → D → Sto → Option (D × Sto)
  | .int i, .int j, S => if C i j = true then some (k i j, S) else none
  | _, _, _ => none
theorem od_I {C : Int → Int → Bool} {C' : Int → Int → Prop} {k : Int → Int → D} {g : Int → Int → V} (hC : ∀ i j, C i j = true → C' i j) (hk : ∀ m F i j, Rep K ct m F (k i j) (g i j)) : OpD ct K (rI C' g) (gI C k) := by
  intro m F S H x y dx dy d S' Q s rx ry h p
  unfold gI at h
  split at h
  · rename_i i j
    split at h
    · rename_i hc
      cases h
      have rx : x = .int i := rx
      have ry : y = .int j := ry
      exact ⟨i, j, rx, ry, hC _ _ hc, p.now s (hk m F i j)⟩
    · cases h
  · cases h
def gI0 (k : Int → Int → D) : D → D → Sto → Option (D × Sto)
  | .int i, .int j, S => some (k i j, S)
  | _, _, _ => none
theorem od_I0 {k : Int → Int → D} {g : Int → Int → V} (hk : ∀ m F i j, Rep K ct m F (k i j) (g i j)) : OpD ct K (rI0 g) (gI0 k) := by
  intro m F S H x y dx dy d S' Q s rx ry h p
  unfold gI0 at h
  split at h
  · rename_i i j
    cases h
    have rx : x = .int i := rx
    have ry : y = .int j := ry
    exact ⟨i, j, rx, ry, p.now s (hk m F i j)⟩
  · cases h
abbrev gSubI := gI0 fun i j => .int (i - j)
theorem od_sub : OpD ct K (rI0 fun i j => .int (i - j)) gSubI := od_I0 fun _ _ _ _ => rfl
def smallI (i : Int) : Bool := decide (i.natAbs.log2 < 400000)
abbrev gMul := gI (fun i j => smallI i && smallI j) fun i j => .int (i * j)
theorem od_mul : OpD ct K (rI CMulW fun i j => .int (i * j)) gMul := od_I (fun i j h => by
  simp only [smallI, Bool.and_eq_true, decide_eq_true_eq] at h
  show i.natAbs.log2 + j.natAbs.log2 < 1000000
  omega) fun _ _ _ _ => rfl
abbrev gFdiv := gI (fun _ j => decide (0 < j) && decide (j.natAbs.log2 < 9000)) fun i j => .int (i / j)
theorem od_fdiv : OpD ct K (rI CDivW fun i j => .int (i / j)) gFdiv := od_I (fun i j h => by
  simp only [Bool.and_eq_true, decide_eq_true_eq] at h
  exact h) fun _ _ _ _ => rfl
abbrev gMod := gI (fun _ j => decide (0 < j)) fun i j => .int (i % j)
theorem od_mod : OpD ct K (rI (fun _ j => 0 < j) fun i j => .int (i % j)) gMod := od_I (fun i j h => of_decide_eq_true h) fun _ _ _ _ => rfl
abbrev gPow := gI (fun i j => decide (0 ≤ j) && decide (j ≤ 1000000) && decide (i.natAbs < 18446744073709551616)) fun i j => .int (i ^ j.toNat)
theorem od_pow : OpD ct K (rI CPow fun i j => .int (i ^ j.toNat)) gPow := od_I (fun i j h => by
  simp only [Bool.and_eq_true, decide_eq_true_eq] at h
  exact ⟨h.1.1, h.1.2, h.2⟩) fun _ _ _ _ => rfl
abbrev gShl := gI (fun i j => decide (0 ≤ j) && decide (j ≤ 1000000) && decide (i.natAbs < 18446744073709551616)) fun i j => .int (i * 2 ^ j.toNat)
theorem od_shl : OpD ct K (rI CPow fun i j => .int (i * 2 ^ j.toNat)) gShl := od_I (fun i j h => by
  simp only [Bool.and_eq_true, decide_eq_true_eq] at h
  exact ⟨h.1.1, h.1.2, h.2⟩) fun _ _ _ _ => rfl
abbrev gShr := gI (fun _ j => decide (0 ≤ j)) fun i j => .int (i / 2 ^ j.toNat)
theorem od_shr : OpD ct K (rI (fun _ j => 0 ≤ j) fun i j => .int (i / 2 ^ j.toNat)) gShr := od_I (fun i j h => of_decide_eq_true h) fun _ _ _ _ => rfl
abbrev gAndI := gI0 fun i j => .int (Builtin.bitAnd i j)
theorem od_and : OpD ct K (rI0 fun i j => .int (Builtin.bitAnd i j)) gAndI := od_I0 fun _ _ _ _ => rfl
abbrev gOrI := gI0 fun i j => .int (Builtin.bitOr i j)
theorem od_or : OpD ct K (rI0 fun i j => .int (Builtin.bitOr i j)) gOrI := od_I0 fun _ _ _ _ => rfl
abbrev gLt := gI0 fun i j => .bl (decide (i < j))
abbrev gLe := gI0 fun i j => .bl (decide (i ≤ j))
abbrev gGt := gI0 fun i j => .bl (decide (j < i))
abbrev gGe := gI0 fun i j => .bl (decide (j ≤ i))
theorem od_lt : OpD ct K (rI0 fun i j => .bl (decide (i < j))) gLt := od_I0 fun _ _ _ _ => rfl
theorem od_le : OpD ct K (rI0 fun i j => .bl (decide (i ≤ j))) gLe := od_I0 fun _ _ _ _ => rfl
theorem od_gt : OpD ct K (rI0 fun i j => .bl (decide (j < i))) gGt := od_I0 fun _ _ _ _ => rfl
theorem od_ge : OpD ct K (rI0 fun i j => .bl (decide (j ≤ i))) gGe := od_I0 fun _ _ _ _ => rfl
/-! + of ints, texts, lists -/
def gAdd : D → D → Sto → Option (D × Sto)
  | .int i, .int j, S => some (.int (i + j), S)
  | .str x, .str y, S => if x.length + y.length ≤ 16777216 then some (.str (x ++ y), S) else none
  | .lst a, .lst b, S => if a.length + b.length ≤ 16777216 then some (.lst (a ++ b), S) else none
  | _, _, _ => none
def rAddAll : R2 := fun x y H Q => rI0 (fun i j => .int (i + j)) x y H Q ∨ ((∃ i j, x = .str i ∧ y = .str j ∧ i.length + j.length ≤ sizeLine ∧ Q (.str (i ++ j)) H) ∨ rCat x y H Q)
theorem op_addAll {X : Cx} : OpR X (binaryOp .Add) rAddAll := op_add.or (op_add_str.or op_cat)
theorem od_add : OpD ct K rAddAll gAdd := by
  intro m F S H x y dx dy d S' Q s rx ry h p
  unfold gAdd at h
  split at h
  · rename_i i j
    cases h
    exact .inl ⟨i, j, rx, ry, p.now s rfl⟩
  · rename_i u v
    split at h
    · rename_i hl
      cases h
      exact .inr (.inl ⟨u, v, rx, ry, by rw [line_eq]; exact hl, p.now s rfl⟩)
    · cases h
  · rename_i as bs
    split at h
    · rename_i hl
      cases h
      obtain ⟨a, vs, e1, e2, e3⟩ := rx
      obtain ⟨b, us, f1, f2, f3⟩ := ry
      refine .inr (.inr ⟨a, b, vs, us, e1, f1, s.same _ _ e2, s.same _ _ f2, by rw [line_eq, ← e3.length, ← f3.length]; exact hl, fun q hq => ?_⟩)
      obtain ⟨s2, x2⟩ := s.frozen hq (.lst (vs ++ us))
      exact p m _ (.ref q) _ x2 s2 ⟨q, _, rfl, upd_same, (e3.append f3).mono x2⟩
    · cases h
  · cases h
/-! == and != -/
mutual
def toP : D → Option PyData
  | .non => some .none
  | .bl b => some (.bool b)
  | .int i => some (.int i)
  | .str x => some (.str x)
  | .tup ds => (toPs ds).map .tuple
  | .lst ds => (toPs ds).map .list
  | .scr ns => some (.list (ns.map .int))
  | _ => none
def toPs : List D → Option (List PyData)
  | [] => some []
  | d :: ds => (toP d).bind fun p => (toPs ds).map fun ps => p :: ps
end
theorem map_some {α β : Type} {o : Option α} {k : α → β} {r : β} (h : o.map k = some r) : ∃ x, o = some x ∧ k x = r := by
  cases o with
  | none => cases h
  | some x => exact ⟨x, rfl, Option.some.inj h⟩
theorem DpAll_ints {H : Hp} (ns : List Int) : DpAll K H (ns.map V.int) (ns.map PyData.int) := by
  induction ns with
  | nil => exact .nil
  | cons n ns ih => exact .cons (.int n) ih
mutual
theorem Rep.dp {m : List Addr} {F H : Hp} (e : Same F H) : ∀ (d : D) (v : V) (p : PyData), Rep K ct m F d v → toP d = some p → Dp K H v p
  | .non, _, _, h, q => by
    have h : _ = _ := h
    subst h
    cases q
    exact .non
  | .bl b, _, _, h, q => by
    have h : _ = _ := h
    subst h
    cases q
    exact .bl b
  | .int b, _, _, h, q => by
    have h : _ = _ := h
    subst h
    cases q
    exact .int b
  | .str b, _, _, h, q => by
    have h : _ = _ := h
    subst h
    cases q
    exact .str b
  | .tup ds, _, _, h, q => by
    obtain ⟨a, vs, e1, e2, e3⟩ := h
    subst e1
    obtain ⟨ps, q1, q2⟩ := map_some (show (toPs ds).map PyData.tuple = _ from q)
    subst q2
    exact .tup (sqT_mono e e2) (Reps.dp e ds vs ps e3 q1)
  | .lst ds, _, _, h, q => by
    obtain ⟨a, vs, e1, e2, e3⟩ := h
    subst e1
    obtain ⟨ps, q1, q2⟩ := map_some (show (toPs ds).map PyData.list = _ from q)
    subst q2
    exact .lst (SqL.of (e _ _ e2)) (Reps.dp e ds vs ps e3 q1)
  | .scr ns, _, _, h, q => by
    obtain ⟨a, e1, e2⟩ := h
    subst e1
    cases q
    exact .lst (e.seq e2) (DpAll_ints ns)
  | .dct _ _, _, _, _, q => by cases q
  | .ref _, _, _, _, q => by cases q
  | .obj _ _ _, _, _, _, q => by cases q
  | .exc _ _ _, _, _, _, q => by cases q
theorem Reps.dp {m : List Addr} {F H : Hp} (e : Same F H) : ∀ (ds : List D) (vs : List V) (ps : List PyData), Reps K ct m F ds vs → toPs ds = some ps → DpAll K H vs ps
  | [], _, _, h, q => by
    have h : _ = _ := h
    subst h
    cases q
    exact .nil
  | d :: ds, _, _, h, q => by
    obtain ⟨v, r, e1, e2, e3⟩ := h
    subst e1
    obtain ⟨p, q1, q⟩ := bind_some (show (toP d).bind _ = _ from q)
    obtain ⟨ps, q2, q3⟩ := map_some q
    subst q3
    exact .cons (Rep.dp e d v p e2 q1) (Reps.dp e ds r ps e3 q2)
end
def eqDeep (neg : Bool) (dx dy : D) : Option D := (toP dx).bind fun p => (toP dy).bind fun q => if SeqAt.shaped p = true ∧ SeqAt.shaped q = true then some (.bl (if neg then !PyData.eqv p q else PyData.eqv p q)) else none
def gEq : D → D → Sto → Option (D × Sto)
  | .int i, .int j, S => some (.bl (decide (i = j)), S)
  | .str i, .str j, S => some (.bl (decide (i = j)), S)
  | .bl i, .bl j, S => some (.bl (decide (i = j)), S)
  | dx, dy, S => (eqDeep false dx dy).map fun d => (d, S)
def gNe : D → D → Sto → Option (D × Sto)
  | .int i, .int j, S => some (.bl (!decide (i = j)), S)
  | .str i, .str j, S => some (.bl (!decide (i = j)), S)
  | .bl i, .bl j, S => some (.bl (!decide (i = j)), S)
  | dx, dy, S => (eqDeep true dx dy).map fun d => (d, S)
def rEqAll (K : PySem.W.Frag) : R2 := fun x y H Q => rEq x y H Q ∨ rEqD K x y H Q
def rNeAll (K : PySem.W.Frag) : R2 := fun x y H Q => rNe x y H Q ∨ rNeD K x y H Q
theorem op_eqAll {X : Cx} {k : Nat} (hr : RoomG k X.A) : OpR X (compareOp .Eq) (rEqAll X.K) := op_eq.or (op_eqD hr.units)
theorem op_neAll {X : Cx} {k : Nat} (hr : RoomG k X.A) : OpR X (compareOp .NotEq) (rNeAll X.K) := op_ne.or (op_neD hr.units)
theorem dec_eq {α : Type} [DecidableEq α] {f : α → V} (hf : ∀ a b, f a = f b → a = b) (i j : α) : decide (f i = f j) = decide (i = j) := by
  by_cases h : i = j
  · subst h; simp
  · rw [decide_eq_false h, decide_eq_false fun q => h (hf _ _ q)]
theorem od_eq : OpD ct K (rEqAll K) gEq := by
  intro m F S H x y dx dy d S' Q s rx ry h p
  unfold gEq at h
  split at h
  · rename_i i j
    cases h
    have rx : x = .int i := rx
    have ry : y = .int j := ry
    subst rx ry
    exact .inl ⟨rfl, by rw [dec_eq (fun _ _ q => V.int.inj q)]; exact p.now s rfl⟩
  · rename_i i j
    cases h
    have rx : x = .str i := rx
    have ry : y = .str j := ry
    subst rx ry
    exact .inl ⟨rfl, by rw [dec_eq (fun _ _ q => V.str.inj q)]; exact p.now s rfl⟩
  · rename_i i j
    cases h
    have rx : x = .bl i := rx
    have ry : y = .bl j := ry
    subst rx ry
    exact .inl ⟨rfl, by rw [dec_eq (fun _ _ q => V.bl.inj q)]; exact p.now s rfl⟩
  · obtain ⟨z, h1, h2⟩ := map_some h
    cases h2
    obtain ⟨u, g1, h⟩ := bind_some h1
    obtain ⟨w, g2, h⟩ := bind_some h
    split at h
    · rename_i hs
      cases h
      exact .inr ⟨u, w, Rep.dp s.same dx x u rx g1, Rep.dp s.same dy y w ry g2, hs.1, hs.2, p.now s rfl⟩
    · cases h
theorem od_ne : OpD ct K (rNeAll K) gNe := by
  intro m F S H x y dx dy d S' Q s rx ry h p
  unfold gNe at h
  split at h
  · rename_i i j
    cases h
    have rx : x = .int i := rx
    have ry : y = .int j := ry
    subst rx ry
    exact .inl ⟨rfl, by rw [dec_eq (fun _ _ q => V.int.inj q)]; exact p.now s rfl⟩
  · rename_i i j
    cases h
    have rx : x = .str i := rx
    have ry : y = .str j := ry
    subst rx ry
    exact .inl ⟨rfl, by rw [dec_eq (fun _ _ q => V.str.inj q)]; exact p.now s rfl⟩
  · rename_i i j
    cases h
    have rx : x = .bl i := rx
    have ry : y = .bl j := ry
    subst rx ry
    exact .inl ⟨rfl, by rw [dec_eq (fun _ _ q => V.bl.inj q)]; exact p.now s rfl⟩
  · obtain ⟨z, h1, h2⟩ := map_some h
    cases h2
    obtain ⟨u, g1, h⟩ := bind_some h1
    obtain ⟨w, g2, h⟩ := bind_some h
    split at h
    · rename_i hs
      cases h
      exact .inr ⟨u, w, Rep.dp s.same dx x u rx g1, Rep.dp s.same dy y w ry g2, hs.1, hs.2, p.now s rfl⟩
    · cases h
/-! is None -/
def isNonD : D → Bool
  | .non => true
  | _ => false
theorem Rep.isNon {m : List Addr} {F : Hp} {d : D} {v : V} (r : Rep K ct m F d v) : decide (v = .non) = isNonD d := by
  cases d with
  | non => have r : v = .non := r; subst r; rfl
  | bl b => have r : v = _ := r; subst r; rfl
  | int b => have r : v = _ := r; subst r; rfl
  | str b => have r : v = _ := r; subst r; rfl
  | tup ds => obtain ⟨a, vs, e1, _⟩ := r; subst e1; rfl
  | lst ds => obtain ⟨a, vs, e1, _⟩ := r; subst e1; rfl
  | dct ks ds => obtain ⟨a, vs, e1, _⟩ := r; subst e1; rfl
  | scr ds => obtain ⟨a, e1, _⟩ := r; subst e1; rfl
  | ref i => obtain ⟨a, _, e1⟩ := r; subst e1; rfl
  | obj c fs ds => obtain ⟨a, C, dx, vs, e1, _⟩ := r; subst e1; rfl
  | exc c fs ds => obtain ⟨a, C, dx, vs, e1, _⟩ := r; subst e1; rfl
def gIsN : D → D → Sto → Option (D × Sto)
  | x, .non, S => some (.bl (isNonD x), S)
  | _, _, _ => none
def gNotN : D → D → Sto → Option (D × Sto)
  | x, .non, S => some (.bl (!isNonD x), S)
  | _, _, _ => none
theorem od_isN : OpD ct K (fun x y H Q => y = .non ∧ Q (.bl (decide (x = .non))) H) gIsN := by
  intro m F S H x y dx dy d S' Q s rx ry h p
  unfold gIsN at h
  split at h
  · cases h
    exact ⟨ry, by rw [rx.isNon]; exact p.now s rfl⟩
  · cases h
theorem od_notN : OpD ct K (fun x y H Q => y = .non ∧ Q (.bl (!decide (x = .non))) H) gNotN := by
  intro m F S H x y dx dy d S' Q s rx ry h p
  unfold gNotN at h
  split at h
  · cases h
    exact ⟨ry, by rw [rx.isNon]; exact p.now s rfl⟩
  · cases h
/-! in: flat items of a list or a tuple; a text in a text -/
def flatD : D → Bool
  | .non => true
  | .bl _ => true
  | .int _ => true
  | .str _ => true
  | _ => false
def eqF : D → D → Bool
  | .non, .non => true
  | .bl a, .bl b => a == b
  | .bl a, .int b => (if a then 1 else 0) == b
  | .int a, .bl b => a == (if b then 1 else 0)
  | .int a, .int b => a == b
  | .str a, .str b => a == b
  | _, _ => false
def vOf : D → V
  | .bl b => .bl b
  | .int b => .int b
  | .str b => .str b
  | _ => .non
theorem Rep.flat {m : List Addr} {F : Hp} {d : D} {v : V} (r : Rep K ct m F d v) (h : flatD d = true) : v = vOf d ∧ flatV v = true := by
  cases d with
  | non => have r : v = _ := r; subst r; exact ⟨rfl, rfl⟩
  | bl b => have r : v = _ := r; subst r; exact ⟨rfl, rfl⟩
  | int b => have r : v = _ := r; subst r; exact ⟨rfl, rfl⟩
  | str b => have r : v = _ := r; subst r; exact ⟨rfl, rfl⟩
  | _ => cases h
theorem eqV_eqF {a b : D} (ha : flatD a = true) (hb : flatD b = true) : eqV (vOf a) (vOf b) = eqF a b := by
  cases a <;> cases ha <;> cases b <;> cases hb <;> rfl
theorem Reps.flat {m : List Addr} {F : Hp} : ∀ {ds : List D} {vs : List V}, Reps K ct m F ds vs → ds.all flatD = true → vs = ds.map vOf ∧ vs.all flatV = true
  | [], _, r, _ => by have r : _ = _ := r; subst r; exact ⟨rfl, rfl⟩
  | d :: ds, _, r, h => by
    obtain ⟨v, vr, e1, e2, e3⟩ := r
    subst e1
    simp only [List.all_cons, Bool.and_eq_true] at h
    obtain ⟨q1, q2⟩ := e2.flat h.1
    obtain ⟨q3, q4⟩ := Reps.flat e3 h.2
    exact ⟨by rw [q1, q3]; rfl, by simp only [List.all_cons, q2, q4]; rfl⟩
theorem inV_eq {x : D} (hx : flatD x = true) : ∀ ds : List D, ds.all flatD = true → inV (vOf x) (ds.map vOf) = ds.any fun z => eqF z x
  | [], _ => rfl
  | d :: ds, h => by
    simp only [List.all_cons, Bool.and_eq_true] at h
    have ih := inV_eq hx ds h.2
    unfold inV at ih ⊢
    simp only [List.map_cons, List.any_cons, ih, eqV_eqF h.1 hx]
def inSeq (neg : Bool) (x : D) (ds : List D) (S : Sto) : Option (D × Sto) := if flatD x = true ∧ ds.all flatD = true then some (.bl (if neg then !ds.any (fun z => eqF z x) else ds.any fun z => eqF z x), S) else none
def gInB (neg : Bool) : D → D → Sto → Option (D × Sto)
  | x, .tup ds, S => inSeq neg x ds S
  | x, .lst ds, S => inSeq neg x ds S
  | .str x, .str y, S => some (.bl (if neg then !(!(Builtin.Str.occurrences y x 0 y.length 1).isEmpty) else !(Builtin.Str.occurrences y x 0 y.length 1).isEmpty), S)
  | _, _, _ => none
abbrev gIn := gInB false
abbrev gNotIn := gInB true
def rInAll (K : PySem.W.Frag) : R2 := fun x y H Q => rIn K false x y H Q ∨ ∃ i j, x = .str i ∧ y = .str j ∧ Q (.bl (!(Builtin.Str.occurrences j i 0 j.length 1).isEmpty)) H
def rNotInAll (K : PySem.W.Frag) : R2 := fun x y H Q => rIn K true x y H Q ∨ ∃ i j, x = .str i ∧ y = .str j ∧ Q (.bl (!(!(Builtin.Str.occurrences j i 0 j.length 1).isEmpty))) H
theorem op_inAll {X : Cx} : OpR X (compareOp .In) (rInAll X.K) := op_in_seq.or op_in_str
theorem op_notInAll {X : Cx} : OpR X (compareOp .NotIn) (rNotInAll X.K) := op_notIn_seq.or op_notIn_str
theorem in_seq {neg : Bool} {m : List Addr} {F H : Hp} {S S' : Sto} {x y : V} {dx d : D} {ds : List D} {Q : VK} {a : Addr} {vs : List V} (s : Sim K ct m F S H) (rx : Rep K ct m F dx x) (e1 : y = .ref a) (e2 : SqL K H a vs ∨ SqT K H a vs) (e3 : Reps K ct m F ds vs)
    (h : inSeq neg dx ds S = some (d, S')) (p : PostE ct K m F H S' d Q) : rIn K neg x y H Q := by
  unfold inSeq at h
  split at h
  · rename_i hf
    cases h
    obtain ⟨q1, q2⟩ := rx.flat hf.1
    obtain ⟨q3, q4⟩ := e3.flat hf.2
    refine ⟨a, vs, e1, e2, q2, q4, ?_⟩
    rw [q1, q3, inV_eq hf.1 _ hf.2]
    exact p.now s rfl
  · cases h
theorem od_in : OpD ct K (rInAll K) gIn := by
  intro m F S H x y dx dy d S' Q s rx ry h p
  unfold gIn gInB at h
  split at h
  · obtain ⟨a, vs, e1, e2, e3⟩ := ry
    exact .inl (in_seq s rx e1 (.inr (sqT_mono s.same e2)) e3 h p)
  · obtain ⟨a, vs, e1, e2, e3⟩ := ry
    exact .inl (in_seq s rx e1 (.inl (SqL.of (s.same _ _ e2))) e3 h p)
  · cases h
    exact .inr ⟨_, _, rx, ry, p.now s rfl⟩
  · cases h
theorem od_notIn : OpD ct K (rNotInAll K) gNotIn := by
  intro m F S H x y dx dy d S' Q s rx ry h p
  unfold gNotIn gInB at h
  split at h
  · obtain ⟨a, vs, e1, e2, e3⟩ := ry
    exact .inl (in_seq s rx e1 (.inr (sqT_mono s.same e2)) e3 h p)
  · obtain ⟨a, vs, e1, e2, e3⟩ := ry
    exact .inl (in_seq s rx e1 (.inl (SqL.of (s.same _ _ e2))) e3 h p)
  · cases h
    exact .inr ⟨_, _, rx, ry, p.now s rfl⟩
  · cases h
/-! subscripts -/
def gIx : D → D → Sto → Option (D × Sto)
  | .tup ds, .int i, S => (atI ds i).map fun d => (d, S)
  | .lst ds, .int i, S => (atI ds i).map fun d => (d, S)
  | .scr ns, .int i, S => (atI ns i).map fun n => (.int n, S)
  | .str z, .int i, S => if z.length ≤ 16777216 then (atI z.cps.toList i).map fun c => (.str ⟨#[c]⟩, S) else none
  | .ref k, .int i, S => match S[k]? with
    | some (.lst ds) => (atI ds i).map fun d => (d, S)
    | _ => none
  | _, _, _ => none
theorem Reps.atI {m : List Addr} {F : Hp} {ds : List D} {vs : List V} {i : Int} {d : D} (r : Reps K ct m F ds vs) (h : atI ds i = some d) : ∃ v, L2.atI vs i = some v ∧ Rep K ct m F d v := by
  unfold L2.atI at h ⊢
  obtain ⟨j, h1, h2⟩ := bind_some h
  obtain ⟨v, q1, q2⟩ := r.get h2
  exact ⟨v, by rw [← r.length, h1]; exact q1, q2⟩
theorem atI_map {α β : Type} {f : α → β} {xs : List α} {i : Int} {x : α} (h : L2.atI xs i = some x) : L2.atI (xs.map f) i = some (f x) := by
  unfold L2.atI at h ⊢
  obtain ⟨j, h1, h2⟩ := bind_some h
  rw [List.length_map, h1]
  simp [h2]
theorem od_ix : OpD ct K (rIx K) gIx := by
  intro m F S H x y dx dy d S' Q s rx ry h p
  unfold gIx at h
  split at h
  · obtain ⟨a, vs, e1, e2, e3⟩ := rx
    obtain ⟨z, h1, h2⟩ := map_some h
    cases h2
    obtain ⟨v, q1, q2⟩ := e3.atI h1
    exact .inr (.inl ⟨a, vs, _, v, e1, ry, sqT_mono s.same e2, q1, p.now s q2⟩)
  · obtain ⟨a, vs, e1, e2, e3⟩ := rx
    obtain ⟨z, h1, h2⟩ := map_some h
    cases h2
    obtain ⟨v, q1, q2⟩ := e3.atI h1
    exact .inl ⟨a, vs, _, v, e1, ry, SqL.of (s.same _ _ e2), q1, p.now s q2⟩
  · obtain ⟨a, e1, e2⟩ := rx
    obtain ⟨z, h1, h2⟩ := map_some h
    cases h2
    exact .inl ⟨a, _, _, .int z, e1, ry, s.same.seq e2, atI_map h1, p.now s rfl⟩
  · split at h
    · rename_i hl
      obtain ⟨z, h1, h2⟩ := map_some h
      cases h2
      exact .inr (.inr ⟨_, _, z, rx, ry, by rw [line_eq]; exact hl, h1, p.now s rfl⟩)
    · cases h
  · split at h
    · rename_i ds hk
      obtain ⟨a, e1, e2⟩ := rx
      obtain ⟨z, h1, h2⟩ := map_some h
      cases h2
      obtain ⟨vs, q1, q2⟩ := s.cell _ a _ e1 hk
      obtain ⟨v, q3, q4⟩ := q2.atI h1
      exact .inl ⟨a, vs, _, v, e2, ry, SqL.of q1, q3, p.now s q4⟩
    · cases h
  · cases h
/-! o[i] = v of a cell -/
def gSetL : D → D → D → Sto → Option Sto
  | .ref k, .int i, v, S => match S[k]? with
    | some (.lst ds) => (ixN ds.length i).map fun j => S.set k (.lst (ds.set j v))
    | _ => none
  | _, _, _, _ => none
theorem sd_list : SetD ct K rSetL gSetL := by
  intro m F S H o i v d1 d2 d3 S' Q s r1 r2 r3 h q
  unfold gSetL at h
  split at h
  · split at h
    · rename_i ds hk
      obtain ⟨j, h1, h2⟩ := map_some h
      subst h2
      obtain ⟨a, e1, e2⟩ := r1
      obtain ⟨vs, q1, q2⟩ := s.cell _ a _ e1 hk
      obtain ⟨s2, x2⟩ := s.change e1 (o := .lst (vs.set j v)) (c := .lst (ds.set j d3)) ⟨_, rfl, q2.set j r3⟩
      exact ⟨a, vs, _, j, e2, r2, q1, by rw [← q2.length]; exact h1, q _ _ _ x2 s2⟩
    · cases h
  · cases h
end
end DL

namespace DL
open PySem PySem.Spec PyProof.Rows L2
section
variable {ct : CT} {K : PySem.W.Frag}
/-! ## built-ins at data -/
def cAbs : FD
  | [.int i], S => some (.int (if i < 0 then -i else i), S)
  | _, _ => none
theorem reps1 {m : List Addr} {F : Hp} {d : D} {xs : List V} (r : Reps K ct m F [d] xs) : ∃ v, xs = [v] ∧ Rep K ct m F d v := by
  obtain ⟨v, r', e1, e2, e3⟩ := r
  have e3 : r' = [] := e3
  subst e3
  exact ⟨v, e1, e2⟩
theorem reps2 {m : List Addr} {F : Hp} {d e : D} {xs : List V} (r : Reps K ct m F [d, e] xs) : ∃ v u, xs = [v, u] ∧ Rep K ct m F d v ∧ Rep K ct m F e u := by
  obtain ⟨v, r', e1, e2, e3⟩ := r
  obtain ⟨u, e4, e5⟩ := reps1 e3
  subst e4
  exact ⟨v, u, e1, e2, e5⟩
theorem cd_abs : CallD ct K (fun xs H Q => ∃ i, xs = [.int i] ∧ Q (.int (if i < 0 then -i else i)) H) cAbs := by
  intro m F S H xs ds d S' Q s r h p
  unfold cAbs at h
  split at h
  · cases h
    obtain ⟨v, e1, e2⟩ := reps1 r
    have e2 : v = _ := e2
    subst e2
    exact ⟨_, e1, p.now s rfl⟩
  · cases h
def cMax2 : FD
  | [.int i, .int j], S => some (.int (if j > i then j else i), S)
  | _, _ => none
def cMin2 : FD
  | [.int i, .int j], S => some (.int (if j < i then j else i), S)
  | _, _ => none
theorem cd_max2 : CallD ct K (fun xs H Q => ∃ i j, xs = [.int i, .int j] ∧ Q (.int (if j > i then j else i)) H) cMax2 := by
  intro m F S H xs ds d S' Q s r h p
  unfold cMax2 at h
  split at h
  · cases h
    obtain ⟨v, u, e1, e2, e3⟩ := reps2 r
    have e2 : v = _ := e2
    have e3 : u = _ := e3
    subst e2 e3
    exact ⟨_, _, e1, p.now s rfl⟩
  · cases h
theorem cd_min2 : CallD ct K (fun xs H Q => ∃ i j, xs = [.int i, .int j] ∧ Q (.int (if j < i then j else i)) H) cMin2 := by
  intro m F S H xs ds d S' Q s r h p
  unfold cMin2 at h
  split at h
  · cases h
    obtain ⟨v, u, e1, e2, e3⟩ := reps2 r
    have e2 : v = _ := e2
    have e3 : u = _ := e3
    subst e2 e3
    exact ⟨_, _, e1, p.now s rfl⟩
  · cases h
/-- int(n), int(flag), int(text) -/
def cInt : FD
  | [.int i], S => some (.int i, S)
  | [.bl b], S => some (.int (if b then 1 else 0), S)
  | [.str x], S => if x.length ≤ 640 then (PySem.intText? x).map fun n => (.int n, S) else none
  | _, _ => none
def rInt : List V → Hp → VK → Prop := fun xs H Q => ((∃ i, xs = [.int i] ∧ Q (.int i) H) ∨ ∃ k, xs = [.bl k] ∧ Q (.int (if k then 1 else 0)) H) ∨ ∃ a n, xs = [.str a] ∧ PySem.intText? a = some n ∧ a.length ≤ 640 ∧ Q (.int n) H
theorem call_intAll {X : Cx} : CallR X (.type "int") rInt := call_int1.or call_int_str
theorem cd_int : CallD ct K rInt cInt := by
  intro m F S H xs ds d S' Q s r h p
  unfold cInt at h
  split at h
  · cases h
    obtain ⟨v, e1, e2⟩ := reps1 r
    have e2 : v = _ := e2
    subst e2
    exact .inl (.inl ⟨_, e1, p.now s rfl⟩)
  · cases h
    obtain ⟨v, e1, e2⟩ := reps1 r
    have e2 : v = _ := e2
    subst e2
    exact .inl (.inr ⟨_, e1, p.now s rfl⟩)
  · split at h
    · rename_i hl
      obtain ⟨n, h1, h2⟩ := map_some h
      cases h2
      obtain ⟨v, e1, e2⟩ := reps1 r
      have e2 : v = _ := e2
      subst e2
      exact .inr ⟨_, n, e1, h1, hl, p.now s rfl⟩
    · cases h
  · cases h
def cStr : FD
  | [.int i], S => if i.natAbs.log2 < 1920 then some (.str (toString i), S) else none
  | _, _ => none
theorem cd_str : CallD ct K (fun xs H Q => ∃ i : Int, xs = [.int i] ∧ i.natAbs.log2 < 1920 ∧ Q (.str (toString i)) H) cStr := by
  intro m F S H xs ds d S' Q s r h p
  unfold cStr at h
  split at h
  · split at h
    · rename_i hl
      cases h
      obtain ⟨v, e1, e2⟩ := reps1 r
      have e2 : v = _ := e2
      subst e2
      exact ⟨_, e1, hl, p.now s rfl⟩
    · cases h
  · cases h
def cLen : FD
  | [.str x], S => if x.length ≤ 16777216 then some (.int x.length, S) else none
  | [.tup ds], S => some (.int ds.length, S)
  | [.lst ds], S => some (.int ds.length, S)
  | [.scr ns], S => some (.int ns.length, S)
  | [.ref k], S => match S[k]? with
    | some (.lst ds) => some (.int ds.length, S)
    | _ => none
  | _, _ => none
def rLenAll (K : PySem.W.Frag) : List V → Hp → VK → Prop := fun xs H Q => (∃ p ys, xs = [.ref p] ∧ (SqL K H p ys ∨ SqT K H p ys) ∧ Q (.int ys.length) H) ∨ ∃ z, xs = [.str z] ∧ z.length ≤ sizeLine ∧ Q (.int z.length) H
theorem call_lenAll {X : Cx} : CallR X (.builtin "len") (rLenAll X.K) := call_len_seq.or call_len_str
theorem cd_len : CallD ct K (rLenAll K) cLen := by
  intro m F S H xs ds d S' Q s r h p
  unfold cLen at h
  split at h
  · split at h
    · rename_i hl
      cases h
      obtain ⟨v, e1, e2⟩ := reps1 r
      have e2 : v = _ := e2
      subst e2
      exact .inr ⟨_, e1, by rw [line_eq]; exact hl, p.now s rfl⟩
    · cases h
  · cases h
    obtain ⟨v, e1, a, vs, e2, e3, e4⟩ := reps1 r
    subst e2
    exact .inl ⟨a, vs, e1, .inr (sqT_mono s.same e3), by rw [← e4.length]; exact p.now s rfl⟩
  · cases h
    obtain ⟨v, e1, a, vs, e2, e3, e4⟩ := reps1 r
    subst e2
    exact .inl ⟨a, vs, e1, .inl (SqL.of (s.same _ _ e3)), by rw [← e4.length]; exact p.now s rfl⟩
  · cases h
    obtain ⟨v, e1, a, e2, e3⟩ := reps1 r
    subst e2
    exact .inl ⟨a, _, e1, .inl (s.same.seq e3), by rw [List.length_map]; exact p.now s rfl⟩
  · split at h
    · rename_i es hk
      cases h
      obtain ⟨v, e1, a, e2, e3⟩ := reps1 r
      subst e3
      obtain ⟨vs, q1, q2⟩ := s.cell _ a _ e2 hk
      exact .inl ⟨a, vs, e1, .inl (SqL.of q1), by rw [← q2.length]; exact p.now s rfl⟩
    · cases h
  · cases h
/-- any, all of a list of bools -/
def asBools : List D → Option (List Bool)
  | [] => some []
  | .bl b :: ds => (asBools ds).map fun bs => b :: bs
  | _ => none
theorem Reps.bools {m : List Addr} {F : Hp} : ∀ {ds : List D} {vs : List V} {bs : List Bool}, Reps K ct m F ds vs → asBools ds = some bs → vs = bs.map V.bl
  | [], _, _, r, h => by
    have r : _ = _ := r
    subst r
    cases h
    rfl
  | .bl b :: ds, _, _, r, h => by
    obtain ⟨v, vr, e1, e2, e3⟩ := r
    obtain ⟨cs, h1, h2⟩ := map_some (show (asBools ds).map _ = _ from h)
    have e2 : v = _ := e2
    subst e1 h2 e2
    rw [Reps.bools e3 h1]
    rfl
  | .non :: ds, _, _, r, h => by cases h
  | .int _ :: ds, _, _, r, h => by cases h
  | .str _ :: ds, _, _, r, h => by cases h
  | .tup _ :: ds, _, _, r, h => by cases h
  | .lst _ :: ds, _, _, r, h => by cases h
  | .dct _ _ :: ds, _, _, r, h => by cases h
  | .scr _ :: ds, _, _, r, h => by cases h
  | .ref _ :: ds, _, _, r, h => by cases h
  | .obj _ _ _ :: ds, _, _, r, h => by cases h
  | .exc _ _ _ :: ds, _, _, r, h => by cases h
def cAny : FD
  | [.lst ds], S => (asBools ds).map fun bs => (.bl (bs.any id), S)
  | _, _ => none
def cAll : FD
  | [.lst ds], S => (asBools ds).map fun bs => (.bl (bs.all id), S)
  | _, _ => none
theorem cd_any : CallD ct K (rAny K) cAny := by
  intro m F S H xs ds d S' Q s r h p
  unfold cAny at h
  split at h
  · obtain ⟨bs, h1, h2⟩ := map_some h
    cases h2
    obtain ⟨v, e1, a, vs, e2, e3, e4⟩ := reps1 r
    subst e2
    have e5 := e4.bools h1
    subst e5
    exact ⟨a, bs, e1, SqL.of (s.same _ _ e3), p.now s rfl⟩
  · cases h
theorem cd_all : CallD ct K (rAll K) cAll := by
  intro m F S H xs ds d S' Q s r h p
  unfold cAll at h
  split at h
  · obtain ⟨bs, h1, h2⟩ := map_some h
    cases h2
    obtain ⟨v, e1, a, vs, e2, e3, e4⟩ := reps1 r
    subst e2
    have e5 := e4.bools h1
    subst e5
    exact ⟨a, bs, e1, SqL.of (s.same _ _ e3), p.now s rfl⟩
  · cases h
/-- ints of a list -/
def asInts : List D → Option (List Int)
  | [] => some []
  | .int b :: ds => (asInts ds).map fun bs => b :: bs
  | _ => none
theorem Reps.asInts {m : List Addr} {F : Hp} : ∀ {ds : List D} {vs : List V} {bs : List Int}, Reps K ct m F ds vs → asInts ds = some bs → vs = bs.map V.int
  | [], _, _, r, h => by
    have r : _ = _ := r
    subst r
    cases h
    rfl
  | .int b :: ds, _, _, r, h => by
    obtain ⟨v, vr, e1, e2, e3⟩ := r
    obtain ⟨cs, h1, h2⟩ := map_some (show (DL.asInts ds).map _ = _ from h)
    have e2 : v = _ := e2
    subst e1 h2 e2
    rw [Reps.asInts e3 h1]
    rfl
  | .non :: ds, _, _, r, h => by cases h
  | .bl _ :: ds, _, _, r, h => by cases h
  | .str _ :: ds, _, _, r, h => by cases h
  | .tup _ :: ds, _, _, r, h => by cases h
  | .lst _ :: ds, _, _, r, h => by cases h
  | .dct _ _ :: ds, _, _, r, h => by cases h
  | .scr _ :: ds, _, _, r, h => by cases h
  | .ref _ :: ds, _, _, r, h => by cases h
  | .obj _ _ _ :: ds, _, _, r, h => by cases h
  | .exc _ _ _ :: ds, _, _, r, h => by cases h
def cSum : FD
  | [.lst ds], S => (asInts ds).map fun bs => (.int bs.sum, S)
  | _, _ => none
theorem cd_sum : CallD ct K (rSum K) cSum := by
  intro m F S H xs ds d S' Q s r h p
  unfold cSum at h
  split at h
  · obtain ⟨bs, h1, h2⟩ := map_some h
    cases h2
    obtain ⟨v, e1, a, vs, e2, e3, e4⟩ := reps1 r
    subst e2
    have e5 := e4.asInts h1
    subst e5
    exact ⟨a, bs, e1, SqL.of (s.same _ _ e3), p.now s rfl⟩
  · cases h
/-- list(xs), list(t) -/
def cList : FD
  | [.lst ds], S => some (.lst ds, S)
  | [.tup ds], S => some (.lst ds, S)
  | _, _ => none
theorem cd_list : CallD ct K (fun xs H Q => ∃ p ys, xs = [.ref p] ∧ (SqL K H p ys ∨ SqT K H p ys) ∧ ∀ l, H l = none → Q (.ref l) (upd H l (.lst ys))) cList := by
  intro m F S H xs ds d S' Q s r h p
  unfold cList at h
  split at h
  · cases h
    obtain ⟨v, e1, a, vs, e2, e3, e4⟩ := reps1 r
    subst e2
    refine ⟨a, vs, e1, .inl (SqL.of (s.same _ _ e3)), fun q hq => ?_⟩
    obtain ⟨s2, x2⟩ := s.frozen hq (.lst vs)
    exact p m _ (.ref q) _ x2 s2 ⟨q, _, rfl, upd_same, e4.mono x2⟩
  · cases h
    obtain ⟨v, e1, a, vs, e2, e3, e4⟩ := reps1 r
    subst e2
    refine ⟨a, vs, e1, .inr (sqT_mono s.same e3), fun q hq => ?_⟩
    obtain ⟨s2, x2⟩ := s.frozen hq (.lst vs)
    exact p m _ (.ref q) _ x2 s2 ⟨q, _, rfl, upd_same, e4.mono x2⟩
  · cases h
/-- tuple(xs) -/
def cTuple : FD
  | [.lst ds], S => some (.tup ds, S)
  | [.tup ds], S => some (.tup ds, S)
  | _, _ => none
theorem cd_tuple : CallD ct K (fun xs H Q => ∃ p ys, xs = [.ref p] ∧ ((SqL K H p ys ∧ ∀ l, H l = none → Q (.ref l) (upd H l (.tup ys))) ∨ (SqT K H p ys ∧ Q (.ref p) H))) cTuple := by
  intro m F S H xs ds d S' Q s r h p
  unfold cTuple at h
  split at h
  · cases h
    obtain ⟨v, e1, a, vs, e2, e3, e4⟩ := reps1 r
    subst e2
    refine ⟨a, vs, e1, .inl ⟨SqL.of (s.same _ _ e3), fun q hq => ?_⟩⟩
    obtain ⟨s2, x2⟩ := s.frozen hq (.tup vs)
    exact p m _ (.ref q) _ x2 s2 ⟨q, _, rfl, SqT.of upd_same, e4.mono x2⟩
  · cases h
    obtain ⟨v, e1, a, vs, e2, e3, e4⟩ := reps1 r
    subst e2
    exact ⟨a, vs, e1, .inr ⟨sqT_mono s.same e3, p.now s ⟨a, vs, rfl, e3, e4⟩⟩⟩
  · cases h
end
/-! ## isinstance with a built-in class -/
section
variable {ct : CT} {X : Cx} {e : Expr} {f : FE}
def isiT : String → D → Option Bool
  | "int", .int _ => some true
  | "int", .bl _ => some true
  | "int", .non => some false
  | "int", .str _ => some false
  | "int", .tup _ => some false
  | "int", .lst _ => some false
  | "int", .dct _ _ => some false
  | "bool", .bl _ => some true
  | "bool", .int _ => some false
  | "bool", .non => some false
  | "bool", .str _ => some false
  | "bool", .tup _ => some false
  | "bool", .lst _ => some false
  | "bool", .dct _ _ => some false
  | "str", .str _ => some true
  | "str", .int _ => some false
  | "str", .bl _ => some false
  | "str", .non => some false
  | "str", .tup _ => some false
  | "str", .lst _ => some false
  | "str", .dct _ _ => some false
  | "tuple", .tup _ => some true
  | "tuple", .int _ => some false
  | "tuple", .bl _ => some false
  | "tuple", .non => some false
  | "tuple", .str _ => some false
  | "tuple", .lst _ => some false
  | "tuple", .dct _ _ => some false
  | _, _ => none
def tyN : D → String
  | .non => "NoneType"
  | .bl _ => "bool"
  | .int _ => "int"
  | .str _ => "str"
  | .tup _ => "tuple"
  | .lst _ => "list"
  | .dct _ _ => "dict"
  | _ => ""
theorem tyX_of {K : PySem.W.Frag} {m : List Addr} {F H : Hp} (e : Same F H) {d : D} {v : V} (r : Rep K ct m F d v) (h : tyN d ≠ "") : TyX K H v (.type (tyN d)) := by
  cases d with
  | non => have r : v = _ := r; subst r; exact .base .non
  | bl b => have r : v = _ := r; subst r; exact .base (.bl b)
  | int b => have r : v = _ := r; subst r; exact .base (.int b)
  | str b => have r : v = _ := r; subst r; exact .base (.str b)
  | tup ds =>
    obtain ⟨a, vs, e1, e2, _⟩ := r
    subst e1
    rcases sqT_mono e e2 with (q | ⟨o, q⟩) | ⟨o, its, n, q1, q2, _⟩
    · exact .base (.tup q)
    · exact .fTuple q
    · exact .kTuple q1 q2
  | lst ds =>
    obtain ⟨a, vs, e1, e2, _⟩ := r
    subst e1
    exact .base (.lst (e _ _ e2))
  | dct ks ds =>
    obtain ⟨a, vs, e1, e2, _⟩ := r
    subst e1
    exact .base (.dK (e _ _ e2))
  | scr _ => exact absurd rfl h
  | ref _ => exact absurd rfl h
  | obj _ _ _ => exact absurd rfl h
  | exc _ _ _ => exact absurd rfl h
theorem isiT_kit {T : String} {d : D} {b : Bool} (h : isiT T d = some b) : kitB (tyN d) T = some b ∧ tyN d ≠ "" := by
  unfold isiT at h
  split at h <;> first
    | (cases h; refine ⟨?_, ?_⟩ <;> (dsimp only [tyN]; decide +kernel))
    | cases h
def fIsi (T : String) (f : FE) : FE := fun env S => (f env S).bind fun p => (isiT T p.1).map fun b => (.bl b, p.2)
theorem se_isi {T : String} {x : Str} {p q pos : Pos} (hg : Gl X "isinstance") (hm : X.mg "isinstance" = none) (he : SE ct X e f) (hg2 : Gl X x) (hm2 : X.mg x = none) (hv2 : bootBuiltins x = some (.type T)) (hn2 : x ≠ "__name__" := by decide) (hd2 : (x == ("__debug__" : Str)) = false := by decide)
    (hs : starEach [e, .Name x q] X.env = (false, eval e X.env) :: starEach [.Name x q] X.env := by rfl) (hs2 : starEach [.Name x q] X.env = (false, eval (.Name x q) X.env) :: starEach [] X.env := by rfl)
    (hpl : (backTo pos (starEach [.Name x q] X.env)).any (·.1) = false := by rfl) : SE ct X (.Call (.Name "isinstance" p) [e, .Name x q] [] pos) (fIsi T f) := by
  obtain ⟨ta, pa, ra⟩ := he
  refine ⟨_, pe_callB call_isi hg hm (by decide +kernel) (pa_cons pa (pa_cons (pe_bltn (v := .ty T) hg2 hm2 hv2 rfl hn2 hd2) pa_nil hs2) hs) (by decide) (by decide) hs hpl, fun m F S σ H env d S' Q s en h p => ?_⟩
  obtain ⟨⟨z, S1⟩, h1, h⟩ := bind_some h
  obtain ⟨b, h2, h3⟩ := map_some h
  cases h3
  refine ra m F S σ H env z S1 _ s en h1 fun m1 F1 v1 H1 x1 s1 r1 => ?_
  obtain ⟨k1, k2⟩ := isiT_kit h2
  exact ⟨v1, .ty T, .type (tyN z), .type T, b, rfl, .ty T, tyX_of s1.same r1 k2, kit_ty k1, (p.ext x1).now s1 rfl⟩
end
/-! ## slices -/
section
variable {ct : CT} {X : Cx} {a b c e : Expr} {es : List Expr} {fa fb fc f : FE}
abbrev FO := DEnv → Sto → Option (Option Int × Sto)
def SO (ct : CT) (X : Cx) (e : Option Expr) (f : FO) : Prop := ∃ t, PO X e t ∧ ∀ m F S σ H env o S' Q, Sim X.K ct m F S H → EnvR X.K ct m F env σ → f env S = some (o, S') → (∀ m' F' H', Ext m F H m' F' H' → Sim X.K ct m' F' S' H' → Q o H') → t σ H Q
def oNone : FO := fun _ S => some (none, S)
def oSome (f : FE) : FO := fun env S => (f env S).bind fun p => match p.1 with
  | .int i => some (some i, p.2)
  | _ => none
theorem so_none : SO ct X none oNone := ⟨_, po_none, fun m F S σ H env o S' Q s en h q => by
  cases h
  exact q m F H (Ext.refl _ _ _) s⟩
theorem so_some (h : SE ct X e f) : SO ct X (some e) (oSome f) := by
  obtain ⟨ta, pa, ra⟩ := h
  refine ⟨_, po_some pa, fun m F S σ H env o S' Q s en h q => ?_⟩
  obtain ⟨⟨z, S1⟩, h1, h⟩ := bind_some h
  refine ra m F S σ H env z S1 _ s en h1 fun m1 F1 v1 H1 x1 s1 r1 => ?_
  cases z with
  | int i => cases h; exact ⟨i, r1, q m1 F1 H1 x1 s1⟩
  | _ => cases h
def cutD {α : Type} (xs : List α) (lo hi : Option Int) : List α := (xs.drop (HT.sIx xs.length 0 lo)).take (HT.sIx xs.length xs.length hi - HT.sIx xs.length 0 lo)
def gSl : D → Option Int → Option Int → Sto → Option (D × Sto)
  | .lst ds, lo, hi, S => some (.lst (cutD ds lo hi), S)
  | .scr ns, lo, hi, S => some (.lst ((cutD ns lo hi).map .int), S)
  | .tup ds, lo, hi, S => if HT.sIx ds.length 0 lo = 0 ∧ HT.sIx ds.length ds.length hi = ds.length then none else some (.tup (cutD ds lo hi), S)
  | .str z, lo, hi, S => if z.length ≤ 16777216 then some (.str (cutS z lo hi), S) else none
  | _, _, _, _ => none
def rSlAll (K : PySem.W.Frag) : V → Option Int → Option Int → Hp → VK → Prop := fun x lo hi H Q => rSlL K x lo hi H Q ∨ (rSlT K x lo hi H Q ∨ rSlS x lo hi H Q)
theorem sl_all : SlR X (rSlAll X.K) := sl_list.or (sl_tup.or sl_str)
def fSl (fa : FE) (lo hi : FO) : FE := fun env S => (fa env S).bind fun p => (lo env p.2).bind fun q => (hi env q.2).bind fun r => gSl p.1 q.1 r.1 r.2
theorem cutD_reps {K : PySem.W.Frag} {m : List Addr} {F : Hp} {ds : List D} {vs : List V} (r : Reps K ct m F ds vs) (lo hi : Option Int) : Reps K ct m F (cutD ds lo hi) (cutV vs lo hi) := by
  unfold cutD cutV
  rw [← r.length]
  exact (r.drop _).take _
theorem se_slice {lo hi : Option Expr} {fl fh : FO} {p2 pos : Pos} (he : SE ct X a fa) (hl : SO ct X lo fl) (hh : SO ct X hi fh) : SE ct X (.Subscript a (.Slice lo hi none p2) pos) (fSl fa fl fh) := by
  obtain ⟨ta, pa, ra⟩ := he
  obtain ⟨tb, pb, rb⟩ := hl
  obtain ⟨tc, pc, rc⟩ := hh
  refine ⟨_, pe_slice sl_all pa pb pc, fun m F S σ H env d S' Q s en h p => ?_⟩
  obtain ⟨⟨z, S1⟩, h1, h⟩ := bind_some h
  obtain ⟨⟨i, S2⟩, h2, h⟩ := bind_some h
  obtain ⟨⟨j, S3⟩, h3, h⟩ := bind_some h
  refine ra m F S σ H env z S1 _ s en h1 fun m1 F1 v1 H1 x1 s1 r1 => ?_
  refine rb m1 F1 S1 σ H1 env i S2 _ s1 (en.mono x1) h2 fun m2 F2 H2 x2 s2 => ?_
  refine rc m2 F2 S2 σ H2 env j S3 _ s2 ((en.mono x1).mono x2) h3 fun m3 F3 H3 x3 s3 => ?_
  have p3 := ((p.ext x1).ext x2).ext x3
  have r3 := (r1.mono x2).mono x3
  cases z with
  | lst ds =>
    cases h
    obtain ⟨q, vs, e1, e2, e3⟩ := r3
    refine .inl ⟨q, vs, e1, SqL.of (s3.same _ _ e2), fun w hw => ?_⟩
    obtain ⟨s4, x4⟩ := s3.frozen hw (.lst (cutV vs i j))
    exact p3 _ _ (.ref w) _ x4 s4 ⟨w, _, rfl, upd_same, (cutD_reps e3 i j).mono x4⟩
  | scr ns =>
    cases h
    obtain ⟨q, e1, e2⟩ := r3
    refine .inl ⟨q, _, e1, s3.same.seq e2, fun w hw => ?_⟩
    obtain ⟨s4, x4⟩ := s3.frozen hw (.lst (cutV (ns.map V.int) i j))
    refine p3 _ _ (.ref w) _ x4 s4 ⟨w, _, rfl, upd_same, ?_⟩
    have := cutD_reps (K := X.K) (ct := ct) (m := m3) (F := upd F3 w (.lst (cutV (ns.map V.int) i j))) (Reps.ints ns) i j
    have e : cutD (ns.map D.int) i j = (cutD ns i j).map D.int := by
      unfold cutD
      rw [List.length_map, List.map_take, List.map_drop]
    rw [e] at this
    exact this
  | tup ds =>
    have h : (if HT.sIx ds.length 0 i = 0 ∧ HT.sIx ds.length ds.length j = ds.length then none else some (D.tup (cutD ds i j), S3)) = some (d, S') := h
    split at h
    · cases h
    · rename_i hw
      cases h
      obtain ⟨q, vs, e1, e2, e3⟩ := r3
      refine .inr (.inl ⟨q, vs, e1, sqT_mono s3.same e2, by rw [← e3.length]; exact hw, fun w hw => ?_⟩)
      obtain ⟨s4, x4⟩ := s3.frozen hw (.tup (cutV vs i j))
      exact p3 _ _ (.ref w) _ x4 s4 ⟨w, _, rfl, SqT.of upd_same, (cutD_reps e3 i j).mono x4⟩
  | str z =>
    have h : (if z.length ≤ 16777216 then some (D.str (cutS z i j), S3) else none) = some (d, S') := h
    split at h
    · rename_i hl
      cases h
      exact .inr (.inr ⟨_, r3, by rw [line_eq]; exact hl, p3.now s3 rfl⟩)
    · cases h
  | _ => cases h
end
/-! ## what is walked -/
section
variable {ct : CT} {X : Cx} {tg a b c e : Expr} {es : List Expr} {fa fb fc f : FE} {fas : FA}
/-- a list -/
def iLst (f : FE) : FA := fun env S => (f env S).bind fun p => match p.1 with
  | .lst ds => some (ds, p.2)
  | _ => none
theorem si_list (h : SE ct X e f) : SI ct X tg e (iLst f) := by
  obtain ⟨ta, pa, ra⟩ := h
  refine ⟨_, pi_list pa, fun m F S σ H env items S' R s en h p => ?_⟩
  obtain ⟨⟨z, S1⟩, h1, h⟩ := bind_some h
  refine ra m F S σ H env z S1 _ s en h1 fun m1 F1 v1 H1 x1 s1 r1 => ?_
  cases z with
  | lst ds =>
    cases h
    obtain ⟨q, vs, e1, e2, e3⟩ := r1
    refine ⟨q, e1, ⟨vs, SqL.of (s1.same _ _ e2)⟩, p m1 F1 _ H1 x1 s1 fun i m2 F2 S2 H2 x2 s2 => ?_⟩
    have hq : SqL X.K H2 q vs := SqL.of (s2.same _ _ (x2.same _ _ e2))
    refine ⟨fun d hd => ?_, fun hl => ⟨vs, hq, by rw [← e3.length]; omega⟩⟩
    obtain ⟨v, g1, g2⟩ := e3.get hd
    refine ⟨⟨vs, v, hq, g1⟩, fun x H' y => ?_⟩
    obtain ⟨y1, y2⟩ := y
    subst y1
    have := y2 vs hq
    rw [g1] at this
    cases this
    exact ⟨F2, Ext.refl _ _ _, s2, g2.mono0 x2⟩
  | _ => cases h
/-- a tuple -/
def iTup (f : FE) : FA := fun env S => (f env S).bind fun p => match p.1 with
  | .tup ds => some (ds, p.2)
  | _ => none
theorem si_tup (h : SE ct X e f) : SI ct X tg e (iTup f) := by
  obtain ⟨ta, pa, ra⟩ := h
  refine ⟨_, pi_tup pa, fun m F S σ H env items S' R s en h p => ?_⟩
  obtain ⟨⟨z, S1⟩, h1, h⟩ := bind_some h
  refine ra m F S σ H env z S1 _ s en h1 fun m1 F1 v1 H1 x1 s1 r1 => ?_
  cases z with
  | tup ds =>
    cases h
    obtain ⟨q, vs, e1, e2, e3⟩ := r1
    refine ⟨q, e1, ⟨vs, sqT_mono s1.same e2⟩, p m1 F1 _ H1 x1 s1 fun i m2 F2 S2 H2 x2 s2 => ?_⟩
    have hq : SqT X.K H2 q vs := sqT_mono s2.same (sqT_mono x2.same e2)
    refine ⟨fun d hd => ?_, fun hl => ⟨vs, hq, by rw [← e3.length]; omega⟩⟩
    obtain ⟨v, g1, g2⟩ := e3.get hd
    refine ⟨⟨vs, v, hq, g1⟩, fun x H' y => ?_⟩
    obtain ⟨y1, y2⟩ := y
    subst y1
    have := y2 vs hq
    rw [g1] at this
    cases this
    exact ⟨F2, Ext.refl _ _ _, s2, g2.mono0 x2⟩
  | _ => cases h
/-- range(n), range(a, b) -/
def rangeD (lo hi : Int) : List D := (List.range (hi - lo).toNat).map fun (k : Nat) => D.int (lo + k)
def okR (i : Int) : Bool := decide (-4611686018427387904 ≤ i) && decide (i < 4611686018427387904)
def iRange1 (fas : FA) : FA := fun env S => (fas env S).bind fun p => match p.1 with
  | [.int j] => if okR j = true then some (rangeD 0 j, p.2) else none
  | _ => none
def iRange2 (fas : FA) : FA := fun env S => (fas env S).bind fun p => match p.1 with
  | [.int i, .int j] => if okR i = true ∧ okR j = true then some (rangeD i j, p.2) else none
  | _ => none
theorem itr_ok {K : PySem.W.Frag} {m0 : List Addr} {F0 : Hp} (lo hi : Int) {n : Nat} (hn : n = (hi - lo).toNat) : ItOk ct K m0 F0 (rangeD lo hi) (Itr lo n) := by
  subst hn
  intro i m F S H x s
  have hl : (rangeD lo hi).length = (hi - lo).toNat := by simp [rangeD]
  refine ⟨fun d hd => ?_, fun h => ?_⟩
  · have hi : i < (rangeD lo hi).length := (List.getElem?_eq_some_iff.mp hd).1
    rw [hl] at hi
    refine ⟨hi, fun v H' y => ?_⟩
    obtain ⟨y1, y2⟩ := y
    subst y1 y2
    refine ⟨F, Ext.refl _ _ _, s, ?_⟩
    have e : d = .int (lo + i) := by
      unfold rangeD at hd
      rw [List.getElem?_map, List.getElem?_range hi] at hd
      cases hd
      rfl
    subst e
    rfl
  · rw [hl] at h
    show _ ≤ i
    omega
theorem okR_ok {i : Int} (h : okR i = true) : -(2 ^ 62) ≤ i ∧ i < 2 ^ 62 := by
  simp only [okR, Bool.and_eq_true, decide_eq_true_eq] at h
  exact h
theorem si_range1 {p pos : Pos} (hg : Gl X "range") (hm : X.mg "range" = none) (h : SA ct X [a] fas) (hs : starEach [a] X.env = [(false, eval a X.env)] := by rfl) : SI ct X tg (.Call (.Name "range" p) [a] [] pos) (iRange1 fas) := by
  obtain ⟨ta, pa, ra⟩ := h
  refine ⟨_, pi_range1 hg hm pa hs, fun m F S σ H env items S' R s en h p => ?_⟩
  obtain ⟨⟨zs, S1⟩, h1, h⟩ := bind_some h
  refine ra m F S σ H env zs S1 _ s en h1 fun m1 F1 vs H1 x1 s1 r1 => ?_
  split at h
  · rename_i j hz
    have hz : zs = _ := hz
    subst hz
    split at h
    · rename_i hj
      cases h
      obtain ⟨v, e1, e2⟩ := reps1 r1
      have e2 : v = _ := e2
      subst e2
      exact ⟨j, e1, (okR_ok hj).1, (okR_ok hj).2, p m1 F1 _ H1 x1 s1 (itr_ok 0 j (by simp))⟩
    · cases h
  · cases h
theorem si_range2 {p pos : Pos} (hg : Gl X "range") (hm : X.mg "range" = none) (h : SA ct X [a, b] fas) (hs : starEach [a, b] X.env = [(false, eval a X.env), (false, eval b X.env)] := by rfl) (hs2 : starEach [b] X.env = [(false, eval b X.env)] := by rfl) : SI ct X tg (.Call (.Name "range" p) [a, b] [] pos) (iRange2 fas) := by
  obtain ⟨ta, pa, ra⟩ := h
  refine ⟨_, pi_range2 hg hm pa hs hs2, fun m F S σ H env items S' R s en h p => ?_⟩
  obtain ⟨⟨zs, S1⟩, h1, h⟩ := bind_some h
  refine ra m F S σ H env zs S1 _ s en h1 fun m1 F1 vs H1 x1 s1 r1 => ?_
  split at h
  · rename_i i j hz
    have hz : zs = _ := hz
    subst hz
    split at h
    · rename_i hj
      cases h
      obtain ⟨v, u, e1, e2, e3⟩ := reps2 r1
      have e2 : v = _ := e2
      have e3 : u = _ := e3
      subst e2 e3
      exact ⟨i, j, e1, ⟨(okR_ok hj.1).1, (okR_ok hj.1).2, (okR_ok hj.2).1, (okR_ok hj.2).2⟩, p m1 F1 _ H1 x1 s1 (itr_ok i j rfl)⟩
    · cases h
  · cases h
/-- the signs of a text -/
def iStrD (f : FE) : FA := fun env S => (f env S).bind fun p => match p.1 with
  | .str x => some (x.cps.toList.map fun c => D.str ⟨#[c]⟩, p.2)
  | _ => none
theorem si_str (h : SE ct X e f) : SI ct X tg e (iStrD f) := by
  obtain ⟨ta, pa, ra⟩ := h
  refine ⟨_, pi_str pa, fun m F S σ H env items S' R s en h p => ?_⟩
  obtain ⟨⟨z, S1⟩, h1, h⟩ := bind_some h
  refine ra m F S σ H env z S1 _ s en h1 fun m1 F1 v1 H1 x1 s1 r1 => ?_
  cases z with
  | str x =>
    cases h
    refine ⟨x, r1, p m1 F1 _ H1 x1 s1 fun i m2 F2 S2 H2 x2 s2 => ?_⟩
    refine ⟨fun d hd => ?_, fun hl => ?_⟩
    · rw [List.getElem?_map] at hd
      obtain ⟨c, hc, e⟩ := map_some hd
      subst e
      have hc' : x.cps[i]? = some c := by simpa using hc
      refine ⟨by
        have := (List.getElem?_eq_some_iff.mp hc).1
        show i < x.cps.size
        simpa using this, fun v H' y => ?_⟩
      obtain ⟨y1, c', y2, y3⟩ := y
      subst y1 y3
      rw [hc'] at y2
      cases y2
      exact ⟨F2, Ext.refl _ _ _, s2, rfl⟩
    · show _ ≤ i
      simp at hl
      omega
  | _ => cases h
end
end DL

namespace DL
open PySem PySem.Spec PyProof.Rows L2
/-! ## one reading for each denotation -/
def tE (ct : CT) (K : PySem.W.Frag) (f : FE) : TE := fun σ H Q => ∃ m F S env d S', Sim K ct m F S H ∧ EnvR K ct m F env σ ∧ f env S = some (d, S') ∧ PostE ct K m F H S' d Q
def tT (ct : CT) (K : PySem.W.Frag) (f : FT) : TT := fun σ H Q => ∃ m F S env b S', Sim K ct m F S H ∧ EnvR K ct m F env σ ∧ f env S = some (b, S') ∧ PostT ct K m F H S' b Q
theorem SE.pe {ct : CT} {X : Cx} {e : Expr} {f : FE} (h : SE ct X e f) : PE X e (tE ct X.K f) := by
  obtain ⟨t, p, r⟩ := h
  exact ⟨fun pins s σ H Q I ⟨m, F, S, env, d, S', s1, en, h1, p1⟩ => p.run pins s σ H Q I (r m F S σ H env d S' Q s1 en h1 p1)⟩
def STs (ct : CT) (X : Cx) (ifs : List Expr) (f : FT) : Prop := ∃ t, PTs X ifs t ∧ ∀ m F S σ H env b S' Q, Sim X.K ct m F S H → EnvR X.K ct m F env σ → f env S = some (b, S') → PostT ct X.K m F H S' b Q → t σ H Q
theorem STs.pt {ct : CT} {X : Cx} {es : List Expr} {f : FT} (h : STs ct X es f) : PTs X es (tT ct X.K f) := by
  obtain ⟨t, p, r⟩ := h
  exact ⟨fun pins s σ H Q I ⟨m, F, S, env, d, S', s1, en, h1, p1⟩ => p.run pins s σ H Q I (r m F S σ H env d S' Q s1 en h1 p1)⟩
def tYesD : FT := fun _ S => some (true, S)
theorem sts_nil {ct : CT} {X : Cx} : STs ct X [] tYesD := ⟨_, pts_nil, fun m F S σ H env b S' Q s en h p => by
  cases h
  exact p m F H (Ext.refl _ _ _) s⟩
theorem sts_one {ct : CT} {X : Cx} {e : Expr} {f : FT} (h : ST ct X e f) : STs ct X [e] f := by
  obtain ⟨t, p, r⟩ := h
  exact ⟨t, pts_one p, r⟩
/-! ## targets of a comprehension -/
def SGw (ct : CT) (X : Cx) (vs : List Nat) (tg : Expr) (g : FG) : Prop := ∃ t, PG X tg t ∧ ∀ m F S σ H env d v env' S' Q, Sim X.K ct m F S H → EnvR X.K ct m F env σ → Rep X.K ct m F d v → g d env S = some (env', S') →
  (∀ m' F' σ' H', Ext m F H m' F' H' → Sim X.K ct m' F' S' H' → EnvR X.K ct m' F' env' σ' → wipe σ' vs = wipe σ vs → Q σ' H') → t v σ H Q
def SGws (ct : CT) (X : Cx) (vs : List Nat) (tgs : List Expr) (g : FGs) : Prop := ∃ t, PGs X tgs t ∧ ∀ m F S σ H env ds us env' S' Q, Sim X.K ct m F S H → EnvR X.K ct m F env σ → Reps X.K ct m F ds us → g ds env S = some (env', S') →
  (∀ m' F' σ' H', Ext m F H m' F' H' → Sim X.K ct m' F' S' H' → EnvR X.K ct m' F' env' σ' → wipe σ' vs = wipe σ vs → Q σ' H') → t us σ H Q
def tGw (ct : CT) (K : PySem.W.Frag) (vs : List Nat) (g : FG) : TG := fun v σ H Q => ∃ m F S env d env' S', Sim K ct m F S H ∧ EnvR K ct m F env σ ∧ Rep K ct m F d v ∧ g d env S = some (env', S') ∧
  (∀ m' F' σ' H', Ext m F H m' F' H' → Sim K ct m' F' S' H' → EnvR K ct m' F' env' σ' → wipe σ' vs = wipe σ vs → Q σ' H')
theorem SGw.pg {ct : CT} {X : Cx} {vs : List Nat} {tg : Expr} {g : FG} (h : SGw ct X vs tg g) : PG X tg (tGw ct X.K vs g) := by
  obtain ⟨t, p, r⟩ := h
  exact ⟨fun pins s σ H v u Q I rv ⟨m, F, S, env, d, env', S', s1, en, rp, h1, p1⟩ => p.run pins s σ H v u Q I rv (r m F S σ H env d v env' S' Q s1 en rp h1 p1)⟩
theorem set_comm' {α : Type} (l : List α) {i j : Nat} (h : i ≠ j) (a b : α) : (l.set i a).set j b = (l.set j b).set i a := List.set_comm a b h
theorem wipe_out_set {σ : L2.St} {i : Nat} {x : Option V} : ∀ {vs : List Nat}, i ∉ vs → wipe (σ.set i x) vs = (wipe σ vs).set i x
  | [], _ => rfl
  | v :: vs, h => by
    have h1 : i ≠ v := fun e => h (by simp [e])
    have h2 : i ∉ vs := fun e => h (by simp [e])
    unfold wipe
    rw [wipe_out_set h2, set_comm' _ h1]
theorem wipe_set {σ : L2.St} {i : Nat} {x : Option V} : ∀ {vs : List Nat}, i ∈ vs → wipe (σ.set i x) vs = wipe σ vs
  | [], h => by cases h
  | v :: vs, h => by
    unfold wipe
    by_cases hi : i ∈ vs
    · rw [wipe_set hi]
    · have e : i = v := by simpa [hi] using h
      subst e
      rw [wipe_out_set hi, List.set_set]
theorem wipe_idem_sub {σ : L2.St} {us : List Nat} : ∀ {vs : List Nat}, (∀ v ∈ vs, v ∈ us) → wipe (wipe σ vs) us = wipe σ us
  | [], _ => rfl
  | v :: vs, h => by
    show wipe ((wipe σ vs).set v none) us = wipe σ us
    rw [wipe_set (h v (by simp)), wipe_idem_sub fun w hw => h w (by simp [hw])]
theorem wipe_idem {σ : L2.St} {vs : List Nat} : wipe (wipe σ vs) vs = wipe σ vs := wipe_idem_sub fun _ h => h
def wipeD (env : DEnv) : List Nat → DEnv
  | [] => env
  | v :: vs => (wipeD env vs).set v none
theorem EnvR.unset {K : PySem.W.Frag} {ct : CT} {m : List Addr} {F : Hp} {env : DEnv} {σ : L2.St} (h : EnvR K ct m F env σ) (i : Nat) : EnvR K ct m F (env.set i none) (σ.set i none) := by
  refine ⟨by simp [h.1], fun j e hj => ?_⟩
  by_cases e1 : i = j
  · subst e1
    have hl : i < env.length := by
      have := (List.getElem?_eq_some_iff.mp hj).1
      simpa using this
    rw [List.getElem?_set_self hl] at hj
    cases hj
  · rw [List.getElem?_set_ne e1] at hj
    rw [List.getElem?_set_ne e1]
    exact h.2 j e hj
theorem EnvR.wipe {K : PySem.W.Frag} {ct : CT} {m : List Addr} {F : Hp} {env : DEnv} {σ : L2.St} (h : EnvR K ct m F env σ) : ∀ vs : List Nat, EnvR K ct m F (wipeD env vs) (L2.wipe σ vs)
  | [] => h
  | v :: vs => (EnvR.wipe h vs).unset v
section
variable {ct : CT} {X : Cx} {pos : Pos}
theorem sgw_name {vs : List Nat} {i : Nat} {x : Str} (hN : X.N.Nodup) (hi : X.N[i]? = some x) (hx : Loc X.env.scope x) (hv : i ∈ vs) (hf : X.fn x = true ∨ X.env.scope.names.lookup x = some .local := by first | exact .inl rfl | exact .inr rfl | assumption) : SGw ct X vs (.Name x pos) (gN i) :=
  ⟨_, pg_name hN hi hx hf, fun m F S σ H env d v env' S' Q s en r h q => by
    cases h
    exact q m F _ H (Ext.refl _ _ _) s (en.set i r) (wipe_set hv)⟩
theorem sgws_nil {vs : List Nat} : SGws ct X vs [] gNil := ⟨_, pgs_nil, fun m F S σ H env ds us env' S' Q s en r h q => by
  cases ds with
  | nil =>
    cases h
    exact ⟨r, q m F _ H (Ext.refl _ _ _) s en rfl⟩
  | cons _ _ => cases h⟩
theorem sgws_cons {vs : List Nat} {t : Expr} {ts : List Expr} {g : FG} {gs : FGs} (h1 : SGw ct X vs t g) (h2 : SGws ct X vs ts gs) (hs : (assignEach (t :: ts) X.env).map (·.2) = assign t X.env :: (assignEach ts X.env).map (·.2) := by rfl) : SGws ct X vs (t :: ts) (gCons g gs) := by
  obtain ⟨ta, pa, ra⟩ := h1
  obtain ⟨tb, pb, rb⟩ := h2
  refine ⟨_, pgs_cons pa pb hs, fun m F S σ H env ds us env' S' Q s en r h q => ?_⟩
  cases ds with
  | nil => cases h
  | cons d dr =>
    obtain ⟨⟨env1, S1⟩, h1, h⟩ := bind_some h
    obtain ⟨v, vr, e1, r1, r2⟩ := r
    refine ⟨v, vr, e1, ra m F S σ H env d v env1 S1 _ s en r1 h1 fun m1 F1 σ1 H1 x1 s1 en1 w1 => ?_⟩
    exact rb m1 F1 S1 σ1 H1 env1 dr vr env' S' Q s1 en1 (r2.mono x1) h fun m2 F2 σ2 H2 x2 s2 en2 w2 => q m2 F2 σ2 H2 (x1.trans x2) s2 en2 (w2.trans w1)
theorem sgw_tup {vs : List Nat} {ts : List Expr} {k n : Nat} {gs : FGs} (hc : X.calm = true) (h : SGws ct X vs ts gs) (hn : (assignEach ts X.env).length = n := by rfl) (hst : (assignEach ts X.env).findIdx? (·.1) = none := by rfl) : SGw ct X vs (.Tuple ts k pos) (gTup n gs) := by
  obtain ⟨ta, pa, ra⟩ := h
  refine ⟨_, pg_tup hc pa hn hst, fun m F S σ H env d v env' S' Q s en r h q => ?_⟩
  cases d with
  | tup ds =>
    obtain ⟨a, us, e1, e2, e3⟩ := r
    by_cases hl : ds.length = n
    · have h : (if ds.length = n then gs ds env S else none) = some (env', S') := h
      rw [if_pos hl] at h
      exact ⟨a, us, e1, sqT_mono s.same e2, by rw [← e3.length]; exact hl, ra m F S σ H env ds us env' S' Q s en e3 h q⟩
    · have h : (if ds.length = n then gs ds env S else none) = some (env', S') := h
      rw [if_neg hl] at h
      cases h
  | _ => cases h
end
/-! ## hidden objects -/
section
variable {K : PySem.W.Frag} {ct : CT} {m m' m0 : List Addr} {F F' H H' F0 H0 : Hp} {S : Sto} {L : Addr} {o u : HO}
theorem Ext.hid (x : Ext m F H m' F' H') (h : H L = some o) (n : L ∉ m) (f : F L = none) : H' L = some o ∧ L ∉ m' ∧ F' L = none := by
  refine ⟨x.keep _ _ h n, fun hm => ?_, ?_⟩
  · rcases x.new _ hm with q | q
    · exact n q
    · rw [h] at q; cases q
  · cases e : F' L with
    | none => rfl
    | some z =>
      rcases x.fnew _ _ e with q | q
      · rw [f] at q; cases q
      · rw [h] at q; cases q
theorem Sim.hidden (s : Sim K ct m F S H) (n : L ∉ m) (f : F L = none) (o : HO) : Sim K ct m F S (upd H L o) := by
  refine ⟨fun b z h => ?_, s.len, s.nd, s.off, fun i a c h1 h2 => ?_, s.tab⟩
  · have nb : b ≠ L := fun e => by rw [e, f] at h; cases h
    rw [upd_ne nb]; exact s.same _ _ h
  · have hm : a ∈ m := List.mem_iff_getElem?.mpr ⟨i, h1⟩
    have na : a ≠ L := fun e => n (e ▸ hm)
    rw [upd_ne na]; exact s.cell i a c h1 h2
theorem Ext.put (x : Ext m0 F0 H0 m F H) (h : H0 L = none) (o : HO) : Ext m0 F0 H0 m F (upd H L o) := by
  refine ⟨x.pre, x.same, fun b z q n => ?_, x.new, x.fnew, fun b z q => ?_⟩
  · rw [upd_ne (ne_of_none q h)]; exact x.keep b z q n
  · rw [upd_ne (ne_of_none q h)]; exact x.grow b z q
theorem CellR.mono' {o : Option HO} {c : Cell} (h : CellR K ct m F o c) (hp : ∀ (i : Nat) (a : Addr), m[i]? = some a → m'[i]? = some a) (e : Same F F') : CellR K ct m' F' o c := by
  cases c with
  | lst ds => obtain ⟨vs, e1, e2⟩ := h; exact ⟨vs, e1, Reps.mono' hp e _ _ e2⟩
  | dct kvs => obtain ⟨vs, e1, e2⟩ := h; exact ⟨vs, e1, Paired.mapP e2 fun p q z => ⟨z.1, Rep.mono' hp e _ _ z.2⟩⟩
  | ins c fs ds => obtain ⟨C, dx, vs, e1, e4, e3, e2⟩ := h; exact ⟨C, dx, vs, e1, e4, e3, Reps.mono' hp e _ _ e2⟩
  | tab q => obtain ⟨ps, e1, e2, e3⟩ := h; exact ⟨ps, e1, e2, fun pos cv hc => let ⟨c, z1, z2⟩ := e3 pos cv hc; ⟨c, z1, e _ _ z2⟩⟩
theorem same_upd (f : F L = none) (o : HO) : Same F (upd F L o) := fun b z q => by
  have nb : b ≠ L := fun e => by rw [e, f] at q; cases q
  rw [upd_ne nb]; exact q
theorem Sim.freeze (s : Sim K ct m F S H) (n : L ∉ m) (f : F L = none) (h : H L = some o) : Sim K ct m (upd F L o) S H := by
  refine ⟨fun b z q => ?_, s.len, s.nd, fun a ha => ?_, fun i a c h1 h2 => (s.cell i a c h1 h2).mono' (fun _ _ q => q) (same_upd f o), s.tab⟩
  · by_cases hb : b = L
    · rw [hb, upd_same] at q; rw [hb, h]; exact q
    · rw [upd_ne hb] at q; exact s.same _ _ q
  · have na : a ≠ L := fun e => n (e ▸ ha)
    rw [upd_ne na]; exact s.off a ha
theorem Ext.freeze (x : Ext m0 F0 H0 m F H) (h : H0 L = none) (f : F L = none) (o : HO) : Ext m0 F0 H0 m (upd F L o) H := by
  refine ⟨x.pre, x.same.trans (same_upd f o), x.keep, x.new, fun b z q => ?_, x.grow⟩
  by_cases hb : b = L
  · rw [hb]; exact .inr h
  · rw [upd_ne hb] at q; exact x.fnew b z q
end
/-! ## list comprehensions -/
def lcD (g : FG) (t : FT) (f : FE) (env : DEnv) : List D → Sto → Option (List D × Sto)
  | [], S => some ([], S)
  | x :: xs, S => (g x env S).bind fun p => (t p.1 p.2).bind fun b => if b.1 = true then (f p.1 b.2).bind fun y => (lcD g t f env xs y.2).bind fun r => some (y.1 :: r.1, r.2) else lcD g t f env xs b.2
def fLc (fi : FA) (g : FG) (t : FT) (f : FE) (vs : List Nat) : FE := fun env S => (fi env S).bind fun p => if p.1.length ≤ 1000000 then (lcD g t f (wipeD env vs) p.1 p.2).bind fun r => some (.lst r.1, r.2) else none
section
variable {ct : CT} {X : Cx}
theorem lc_run {fi : FA} {g : FG} {gt : FT} {fe : FE} {wi : TI} {own : List Nat} {m : List Addr} {F H : Hp} {S S' : Sto} {σ : L2.St} {env : DEnv} {d : D} {Q : VK}
    (ri : ∀ m F S σ H env items S' R, Sim X.K ct m F S H → EnvR X.K ct m F env σ → fi env S = some (items, S') → (∀ m' F' J H', Ext m F H m' F' H' → Sim X.K ct m' F' S' H' → ItOk ct X.K m' F' items J → R J H') → wi σ H R)
    (s : Sim X.K ct m F S H) (en : EnvR X.K ct m F env σ) (h : fLc fi g gt fe own env S = some (d, S')) (p : PostE ct X.K m F H S' d Q) :
    tLc wi (tGw ct X.K own g) (tT ct X.K gt) (tE ct X.K fe) own σ H Q := by
  obtain ⟨⟨items, S1⟩, h1, h⟩ := bind_some h
  split at h
  case isFalse => cases h
  rename_i hlen
  have hlen : items.length ≤ 1000000 := hlen
  obtain ⟨⟨out, S9⟩, h2, h⟩ := bind_some h
  cases h
  refine ri m F S σ H env items S1 _ s en h1 fun m1 F1 J H1 x1 s1 ok => fun L hL => ?_
  have nL1 : L ∉ m1 := fun hm => by
    obtain ⟨o, q⟩ := s1.there hm
    rw [hL] at q; cases q
  have fL1 : F1 L = none := by
    cases e : F1 L with
    | none => rfl
    | some o => rw [s1.same _ _ e] at hL; cases hL
  refine ⟨fun i k H' => k = items.length - i ∧ i ≤ items.length ∧ ∃ m' F' S2 accV accD rest, Ext m1 F1 H1 m' F' H' ∧ Sim X.K ct m' F' S2 H' ∧ H' L = some (.lst accV) ∧ L ∉ m' ∧ F' L = none ∧ Reps X.K ct m' F' accD accV ∧ accD.length ≤ i ∧
      lcD g gt fe (wipeD env own) (items.drop i) S2 = some (rest, S9) ∧ out = accD ++ rest,
    ⟨_, rfl, Nat.zero_le _, m1, F1, S1, [], [], out, (Ext.refl _ _ _).put hL _, s1.hidden nL1 fL1 _, upd_same, nL1, fL1, rfl, Nat.le_refl _, h2, rfl⟩, ?_⟩
  rintro i k H' ⟨rfl, hle, m', F', S2, accV, accD, rest, x', s', hH, nL, fL, rp, hal, hlc, eo⟩
  have en' : EnvR X.K ct m' F' (wipeD env own) (wipe σ own) := ((en.mono x1).mono x').wipe own
  have okk : (∀ d, items[i]? = some d → J.go i H' ∧ ∀ x H1, J.yld i H' x H1 → ∃ F1, Ext m' F' H' m' F1 H1 ∧ Sim X.K ct m' F1 S2 H1 ∧ Rep X.K ct m' F1 d x) ∧ (items.length = i → J.stop i H') := ok i m' F' S2 H' x'.e0 s'
  cases hd : items.drop i with
  | nil =>
    rw [hd] at hlc
    cases hlc
    have hl : items.length = i := by
      have := congrArg List.length hd
      simp at this
      omega
    refine .inl ⟨okk.2 hl, p m' (upd F' L (.lst accV)) (.ref L) H' (x1.trans (x'.freeze hL fL _)) (s'.freeze nL fL hH) ⟨L, accV, rfl, upd_same, ?_⟩⟩
    rw [eo, List.append_nil]
    exact Reps.mono' (fun _ _ q => q) (same_upd fL _) _ _ rp
  | cons a r =>
    rw [hd] at hlc
    obtain ⟨q1, q2⟩ := drop_cons hd
    have hlt : i < items.length := (List.getElem?_eq_some_iff.mp q1).1
    obtain ⟨go, yl⟩ := okk.1 a q1
    obtain ⟨⟨env1, S3⟩, h3, hlc⟩ := bind_some hlc
    obtain ⟨⟨b4, S4⟩, h4, hlc⟩ := bind_some hlc
    refine .inr ⟨go, fun H5 => ∃ m5 F5 S5 accV accD rest, Ext m1 F1 H1 m5 F5 H5 ∧ Sim X.K ct m5 F5 S5 H5 ∧ H5 L = some (.lst accV) ∧ L ∉ m5 ∧ F5 L = none ∧ Reps X.K ct m5 F5 accD accV ∧ accD.length ≤ i + 1 ∧
      lcD g gt fe (wipeD env own) (items.drop (i + 1)) S5 = some (rest, S9) ∧ out = accD ++ rest, fun H5 w => ⟨items.length - (i + 1), by omega, rfl, hlt, w⟩, fun x H5 y => ?_⟩
    obtain ⟨F5, x5, s5, r5⟩ := yl x H5 y
    obtain ⟨hH5, nL5, fL5⟩ := x5.hid hH nL fL
    refine ⟨m', F5, S2, wipeD env own, a, env1, S3, s5, en'.mono x5, r5, h3, fun m6 F6 σ6 H6 x6 s6 en6 w6 => ⟨by rw [w6]; exact wipe_idem, ?_⟩⟩
    obtain ⟨hH6, nL6, fL6⟩ := x6.hid hH5 nL5 fL5
    refine ⟨m6, F6, S3, env1, b4, S4, s6, en6, h4, fun m7 F7 H7 x7 s7 => ?_⟩
    obtain ⟨hH7, nL7, fL7⟩ := x7.hid hH6 nL6 fL6
    have xx : Ext m1 F1 H1 m7 F7 H7 := ((x'.trans x5).trans x6).trans x7
    have rp7 : Reps X.K ct m7 F7 accD accV := ((rp.mono x5).mono x6).mono x7
    cases b4 with
    | false =>
      refine iteF ⟨m7, F7, S4, accV, accD, rest, xx, s7, hH7, nL7, fL7, rp7, by omega, ?_, eo⟩
      rw [q2]
      exact hlc
    | true =>
      obtain ⟨⟨y8, S8⟩, h8, hlc⟩ := bind_some (show (fe env1 S4).bind _ = _ from hlc)
      obtain ⟨⟨r9, S10⟩, h9, hlc⟩ := bind_some hlc
      cases hlc
      refine iteT ⟨m7, F7, S4, env1, y8, S8, s7, en6.mono x7, h8, fun m8 F8 v8 H8 x8 s8 r8 => ?_⟩
      obtain ⟨hH8, nL8, fL8⟩ := x8.hid hH7 nL7 fL7
      refine ⟨accV, hH8, ?_, m8, F8, S8, accV ++ [v8], accD ++ [y8], r9, (xx.trans x8).put hL _, s8.hidden nL8 fL8 _, upd_same, nL8, fL8, (rp7.mono x8).snoc r8, by simp; omega, ?_, by rw [eo, List.append_assoc]; rfl⟩
      · rw [← rp.length, line_eq]
        omega
      · rw [q2]
        exact h9
theorem se_lc {elt tg iter : Expr} {ifs : List Expr} {scope : Scope} {own : List (Str × Nat)} {pos : Pos} {fi : FA} {g : FG} {gt : FT} {fe : FE} (hc : X.calm = true) (hN : X.N.Nodup) (hi : SI ct X tg iter fi) (ok : BlkOk X.N X.env.scope scope own)
    (hg : ∀ (s : Shared) (H : Hp) (C : Addr) (cl : List (Str × Addr)) (fp : List Addr), SGw ct (X.blk s H scope (compEnvC scope cl C X.env) fp) (own.map (·.2)) tg g) (ht : ∀ (s : Shared) (H : Hp) (C : Addr) (cl : List (Str × Addr)) (fp : List Addr), STs ct (X.blk s H scope (compEnvC scope cl C X.env) fp) ifs gt)
    (he : ∀ (s : Shared) (H : Hp) (C : Addr) (cl : List (Str × Addr)) (fp : List Addr), SE ct (X.blk s H scope (compEnvC scope cl C X.env) fp) elt fe) (hs : ∀ x, foldedSetIterable iter X.env x = pure x := by intro _; rfl) :
    SE ct X (.ListComp elt [⟨tg, iter, ifs, 0⟩] scope pos) (fLc fi g gt fe (own.map (·.2))) := by
  obtain ⟨wi, pi, ri⟩ := hi
  exact ⟨_, pe_lc (g := tGw ct X.K (own.map (·.2)) g) (tt := tT ct X.K gt) (te := tE ct X.K fe) hc hN pi ok (fun s H C cl fp => (hg s H C cl fp).pg) (fun s H C cl fp => (ht s H C cl fp).pt) (fun s H C cl fp => (he s H C cl fp).pe) hs, fun m F S σ H env d S' Q s en h p => lc_run ri s en h p⟩
theorem ss_setLc {i : Nat} {y : Str} {py : Pos} {elt tg iter : Expr} {ifs : List Expr} {scope : Scope} {own : List (Str × Nat)} {pos spos : Pos} {fi : FA} {g : FG} {gt : FT} {fe : FE} (hc : X.calm = true) (hN : X.N.Nodup) (hy : X.N[i]? = some y) (hyl : X.env.scope.names.lookup y = some .local)
    (hsw : swapsWith (.ListComp elt [⟨tg, iter, ifs, 0⟩] scope pos) (some (.Name y py)) spos.line X.env = pure true) (hi : SI ct X tg iter fi) (ok : BlkOk X.N X.env.scope scope own)
    (hg : ∀ (s : Shared) (H : Hp) (C : Addr) (cl : List (Str × Addr)) (fp : List Addr), SGw ct (X.blk s H scope (compEnvC scope cl C X.env) fp) (own.map (·.2)) tg g) (ht : ∀ (s : Shared) (H : Hp) (C : Addr) (cl : List (Str × Addr)) (fp : List Addr), STs ct (X.blk s H scope (compEnvC scope cl C X.env) fp) ifs gt)
    (he : ∀ (s : Shared) (H : Hp) (C : Addr) (cl : List (Str × Addr)) (fp : List Addr), SE ct (X.blk s H scope (compEnvC scope cl C X.env) fp) elt fe) (hs : ∀ x, foldedSetIterable iter X.env x = pure x := by intro _; rfl) :
    SS ct X (.Assign [.Name y py] (.ListComp elt [⟨tg, iter, ifs, 0⟩] scope pos) spos) (sAsg (fLc fi g gt fe (own.map (·.2))) (gN i)) := by
  obtain ⟨wi, pi, ri⟩ := hi
  refine ⟨_, ps_setLc (g := tGw ct X.K (own.map (·.2)) g) (tt := tT ct X.K gt) (te := tE ct X.K fe) hc hN hy hyl hsw pi ok (fun s H C cl fp => (hg s H C cl fp).pg) (fun s H C cl fp => (ht s H C cl fp).pt) (fun s H C cl fp => (he s H C cl fp).pe) hs, fun m F S σ H env fl S' E s en h p => ?_⟩
  obtain ⟨⟨x, S1⟩, h1, h⟩ := bind_some h
  cases h
  exact lc_run ri s en h1 fun m1 F1 v1 H1 x1 s1 r1 => p m1 F1 _ H1 x1 s1 ((en.mono x1).set i r1)
end
end DL

namespace DL
open PySem PySem.Spec PyProof.Rows L2
/-! ## dicts: cells -/
def valA {α : Type} (kvs : List (Key × α)) (k : Key) : Option α := (kvs.find? fun kv => decide (kv.1 = k)).map (·.2)
def putA {α : Type} (kvs : List (Key × α)) (k : Key) (v : α) : List (Key × α) :=
  if (kvs.any fun kv => decide (kv.1 = k)) = true then kvs.map fun kv => if kv.1 = k then (kv.1, v) else kv else kvs ++ [(k, v)]
def toKey : D → Option Key
  | .int i => some (.inl i)
  | .str x => some (.inr x)
  | _ => none
section
variable {ct : CT} {K : PySem.W.Frag} {m : List Addr} {F : Hp}
abbrev PR (K : PySem.W.Frag) (ct : CT) (m : List Addr) (F : Hp) : List (Key × D) → List (Key × V) → Prop := Paired fun (p : Key × D) (q : Key × V) => p.1 = q.1 ∧ Rep K ct m F p.2 q.2
theorem Rep.key {d : D} {v : V} {k : Key} (r : Rep K ct m F d v) (h : toKey d = some k) : v = kV k := by
  cases d with
  | int i => cases h; exact r
  | str x => cases h; exact r
  | _ => cases h
theorem PR.any {kvs : List (Key × D)} {us : List (Key × V)} (r : PR K ct m F kvs us) (k : Key) : (kvs.any fun kv => decide (kv.1 = k)) = us.any fun kv => decide (kv.1 = k) := by
  induction r with
  | nil => rfl
  | cons h _ ih => simp only [List.any_cons, ih, h.1]
theorem PR.val {kvs : List (Key × D)} {us : List (Key × V)} (r : PR K ct m F kvs us) (k : Key) : (∀ d, valA kvs k = some d → ∃ v, valV us k = some v ∧ Rep K ct m F d v) ∧ (valA kvs k = none → valV us k = none) := by
  induction r with
  | nil => exact ⟨fun d h => (by cases h), fun _ => rfl⟩
  | @cons p q l1 l2 h t ih =>
    by_cases e : p.1 = k
    · have e' : q.1 = k := h.1 ▸ e
      refine ⟨fun d hd => ⟨q.2, valV_pos e', ?_⟩, fun hd => ?_⟩
      · simp [valA, List.find?_cons, e] at hd
        subst hd
        exact h.2
      · simp [valA, List.find?_cons, e] at hd
    · have e' : ¬ q.1 = k := h.1 ▸ e
      have e2 : valA (p :: l1) k = valA l1 k := by simp [valA, List.find?_cons, e]
      rw [e2, valV_neg e']
      exact ih
theorem PR.repl {kvs : List (Key × D)} {us : List (Key × V)} (r : PR K ct m F kvs us) (k : Key) {d : D} {v : V} (rv : Rep K ct m F d v) : PR K ct m F (kvs.map fun kv => if kv.1 = k then (kv.1, d) else kv) (us.map fun kv => if kv.1 = k then (kv.1, v) else kv) := by
  induction r with
  | nil => exact .nil
  | @cons p q l1 l2 h t ih =>
    refine .cons ?_ ih
    by_cases e : p.1 = k
    · have e' : q.1 = k := h.1 ▸ e
      dsimp only
      rw [if_pos e, if_pos e']
      exact ⟨h.1, rv⟩
    · have e' : ¬ q.1 = k := h.1 ▸ e
      dsimp only
      rw [if_neg e, if_neg e']
      exact h
theorem PR.put {kvs : List (Key × D)} {us : List (Key × V)} (r : PR K ct m F kvs us) (k : Key) {d : D} {v : V} (rv : Rep K ct m F d v) : PR K ct m F (putA kvs k d) (putK us k v) := by
  unfold putA putK
  rw [PR.any r k]
  split
  · exact PR.repl r k rv
  · exact Paired.snoc r ⟨rfl, rv⟩
theorem PR.length {kvs : List (Key × D)} {us : List (Key × V)} (r : PR K ct m F kvs us) : kvs.length = us.length := Paired.length r
end
section
variable {ct : CT} {X : Cx} {a b c e o : Expr} {es : List Expr} {fa fb fc f : FE} {fas : FA}
/-- o[k] = v: a list's or a dict's cell -/
def gSetA : D → D → D → Sto → Option Sto
  | .ref k, i, v, S => match S[k]? with
    | some (.lst ds) => match i with
      | .int i => (ixN ds.length i).map fun j => S.set k (.lst (ds.set j v))
      | _ => none
    | some (.dct kvs) => if kvs.length ≤ 1000000 then (toKey i).map fun x => S.set k (.dct (putA kvs x v)) else none
    | _ => none
  | _, _, _, _ => none
def rSetA : TSet := fun o i v H Q => rSetL o i v H Q ∨ ∃ a H', o = .ref a ∧ DPut H a i v H' ∧ Q H'
theorem set_all {k : Nat} (hr : RoomG k X.A) : PSet X rSetA := by
  intro pins s σ H o i v ov iv u Q I r1 r2 r3 h
  rcases h with h | ⟨a, H', rfl, h, q⟩
  · exact set_list pins s σ H o i v ov iv u Q I r1 r2 r3 h
  · cases (show ov = Value.ref a from r1)
    exact d_setItem (hu_of hr.room) I h r2 r3 fun s' I' => ⟨H', I', q⟩
theorem sd_all {K : PySem.W.Frag} : SetD ct K rSetA gSetA := by
  intro m F S H o i v d1 d2 d3 S' Q s r1 r2 r3 h q
  cases d1 with
  | ref k =>
    obtain ⟨a, e1, e2⟩ := r1
    obtain ⟨c, hc, cr⟩ := s.at e1
    cases c with
    | lst ds =>
      cases d2 with
      | int j0 =>
        have h : (ixN ds.length j0).map (fun j => S.set k (.lst (ds.set j d3))) = some S' := by simpa only [gSetA, hc] using h
        obtain ⟨j, h1, h2⟩ := map_some h
        subst h2
        obtain ⟨vs, q1, q2⟩ := cr
        obtain ⟨s2, x2⟩ := s.change e1 (o := .lst (vs.set j v)) (c := .lst (ds.set j d3)) ⟨_, rfl, q2.set j r3⟩
        exact .inl ⟨a, vs, _, j, e2, r2, q1, by rw [← q2.length]; exact h1, q _ _ _ x2 s2⟩
      | _ => simp [gSetA, hc] at h
    | dct kvs =>
      have h : (if kvs.length ≤ 1000000 then (toKey d2).map (fun x => S.set k (.dct (putA kvs x d3))) else none) = some S' := by
        simpa only [gSetA, hc] using h
      split at h
      · rename_i hl
        obtain ⟨x, h1, h2⟩ := map_some h
        subst h2
        obtain ⟨us, q1, q2⟩ := cr
        have ek := r2.key h1
        subst ek
        obtain ⟨s2, x2⟩ := s.change e1 (o := .dK (putK us x v)) (c := .dct (putA kvs x d3)) ⟨_, rfl, PR.put q2 x r3⟩
        exact .inr ⟨a, _, e2, DPut.k q1 (by rw [← PR.length q2, line_eq]; omega), q _ _ _ x2 s2⟩
      · cases h
    | ins _ _ _ => simp [gSetA, hc] at h
    | tab _ =>
      simp [gSetA, hc] at h
  | _ => cases h
/-- {} as a value that stays -/
theorem se_dnewF {pos : Pos} : SE ct X (.Dict [] [] pos) (fC (.dct [] [])) := ⟨_, pe_dnewK, fun m F S σ H env d S' Q s en h p => by
  cases h
  intro q hq
  obtain ⟨s2, x2⟩ := s.frozen hq (.dK [])
  exact p m _ (.ref q) _ x2 s2 ⟨q, [], rfl, upd_same, rfl, rfl⟩⟩
def fNewD : FE := fun _ S => some (.ref S.length, S ++ [.dct []])
theorem se_dnewM {pos : Pos} : SE ct X (.Dict [] [] pos) fNewD := ⟨_, pe_dnewK, fun m F S σ H env d S' Q s en h p => by
  cases h
  intro q hq
  obtain ⟨s2, x2⟩ := s.fresh hq (o := .dK []) (c := .dct []) ⟨[], rfl, .nil⟩
  exact p _ _ (.ref q) _ x2 s2 ⟨q, by rw [← s.len]; simp, rfl⟩⟩
/-- {'a': e, ..}: written text keys -/
def SDs (ct : CT) (X : Cx) (pos : Pos) (keys : List (Option Expr)) (values : List Expr) (ks : List Str) (f : FA) : Prop := ∃ trs, PPs X pos keys values trs ∧ ∀ m F S σ H env ds S' Q, Sim X.K ct m F S H → EnvR X.K ct m F env σ → f env S = some (ds, S') →
  (∀ m' F' vs H', Ext m F H m' F' H' → Sim X.K ct m' F' S' H' → Reps X.K ct m' F' ds vs → ds.length = ks.length → Q ((ks.map V.str).zip vs) H') → tPairs trs σ H Q
theorem sds_nil {pos : Pos} : SDs ct X pos [] [] [] fNil := ⟨_, pps_nil, fun m F S σ H env ds S' Q s en h p => by
  cases h
  exact p m F [] H (Ext.refl _ _ _) s rfl rfl⟩
theorem sds_cons {pos kp : Pos} {k : Str} {j : Nat} {keys : List (Option Expr)} {values : List Expr} {ks : List Str} (he : SE ct X e f) (hr : SDs ct X pos keys values ks fas) : SDs ct X pos (some (.Constant (.str k) j kp) :: keys) (e :: values) (k :: ks) (fCons f fas) := by
  obtain ⟨ta, pa, ra⟩ := he
  obtain ⟨tb, pb, rb⟩ := hr
  refine ⟨_, pps_cons pe_str pa pb, fun m F S σ H env d S' Q s en h p => ?_⟩
  obtain ⟨⟨x, S1⟩, h1, h⟩ := bind_some h
  obtain ⟨⟨ys, S2⟩, h2, h⟩ := bind_some h
  cases h
  refine ra m F S σ H env x S1 _ s en h1 fun m1 F1 v1 H1 x1 s1 r1 => ?_
  refine rb m1 F1 S1 σ H1 env ys S2 _ s1 (en.mono x1) h2 fun m2 F2 v2 H2 x2 s2 r2 hl => ?_
  exact p m2 F2 (v1 :: v2) H2 (x1.trans x2) s2 ⟨v1, v2, rfl, r1.mono x2, r2⟩ (by simp [hl])
def fDisp (ks : List Str) (fas : FA) : FE := fun env S => (fas env S).bind fun p => if ks.length ≤ 15 ∧ ks.Nodup then some (.ref p.2.length, p.2 ++ [.dct ((ks.map Sum.inr).zip p.1)]) else none
theorem merge_nodup : ∀ (more kvs : List (Key × V)), (more.map (·.1)).Nodup → (∀ k ∈ more.map (·.1), valV kvs k = none) → mergeK kvs more = kvs ++ more
  | [], kvs, _, _ => by simp [mergeK]
  | p :: more, kvs, h, hn => by
    have e : putK kvs p.1 p.2 = kvs ++ [p] := putK_new p.2 (hn p.1 (by simp))
    show mergeK (putK kvs p.1 p.2) more = _
    rw [e, merge_nodup more (kvs ++ [p]) (List.nodup_cons.mp h).2, List.append_assoc]
    · rfl
    · intro k hk
      have h1 : k ≠ p.1 := fun q => by
        subst q
        exact (List.nodup_cons.mp h).1 hk
      rw [valV_snoc p.1 k p.2 kvs (hn p.1 (by simp)), if_neg h1]
      exact hn k (by simp [List.mem_map] at hk ⊢; exact .inr hk)
theorem zip_PR {K : PySem.W.Frag} {m : List Addr} {F : Hp} : ∀ {ks : List Key} {ds : List D} {vs : List V}, Reps K ct m F ds vs → PR K ct m F (ks.zip ds) (ks.zip vs)
  | [], _, _, _ => .nil
  | k :: ks, [], _, r => by
    have r : _ = _ := r
    subst r
    exact .nil
  | k :: ks, d :: ds, _, r => by
    obtain ⟨v, vr, e1, e2, e3⟩ := r
    subst e1
    exact .cons ⟨rfl, e2⟩ (zip_PR e3)
theorem zip_kV : ∀ (ks : List Str) (vs : List V), (ks.map V.str).zip vs = (((ks.map Sum.inr : List Key)).zip vs).map fun kv => (kV kv.1, kv.2)
  | [], _ => rfl
  | _ :: _, [] => rfl
  | k :: ks, v :: vs => by
    simp only [List.map_cons, List.zip_cons_cons, zip_kV ks vs]
    rfl
theorem nodup_inr : ∀ {ks : List Str}, ks.Nodup → (ks.map Sum.inr : List Key).Nodup
  | [], _ => by simp
  | k :: ks, h => by
    simp only [List.map_cons, List.nodup_cons]
    refine ⟨fun q => ?_, nodup_inr (List.nodup_cons.mp h).2⟩
    obtain ⟨z, z1, z2⟩ := List.mem_map.mp q
    cases z2
    exact (List.nodup_cons.mp h).1 z1
theorem se_disp {pos : Pos} {keys : List (Option Expr)} {values : List Expr} {ks : List Str} (h : SDs ct X pos keys values ks fas) (hall : keys.all (·.isSome) = true) (hl : keys.length = values.length) (h0 : keys ≠ []) (h16 : keys.length ≤ 15 := by decide) : SE ct X (.Dict keys values pos) (fDisp ks fas) := by
  obtain ⟨trs, pp, rp⟩ := h
  refine ⟨_, pe_disp pp hall hl h0 h16, fun m F S σ H env d S' Q s en h p => ?_⟩
  obtain ⟨⟨xs, S1⟩, h1, h⟩ := bind_some h
  split at h
  case isFalse => cases h
  rename_i hk
  cases h
  intro q hq
  have nq : q ∉ m := fun hm => by
    obtain ⟨o, z⟩ := s.there hm
    rw [hq] at z; cases z
  have fq : F q = none := by
    cases z : F q with
    | none => rfl
    | some o => rw [s.same _ _ z] at hq; cases hq
  refine rp m F S σ (upd H q (.dK [])) env xs S1 _ (s.hidden nq fq _) en h1 fun m1 F1 vs H1 x1 s1 r1 hlen => ?_
  obtain ⟨hH, nq1, fq1⟩ := x1.hid upd_same nq fq
  have x0 : Ext m F H m1 F1 H1 := ((Ext.refl m F H).put hq (.dK [])).trans x1
  refine ⟨hH, (ks.map Sum.inr).zip vs, ?_, by simp [← r1.length, hlen, hk.1], ?_⟩
  · exact zip_kV ks vs
  · have hn : (((ks.map Sum.inr : List Key).zip vs).map (·.1)).Nodup := by
      rw [List.map_fst_zip (by simp [← r1.length, hlen])]
      exact nodup_inr hk.2
    rw [merge_nodup _ [] hn (fun _ _ => rfl), List.nil_append]
    have sq : Sim X.K ct m1 F1 S1 H1 := s1
    have s2 : Sim X.K ct (m1 ++ [q]) F1 (S1 ++ [.dct ((ks.map Sum.inr).zip xs)]) (upd H1 q (.dK ((ks.map Sum.inr).zip vs))) := by
      refine ⟨fun b z h => ?_, by simp [s1.len], ?_, fun a h => ?_, fun i a c h1 h2 => ?_, fun i a c y h1 h2 h3 => ?_⟩
      · have nb : b ≠ q := fun e => by rw [e, fq1] at h; cases h
        rw [upd_ne nb]; exact s1.same _ _ h
      · rw [List.nodup_append]
        exact ⟨s1.nd, by simp, fun a ha b hb e => nq1 (by rw [List.mem_singleton.mp hb] at e; exact e ▸ ha)⟩
      · rcases List.mem_append.mp h with z | z
        · exact s1.off a z
        · rw [List.mem_singleton.mp z]; exact fq1
      · have pre : ∀ (i : Nat) (a : Addr), m1[i]? = some a → (m1 ++ [q])[i]? = some a := fun i a h => by
          rw [List.getElem?_append_left (List.getElem?_eq_some_iff.mp h).1]; exact h
        by_cases hi : i < m1.length
        · rw [List.getElem?_append_left hi] at h1
          rw [List.getElem?_append_left (s1.len ▸ hi)] at h2
          have hm : a ∈ m1 := List.mem_iff_getElem?.mpr ⟨i, h1⟩
          have na : a ≠ q := fun e => nq1 (e ▸ hm)
          rw [upd_ne na]
          exact (s1.cell i a c h1 h2).mono' pre (Same.refl _)
        · rw [List.getElem?_append_right (by omega)] at h1
          rw [List.getElem?_append_right (by have := s1.len; omega)] at h2
          have e0 : i - m1.length = 0 := by
            have := (List.getElem?_eq_some_iff.mp h1).1
            simp at this; omega
          rw [e0] at h1
          rw [← s1.len, e0] at h2
          simp at h1 h2
          subst h1 h2
          rw [upd_same]
          exact ⟨_, rfl, zip_PR (Reps.mono' pre (Same.refl _) _ _ r1)⟩
      · by_cases hi : i < m1.length
        · rw [List.getElem?_append_left hi] at h1
          rw [List.getElem?_append_left (s1.len ▸ hi)] at h2
          exact s1.tab i a c y h1 h2 h3
        · rw [List.getElem?_append_right (by have := s1.len; omega)] at h2
          have := List.mem_of_getElem? h2
          rw [List.mem_singleton.mp this] at h3
          cases h3
    refine p (m1 ++ [q]) F1 (.ref q) _ ⟨fun i a h => ?_, x0.same, fun b z h n => ?_, fun a h => ?_, x0.fnew, fun b z h => ?_⟩ s2 ⟨q, by rw [← s1.len]; simp, rfl⟩
    · have := x0.pre i a h
      rw [List.getElem?_append_left (List.getElem?_eq_some_iff.mp this).1]; exact this
    · rw [upd_ne (ne_of_none h hq)]; exact x0.keep b z h n
    · rcases List.mem_append.mp h with z | z
      · exact x0.new a z
      · rw [List.mem_singleton.mp z]; exact .inr hq
    · rw [upd_ne (ne_of_none h hq)]; exact x0.grow b z h
end
end DL

namespace DL
open PySem PySem.Spec PyProof.Rows L2
section
variable {ct : CT} {X : Cx} {a b c e o k x : Expr} {es : List Expr} {fa fb fc f fd fk fx : FE} {fas : FA}
/-! ## d.get(k, x) of a cell or a dict that stays -/
def kvsOf (d : D) (S : Sto) : Option (List (Key × D)) := match d with
  | .ref i => match S[i]? with
    | some (.dct kvs) => some kvs
    | _ => none
  | .dct ks ds => some (ks.zip ds)
  | _ => none
theorem kvs_at {K : PySem.W.Frag} {m : List Addr} {F H : Hp} {S : Sto} {d : D} {v : V} {kvs : List (Key × D)} (s : Sim K ct m F S H) (r : Rep K ct m F d v) (h : kvsOf d S = some kvs) : ∃ a us, v = .ref a ∧ H a = some (.dK us) ∧ PR K ct m F kvs us := by
  cases d with
  | ref i =>
    obtain ⟨a, e1, e2⟩ := r
    obtain ⟨c, hc, cr⟩ := s.at e1
    cases c with
    | dct kvs' =>
      simp only [kvsOf, hc] at h
      cases h
      obtain ⟨us, q1, q2⟩ := cr
      exact ⟨a, us, e2, q1, q2⟩
    | lst _ => simp [kvsOf, hc] at h
    | ins _ _ _ => simp [kvsOf, hc] at h
    | tab _ => simp [kvsOf, hc] at h
  | dct ks ds =>
    cases h
    obtain ⟨a, vs, e1, e2, e3, e4⟩ := r
    exact ⟨a, _, e1, s.same _ _ e2, zip_PR e4⟩
  | _ => cases h
def fDGet2 (fd fk fx : FE) : FE := fun env S => (fd env S).bind fun p => (kvsOf p.1 p.2).bind fun _ => (fk env p.2).bind fun q => (fx env q.2).bind fun r => (kvsOf p.1 r.2).bind fun kvs => (toKey q.1).map fun x => ((valA kvs x).getD r.1, r.2)
theorem se_dget2 {apos cpos : Pos} {n : Nat} (hr : RoomG n X.A) (ho : SE ct X o fd) (hk : SE ct X k fk) (hx : SE ct X x fx) (m : M2 X o "get" apos k x cpos) : SE ct X (.Call (.Attribute o "get" apos) [k, x] [] cpos) (fDGet2 fd fk fx) := by
  obtain ⟨ta, pa, ra⟩ := ho
  obtain ⟨tb, pb, rb⟩ := hk
  obtain ⟨tc, pc, rc⟩ := hx
  refine ⟨_, pe_dget2 (hu_of hr.room) pa pb pc m, fun m F S σ H env d S' Q s en h p => ?_⟩
  obtain ⟨⟨z, S1⟩, h1, h⟩ := bind_some h
  obtain ⟨kvs0, h0, h⟩ := bind_some h
  obtain ⟨⟨y, S2⟩, h2, h⟩ := bind_some h
  obtain ⟨⟨w, S3⟩, h3, h⟩ := bind_some h
  obtain ⟨kvs, h4, h⟩ := bind_some h
  obtain ⟨key, h5, h6⟩ := map_some h
  cases h6
  refine ra m F S σ H env z S1 _ s en h1 fun m1 F1 v1 H1 x1 s1 r1 => ?_
  obtain ⟨a, us0, e1, e2, _⟩ := kvs_at s1 r1 h0
  refine ⟨a, e1, .inl ⟨us0, .inl e2⟩, ?_⟩
  refine rb m1 F1 S1 σ H1 env y S2 _ s1 (en.mono x1) h2 fun m2 F2 v2 H2 x2 s2 r2 => ?_
  refine rc m2 F2 S2 σ H2 env w S3 _ s2 ((en.mono x1).mono x2) h3 fun m3 F3 v3 H3 x3 s3 r3 => ?_
  obtain ⟨a', us, e1', e2', pr⟩ := kvs_at s3 ((r1.mono x2).mono x3) h4
  subst e1
  cases e1'
  have ek := r2.key h5
  subst ek
  refine ⟨_, DGet.k e2', ?_⟩
  have p3 := ((p.ext x1).ext x2).ext x3
  cases hv : valA kvs key with
  | none =>
    rw [hv] at p3
    rw [(PR.val pr key).2 hv]
    exact p3.now s3 r3
  | some dv =>
    rw [hv] at p3
    obtain ⟨v, q1, q2⟩ := (PR.val pr key).1 dv hv
    rw [q1]
    exact p3.now s3 q2
/-! ## a written dict: text keys, ints -/
structure KD (K : PySem.W.Frag) (w : World) (a : Addr) (tab : List (Str × Int)) : Prop where
  es : ∃ es n, KDict K w a es n
  val : ∀ z, ∃ r, PySem.W.nsIn K a z = some r ∧ RelO ((tab.lookup z).map V.int) r
def fKIn (neg : Bool) (tab : List (Str × Int)) (f : FE) : FE := fun env S => (f env S).bind fun p => match p.1 with
  | .str z => some (.bl (if neg then !(tab.lookup z).isSome else (tab.lookup z).isSome), p.2)
  | _ => none
variable {g : Addr} {tab : List (Str × Int)} {n : Str}
theorem relO_isSome {o : Option V} {u : Option Value} (r : RelO o u) : u.isSome = o.isSome := by
  cases o <;> cases u <;> first | rfl | exact r.elim
theorem se_kin {p pos : Pos} (d : KD X.K X.w g tab) (hg : Gl X n) (hm : X.mg n = some (.ref g)) (he : SE ct X e f) (hd : (n == ("__debug__" : Str)) = false := by decide) : SE ct X (.Compare e [.In] [.Name n p] pos) (fKIn false tab f) := by
  obtain ⟨ta, pa, ra⟩ := he
  obtain ⟨es, k, kd⟩ := d.es
  refine ⟨_, pe_cmpR (op_in_kd kd) pa (pe_glob (v := .ref g) hg hm rfl hd) rfl, fun m F S σ H env d' S' Q s en h p => ?_⟩
  obtain ⟨⟨z, S1⟩, h1, h⟩ := bind_some h
  refine ra m F S σ H env z S1 _ s en h1 fun m1 F1 v1 H1 x1 s1 r1 => ?_
  cases z with
  | str z =>
    cases h
    obtain ⟨r, q1, q2⟩ := d.val z
    refine ⟨z, r, r1, rfl, q1, ?_⟩
    rw [relO_isSome q2, Option.isSome_map]
    exact (p.ext x1).now s1 rfl
  | _ => cases h
theorem se_knotin {p pos : Pos} (d : KD X.K X.w g tab) (hg : Gl X n) (hm : X.mg n = some (.ref g)) (he : SE ct X e f) (hd : (n == ("__debug__" : Str)) = false := by decide) : SE ct X (.Compare e [.NotIn] [.Name n p] pos) (fKIn true tab f) := by
  obtain ⟨ta, pa, ra⟩ := he
  obtain ⟨es, k, kd⟩ := d.es
  refine ⟨_, pe_cmpR (op_notIn_kd kd) pa (pe_glob (v := .ref g) hg hm rfl hd) rfl, fun m F S σ H env d' S' Q s en h p => ?_⟩
  obtain ⟨⟨z, S1⟩, h1, h⟩ := bind_some h
  refine ra m F S σ H env z S1 _ s en h1 fun m1 F1 v1 H1 x1 s1 r1 => ?_
  cases z with
  | str z =>
    cases h
    obtain ⟨r, q1, q2⟩ := d.val z
    refine ⟨z, r, r1, rfl, q1, ?_⟩
    rw [relO_isSome q2, Option.isSome_map]
    exact (p.ext x1).now s1 rfl
  | _ => cases h
theorem st_kin {p pos : Pos} (d : KD X.K X.w g tab) (hg : Gl X n) (hm : X.mg n = some (.ref g)) (he : SE ct X e f) (hd : (n == ("__debug__" : Str)) = false := by decide) : ST ct X (.Compare e [.In] [.Name n p] pos) (fTest (fKIn false tab f)) := by
  obtain ⟨ta, pa, ra⟩ := he
  obtain ⟨es, k, kd⟩ := d.es
  refine ⟨_, pt_cmpR (op_in_kd kd) pa (pe_glob (v := .ref g) hg hm rfl hd) rfl, fun m F S σ H env d' S' Q s en h p => ?_⟩
  obtain ⟨⟨x, S2⟩, h2, h⟩ := bind_some h
  obtain ⟨⟨z, S1⟩, h1, h2⟩ := bind_some h2
  refine ra m F S σ H env z S1 _ s en h1 fun m1 F1 v1 H1 x1 s1 r1 => ?_
  cases z with
  | str z =>
    cases h2
    cases h
    obtain ⟨r, q1, q2⟩ := d.val z
    refine ⟨z, r, r1, rfl, q1, _, rfl, ?_⟩
    rw [relO_isSome q2, Option.isSome_map]
    exact p m1 F1 H1 x1 s1
  | _ => cases h2
theorem st_knotin {p pos : Pos} (d : KD X.K X.w g tab) (hg : Gl X n) (hm : X.mg n = some (.ref g)) (he : SE ct X e f) (hd : (n == ("__debug__" : Str)) = false := by decide) : ST ct X (.Compare e [.NotIn] [.Name n p] pos) (fTest (fKIn true tab f)) := by
  obtain ⟨ta, pa, ra⟩ := he
  obtain ⟨es, k, kd⟩ := d.es
  refine ⟨_, pt_cmpR (op_notIn_kd kd) pa (pe_glob (v := .ref g) hg hm rfl hd) rfl, fun m F S σ H env d' S' Q s en h p => ?_⟩
  obtain ⟨⟨x, S2⟩, h2, h⟩ := bind_some h
  obtain ⟨⟨z, S1⟩, h1, h2⟩ := bind_some h2
  refine ra m F S σ H env z S1 _ s en h1 fun m1 F1 v1 H1 x1 s1 r1 => ?_
  cases z with
  | str z =>
    cases h2
    cases h
    obtain ⟨r, q1, q2⟩ := d.val z
    refine ⟨z, r, r1, rfl, q1, _, rfl, ?_⟩
    rw [relO_isSome q2, Option.isSome_map]
    exact p m1 F1 H1 x1 s1
  | _ => cases h2
def fKIx (tab : List (Str × Int)) (f : FE) : FE := fun env S => (f env S).bind fun p => match p.1 with
  | .str z => (tab.lookup z).map fun i => (.int i, p.2)
  | _ => none
theorem se_kix {p pos : Pos} (d : KD X.K X.w g tab) (hg : Gl X n) (hm : X.mg n = some (.ref g)) (he : SE ct X e f) (hs : PlainIx e) (hd : (n == ("__debug__" : Str)) = false := by decide) : SE ct X (.Subscript (.Name n p) e pos) (fKIx tab f) := by
  obtain ⟨ta, pa, ra⟩ := he
  obtain ⟨es, k, kd⟩ := d.es
  refine ⟨_, pe_ix ix_kdict (pe_glob (v := .ref g) hg hm rfl hd) pa hs, fun m F S σ H env d' S' Q s en h p => ?_⟩
  obtain ⟨⟨z, S1⟩, h1, h⟩ := bind_some h
  refine ra m F S σ H env z S1 _ s en h1 fun m1 F1 v1 H1 x1 s1 r1 => ?_
  cases z with
  | str z =>
    obtain ⟨i, h2, h3⟩ := map_some (show (tab.lookup z).map _ = _ from h)
    cases h3
    obtain ⟨r, q1, q2⟩ := d.val z
    rw [h2] at q2
    obtain ⟨u, q3, q4⟩ := RelO.some_of q2
    subst q3
    exact ⟨g, z, .int i, rfl, r1, ⟨es, k, u, kd.at_, kd.lit, q1, q4⟩, (p.ext x1).now s1 rfl⟩
  | _ => cases h
/-- d.get(e, x) of a written dict -/
def tKGet2 (tab : List (Str × Int)) (ty tx : TE) : TE := fun σ H Q => ty σ H fun y H1 => tx σ H1 fun z H2 => ∃ s, y = .str s ∧ Q (((tab.lookup s).map V.int).getD z) H2
theorem pe_kget2 {ty tx : TE} {p apos cpos : Pos} (d : KD X.K X.w g tab) (hg : Gl X n) (hm : X.mg n = some (.ref g)) (he : PE X k ty) (hf : PE X x tx) (m : M2 X (.Name n p) "get" apos k x cpos) (hd : (n == ("__debug__" : Str)) = false := by decide) :
    PE X (.Call (.Attribute (.Name n p) "get" apos) [k, x] [] cpos) (tKGet2 tab ty tx) := by
  obtain ⟨es, cnt, kd⟩ := d.es
  refine ⟨fun pins s σ H Q I h => ?_⟩
  refine wpAny_Call_method m.base m.few m.line PySem.F.plainAttrs_dict PySem.F.slot_dict_get PySem.F.type_dict_get (ld_glob I hg hm ?_ hd)
  refine ⟨kd_type kd I, fun b q => ?_, ?_⟩
  · cases q
    exact ⟨_, I.kIn _ _ kd.at_, rfl⟩
  rw [m.trees]
  refine Calls.callWith_builtin rfl (Calls.evalArgs_plain (Calls.spliced_cons (thn (he.run pins s σ H _ I h) fun iv s2 ⟨y, H2, I2, ry, q2⟩ =>
    Calls.spliced_cons (thn (hf.run pins s2 σ H2 _ I2 q2) fun fv s3 ⟨z, H3, I3, rz, st, ey, q3⟩ => Calls.spliced_nil ?_))))
  subst ey
  obtain ⟨t, rfl⟩ := ry
  obtain ⟨r, e1, e2⟩ := d.val st
  have hmap := PySem.W.mapOf_K (prog := X.prog) (w := X.w) I3.kIn kd.at_ kd.lit
  refine call_meetsIn PySem.F.slot_dict_get hmap.typeIs PySem.F.entry_dict_get (PySem.F.args_dict_get_3 _ _ _) (meets_dict_get_default (strKind X.prog X.w) g (PySem.strKind_is X.prog X.w st t) kd.low fv) ⟨_, hmap, ?_⟩
  rw [PySem.W.find_K kd.at_ e1]
  exact ⟨_, H3, I3.tok _, e2.getD rz, q3⟩
def fKGet2 (tab : List (Str × Int)) (fk fx : FE) : FE := fun env S => (fk env S).bind fun p => (fx env p.2).bind fun q => match p.1 with
  | .str s => some (((tab.lookup s).map D.int).getD q.1, q.2)
  | _ => none
theorem se_kget2 {p apos cpos : Pos} (d : KD X.K X.w g tab) (hg : Gl X n) (hm : X.mg n = some (.ref g)) (hk : SE ct X k fk) (hx : SE ct X x fx) (m : M2 X (.Name n p) "get" apos k x cpos) (hd : (n == ("__debug__" : Str)) = false := by decide) :
    SE ct X (.Call (.Attribute (.Name n p) "get" apos) [k, x] [] cpos) (fKGet2 tab fk fx) := by
  obtain ⟨tb, pb, rb⟩ := hk
  obtain ⟨tc, pc, rc⟩ := hx
  refine ⟨_, pe_kget2 d hg hm pb pc m hd, fun m F S σ H env d S' Q s en h p => ?_⟩
  obtain ⟨⟨y, S1⟩, h1, h⟩ := bind_some h
  obtain ⟨⟨w, S2⟩, h2, h⟩ := bind_some h
  refine rb m F S σ H env y S1 _ s en h1 fun m1 F1 v1 H1 x1 s1 r1 => ?_
  refine rc m1 F1 S1 σ H1 env w S2 _ s1 (en.mono x1) h2 fun m2 F2 v2 H2 x2 s2 r2 => ?_
  cases y with
  | str st =>
    cases h
    refine ⟨st, r1, ?_⟩
    have p3 := (p.ext x1).ext x2
    cases hv : tab.lookup st with
    | none => simp only [hv] at p3; exact p3.now s2 r2
    | some i => simp only [hv] at p3; exact p3.now s2 rfl
  | _ => cases h
/-! ## methods of texts -/
def fPart (fo fe : FE) : FE := fun env S => (fo env S).bind fun p => match p.1 with
  | .str a => (fe env p.2).bind fun q => match q.1 with
    | .str b => if (b.length == 0) = false ∧ a.length ≤ 16777216 then some (.tup [.str (Txt.partition a b).1, .str (Txt.partition a b).2.1, .str (Txt.partition a b).2.2], q.2) else none
    | _ => none
  | _ => none
theorem se_part {apos pos : Pos} {fo fe : FE} (ho : SE ct X o fo) (he : SE ct X e fe) (hs : starEach [e] X.env = [(false, eval e X.env)] := by rfl) (hbase : attributeBase o "partition" X.env (eval o X.env) = eval o X.env := by rfl) (hline : (apos.endLine == pos.line) = true := by rfl) :
    SE ct X (.Call (.Attribute o "partition" apos) [e] [] pos) (fPart fo fe) := by
  obtain ⟨ta, pa, ra⟩ := ho
  obtain ⟨tb, pb, rb⟩ := he
  refine ⟨_, pe_partition pa pb hs hbase hline, fun m F S σ H env d S' Q s en h p => ?_⟩
  obtain ⟨⟨z, S1⟩, h1, h⟩ := bind_some h
  refine ra m F S σ H env z S1 _ s en h1 fun m1 F1 v1 H1 x1 s1 r1 => ?_
  cases z with
  | str a =>
    obtain ⟨⟨w, S2⟩, h2, h⟩ := bind_some (show (fe env S1).bind _ = _ from h)
    have r1 : v1 = .str a := r1
    refine ⟨⟨a, r1⟩, rb m1 F1 S1 σ H1 env w S2 _ s1 (en.mono x1) h2 fun m2 F2 v2 H2 x2 s2 r2 => ?_⟩
    cases w with
    | str b =>
      have h : (if (b.length == 0) = false ∧ a.length ≤ 16777216 then some (D.tup [.str (Txt.partition a b).1, .str (Txt.partition a b).2.1, .str (Txt.partition a b).2.2], S2) else none) = some (d, S') := h
      split at h
      · rename_i hl
        cases h
        have r2 : v2 = .str b := r2
        refine ⟨a, b, r1, by rw [r2], hl.1, by rw [line_eq]; exact hl.2, fun q hq => ?_⟩
        obtain ⟨s3, x3⟩ := s2.frozen hq (.tup [.str (Txt.partition a b).1, .str (Txt.partition a b).2.1, .str (Txt.partition a b).2.2])
        exact p _ _ (.ref q) _ ((x1.trans x2).trans x3) s3 ⟨q, _, rfl, SqT.of upd_same, ⟨_, _, rfl, rfl, _, _, rfl, rfl, _, _, rfl, rfl, rfl⟩⟩
      · cases h
    | _ => cases h
  | _ => cases h
def fSplit (fo fe : FE) : FE := fun env S => (fo env S).bind fun p => match p.1 with
  | .str a => (fe env p.2).bind fun q => match q.1 with
    | .str b => if (b.length == 0) = false ∧ a.length + 2 ≤ 16777216 then some (.lst ((Txt.split a b).map .str), q.2) else none
    | _ => none
  | _ => none
theorem Reps.strs {K : PySem.W.Frag} {m : List Addr} {F : Hp} (ys : List Str) : Reps K ct m F (ys.map D.str) (ys.map V.str) := by
  induction ys with
  | nil => exact rfl
  | cons n ns ih => exact ⟨_, _, rfl, rfl, ih⟩
theorem se_split {apos pos : Pos} {fo fe : FE} (ho : SE ct X o fo) (he : SE ct X e fe) (hs : starEach [e] X.env = [(false, eval e X.env)] := by rfl) (hbase : attributeBase o "split" X.env (eval o X.env) = eval o X.env := by rfl) (hline : (apos.endLine == pos.line) = true := by rfl) :
    SE ct X (.Call (.Attribute o "split" apos) [e] [] pos) (fSplit fo fe) := by
  obtain ⟨ta, pa, ra⟩ := ho
  obtain ⟨tb, pb, rb⟩ := he
  refine ⟨_, pe_split pa pb hs hbase hline, fun m F S σ H env d S' Q s en h p => ?_⟩
  obtain ⟨⟨z, S1⟩, h1, h⟩ := bind_some h
  refine ra m F S σ H env z S1 _ s en h1 fun m1 F1 v1 H1 x1 s1 r1 => ?_
  cases z with
  | str a =>
    obtain ⟨⟨w, S2⟩, h2, h⟩ := bind_some (show (fe env S1).bind _ = _ from h)
    have r1 : v1 = .str a := r1
    refine ⟨⟨a, r1⟩, rb m1 F1 S1 σ H1 env w S2 _ s1 (en.mono x1) h2 fun m2 F2 v2 H2 x2 s2 r2 => ?_⟩
    cases w with
    | str b =>
      have h : (if (b.length == 0) = false ∧ a.length + 2 ≤ 16777216 then some (D.lst ((Txt.split a b).map .str), S2) else none) = some (d, S') := h
      split at h
      · rename_i hl
        cases h
        have r2 : v2 = .str b := r2
        refine ⟨a, b, r1, by rw [r2], hl.1, by rw [line_eq]; exact hl.2, fun q hq => ?_⟩
        obtain ⟨s3, x3⟩ := s2.frozen hq (.lst ((Txt.split a b).map V.str))
        exact p _ _ (.ref q) _ ((x1.trans x2).trans x3) s3 ⟨q, _, rfl, upd_same, Reps.strs _⟩
      · cases h
    | _ => cases h
  | _ => cases h
/-! ## xs.append(e) of a cell -/
def fAppend (fo fe : FE) : FE := fun env S => (fo env S).bind fun p => match p.1 with
  | .ref k => match p.2[k]? with
    | some (.lst _) => (fe env p.2).bind fun q => match q.2[k]? with
      | some (.lst ds) => if ds.length ≤ 1000000 then some (.non, q.2.set k (.lst (ds ++ [q.1]))) else none
      | _ => none
    | _ => none
  | _ => none
theorem se_append {apos cpos : Pos} {fo fe : FE} (ho : SE ct X o fo) (he : SE ct X e fe) (hbase : attributeBase o "append" X.env (eval o X.env) = eval o X.env := by rfl)
    (hfew : ((backTo cpos (starEach [e] X.env)).all (fun x => !x.1) && (backToKw cpos (keywordEach [] X.env)).all (fun x => x.1.isSome)
      && decide (([e] : List Expr).length + ([] : List Keyword).length + (if ([] : List Keyword).isEmpty then 0 else 1) < 30)) = true := by rfl)
    (hline : (apos.endLine == cpos.line) = true := by rfl) (hs : starEach [e] X.env = (false, eval e X.env) :: starEach [] X.env := by rfl) (hplain : (backTo cpos (starEach [] X.env)).any (·.1) = false := by rfl) :
    SE ct X (.Call (.Attribute o "append" apos) [e] [] cpos) (fAppend fo fe) := by
  obtain ⟨ta, pa, ra⟩ := ho
  obtain ⟨tb, pb, rb⟩ := he
  refine ⟨_, pe_bm PySem.F.plainAttrs_list PySem.F.slot_list_append PySem.F.type_list_append mt_append pa (pa_cons pb pa_nil hs) hbase hfew hline hs hplain, fun m F S σ H env d S' Q s en h p => ?_⟩
  obtain ⟨⟨z, S1⟩, h1, h⟩ := bind_some h
  refine ra m F S σ H env z S1 _ s en h1 fun m1 F1 v1 H1 x1 s1 r1 => ?_
  cases z with
  | ref k =>
    obtain ⟨a, e1, e2⟩ := id r1
    obtain ⟨c1, hc1, cr1⟩ := s1.at e1
    subst e2
    cases c1 with
    | lst ds1 =>
      obtain ⟨vs1, g1, g2⟩ := cr1
      have h : (fe env S1).bind (fun q => match q.2[k]? with
        | some (.lst ds) => if ds.length ≤ 1000000 then some (D.non, q.2.set k (.lst (ds ++ [q.1]))) else none
        | _ => none) = some (d, S') := by simpa only [hc1] using h
      obtain ⟨⟨w, S2⟩, h2, h⟩ := bind_some h
      refine ⟨.inl ⟨rfl, _, SqL.of g1⟩, rb m1 F1 S1 σ H1 env w S2 _ s1 (en.mono x1) h2 fun m2 F2 v2 H2 x2 s2 r2 => ?_⟩
      have e3 := x2.pre _ _ e1
      obtain ⟨c2, hc2, cr2⟩ := s2.at e3
      cases c2 with
      | lst ds2 =>
        have h : (if ds2.length ≤ 1000000 then some (D.non, S2.set k (.lst (ds2 ++ [w]))) else none) = some (d, S') := by simpa only [hc2] using h
        split at h
        · rename_i hl
          cases h
          obtain ⟨vs2, g3, g4⟩ := cr2
          obtain ⟨s3, x3⟩ := s2.change e3 (o := .lst (vs2 ++ [v2])) (c := .lst (ds2 ++ [w])) ⟨_, rfl, g4.snoc r2⟩
          exact ⟨a, vs2, v2, rfl, rfl, g3, by rw [← g4.length, line_eq]; omega, p _ _ .non _ ((x1.trans x2).trans x3) s3 rfl⟩
        · cases h
      | dct _ => simp [hc2] at h
      | ins _ _ _ => simp [hc2] at h
      | tab _ => simp [hc2] at h
    | dct _ => simp [hc1] at h
    | ins _ _ _ => simp [hc1] at h
    | tab _ => simp [hc1] at h
  | _ => cases h
end
/-! ## garbage, freezing -/
mutual
def noRef : D → Bool
  | .ref _ => false
  | .tup ds => noRefs ds
  | .lst ds => noRefs ds
  | .dct _ ds => noRefs ds
  | .obj _ _ ds => noRefs ds
  | .exc _ _ ds => noRefs ds
  | _ => true
def noRefs : List D → Bool
  | [] => true
  | d :: ds => noRef d && noRefs ds
end
section
variable {K : PySem.W.Frag} {ct : CT}
mutual
theorem Rep.noref {m m' : List Addr} {F : Hp} : ∀ (d : D) (v : V), noRef d = true → Rep K ct m F d v → Rep K ct m' F d v
  | .non, _, _, h => h
  | .bl _, _, _, h => h
  | .int _, _, _, h => h
  | .str _, _, _, h => h
  | .scr _, _, _, h => h
  | .tup ds, _, n, h => by
    obtain ⟨a, vs, e1, e2, e3⟩ := h
    exact ⟨a, vs, e1, e2, Reps.noref ds vs n e3⟩
  | .lst ds, _, n, h => by
    obtain ⟨a, vs, e1, e2, e3⟩ := h
    exact ⟨a, vs, e1, e2, Reps.noref ds vs n e3⟩
  | .dct ks ds, _, n, h => by
    obtain ⟨a, vs, e1, e2, e4, e3⟩ := h
    exact ⟨a, vs, e1, e2, e4, Reps.noref ds vs n e3⟩
  | .ref i, _, n, h => by cases n
  | .obj c fs ds, _, n, h => by
    obtain ⟨a, C, dx, vs, e1, e2, e4, e5, e3⟩ := h
    exact ⟨a, C, dx, vs, e1, e2, e4, e5, Reps.noref ds vs n e3⟩
  | .exc c fs ds, _, n, h => by
    obtain ⟨a, C, dx, vs, e1, e2, e4, e6, e5, e3⟩ := h
    exact ⟨a, C, dx, vs, e1, e2, e4, e6, e5, Reps.noref ds vs n e3⟩
theorem Reps.noref {m m' : List Addr} {F : Hp} : ∀ (ds : List D) (vs : List V), noRefs ds = true → Reps K ct m F ds vs → Reps K ct m' F ds vs
  | [], _, _, h => h
  | d :: ds, _, n, h => by
    obtain ⟨v, r, e1, e2, e3⟩ := h
    have n : (noRef d && noRefs ds) = true := n
    simp only [Bool.and_eq_true] at n
    exact ⟨v, r, e1, Rep.noref d v n.1 e2, Reps.noref ds r n.2 e3⟩
end
mutual
theorem Rep.back {m m' : List Addr} {F F' : Hp} (hp : ∀ (i : Nat) (a : Addr), m[i]? = some a → m'[i]? = some a) : ∀ (d : D) (v0 v : V), Rep K ct m F d v0 → Rep K ct m' F' d v → Rep K ct m F' d v
  | .non, _, _, _, h => h
  | .bl _, _, _, _, h => h
  | .int _, _, _, _, h => h
  | .str _, _, _, _, h => h
  | .scr _, _, _, _, h => h
  | .tup ds, _, _, h0, h => by
    obtain ⟨a, vs, e1, e2, e3⟩ := h
    obtain ⟨_, vs0, _, _, e0⟩ := h0
    exact ⟨a, vs, e1, e2, Reps.back hp ds vs0 vs e0 e3⟩
  | .lst ds, _, _, h0, h => by
    obtain ⟨a, vs, e1, e2, e3⟩ := h
    obtain ⟨_, vs0, _, _, e0⟩ := h0
    exact ⟨a, vs, e1, e2, Reps.back hp ds vs0 vs e0 e3⟩
  | .dct ks ds, _, _, h0, h => by
    obtain ⟨a, vs, e1, e2, e4, e3⟩ := h
    obtain ⟨_, vs0, _, _, _, e0⟩ := h0
    exact ⟨a, vs, e1, e2, e4, Reps.back hp ds vs0 vs e0 e3⟩
  | .ref i, _, _, h0, h => by
    obtain ⟨a0, q1, q2⟩ := h0
    obtain ⟨a, q3, q4⟩ := h
    rw [hp i a0 q1] at q3
    cases q3
    exact ⟨a0, q1, q4⟩
  | .obj c fs ds, _, _, h0, h => by
    obtain ⟨a, C, dx, vs, e1, e2, e4, e5, e3⟩ := h
    obtain ⟨_, _, _, vs0, _, _, _, _, e0⟩ := h0
    exact ⟨a, C, dx, vs, e1, e2, e4, e5, Reps.back hp ds vs0 vs e0 e3⟩
  | .exc c fs ds, _, _, h0, h => by
    obtain ⟨a, C, dx, vs, e1, e2, e4, e6, e5, e3⟩ := h
    obtain ⟨_, _, _, vs0, _, _, _, _, _, e0⟩ := h0
    exact ⟨a, C, dx, vs, e1, e2, e4, e6, e5, Reps.back hp ds vs0 vs e0 e3⟩
theorem Reps.back {m m' : List Addr} {F F' : Hp} (hp : ∀ (i : Nat) (a : Addr), m[i]? = some a → m'[i]? = some a) : ∀ (ds : List D) (vs0 vs : List V), Reps K ct m F ds vs0 → Reps K ct m' F' ds vs → Reps K ct m F' ds vs
  | [], _, _, _, h => h
  | d :: ds, _, _, h0, h => by
    obtain ⟨v, r, e1, e2, e3⟩ := h
    obtain ⟨v0, r0, _, g2, g3⟩ := h0
    exact ⟨v, r, e1, Rep.back hp d v0 v g2 e2, Reps.back hp ds r0 r g3 e3⟩
end
def cellFree : Cell → Bool
  | .lst ds => noRefs ds
  | .dct kvs => kvs.all fun kv => noRef kv.2
  | .ins _ _ ds => noRefs ds
  | .tab _ => true
theorem CellR.noref {m m' : List Addr} {F : Hp} {o : Option HO} {c : Cell} (n : cellFree c = true) (h : CellR K ct m F o c) : CellR K ct m' F o c := by
  cases c with
  | lst ds => obtain ⟨vs, e1, e2⟩ := h; exact ⟨vs, e1, Reps.noref _ _ n e2⟩
  | dct kvs =>
    obtain ⟨us, e1, e2⟩ := h
    refine ⟨us, e1, ?_⟩
    replace n : (kvs.all fun kv => noRef kv.2) = true := n
    clear e1
    induction e2 with
    | nil => exact .nil
    | cons hh _ ih =>
      simp only [List.all_cons, Bool.and_eq_true] at n
      exact .cons ⟨hh.1, Rep.noref _ _ n.1 hh.2⟩ (ih n.2)
  | ins c fs ds => obtain ⟨C, dx, vs, e1, e4, e3, e2⟩ := h; exact ⟨C, dx, vs, e1, e4, e3, Reps.noref _ _ n e2⟩
  | tab q => exact h
theorem CellR.back {m m' : List Addr} {F F' : Hp} (hp : ∀ (i : Nat) (a : Addr), m[i]? = some a → m'[i]? = some a) {o o0 : Option HO} {c : Cell} (h0 : CellR K ct m F o0 c) (h : CellR K ct m' F' o c) : CellR K ct m F' o c := by
  cases c with
  | lst ds =>
    obtain ⟨vs, e1, e2⟩ := h
    obtain ⟨vs0, _, e0⟩ := h0
    exact ⟨vs, e1, Reps.back hp _ _ _ e0 e2⟩
  | dct kvs =>
    obtain ⟨us, e1, e2⟩ := h
    obtain ⟨us0, z0, e0⟩ := h0
    refine ⟨us, e1, ?_⟩
    clear e1 z0
    induction e2 generalizing us0 with
    | nil => exact .nil
    | cons hh _ ih =>
      cases e0 with
      | cons g0 g1 => exact .cons ⟨hh.1, Rep.back hp _ _ _ g0.2 hh.2⟩ (ih _ g1)
  | ins c fs ds =>
    obtain ⟨C, dx, vs, e1, e4, e3, e2⟩ := h
    obtain ⟨_, _, vs0, _, _, _, e0⟩ := h0
    exact ⟨C, dx, vs, e1, e4, e3, Reps.back hp _ _ _ e0 e2⟩
  | tab q => exact h
/-- the cells of S, as they stand now: unchanged, or without references -/
def Old (S S1 : Sto) : Prop := S1.length = S.length ∧ ∀ (i : Nat) (c : Cell), S1[i]? = some c → S[i]? = some c ∨ cellFree c = true
theorem Old.refl (S : Sto) : Old S S := ⟨rfl, fun _ _ h => .inl h⟩
/-- what a caller may be told in the place of g's own end: the cells that were made within are dropped; a list's cell among them may be handed back as a list that stays -/
inductive Told (S : Sto) : D × Sto → D × Sto → Prop
  | same (r : D × Sto) : Told S r r
  | drop {d : D} {S1 more : Sto} (h : noRef d = true) (ho : Old S S1) : Told S (d, S1 ++ more) (d, S1)
  | frzL {ds : List D} {S1 more : Sto} {i : Nat} (h : noRefs ds = true) (ho : Old S S1) (hi : more[i]? = some (.lst ds)) : Told S (.ref (S1.length + i), S1 ++ more) (.lst ds, S1)
theorem drop_sim {m m' : List Addr} {F F' H H' : Hp} {S S1 more : Sto} (ho : Old S S1) (s : Sim K ct m F S H) (x : Ext m F H m' F' H') (s' : Sim K ct m' F' (S1 ++ more) H') :
    Sim K ct (m'.take S1.length) F' S1 H' ∧ Ext m F H (m'.take S1.length) F' H' := by
  have hl := s'.len
  rw [List.length_append] at hl
  have sub : ∀ a ∈ m'.take S1.length, a ∈ m' := fun a h => List.mem_of_mem_take h
  have hml : m.length = S1.length := by rw [s.len, ho.1]
  have pre : ∀ (i : Nat) (a : Addr), m[i]? = some a → (m'.take S1.length)[i]? = some a := fun i a h => by
    have hi : i < m.length := (List.getElem?_eq_some_iff.mp h).1
    rw [List.getElem?_take_of_lt (by omega)]
    exact x.pre i a h
  have eqm : m = m'.take S1.length := by
    apply List.ext_getElem?
    intro i
    by_cases hi : i < m.length
    · have h1 : m[i]? = some m[i] := List.getElem?_eq_getElem hi
      rw [h1, pre i _ h1]
    · rw [List.getElem?_eq_none (by omega), List.getElem?_eq_none (by rw [List.length_take]; omega)]
  refine ⟨⟨s'.same, by rw [List.length_take]; omega, s'.nd.sublist (List.take_sublist _ _), fun a h => s'.off a (sub a h), fun i a c h1 h2 => ?_, fun i a c q h1 h2 h3 => ?_⟩, ⟨pre, x.same, x.keep, fun a h => x.new a (sub a h), x.fnew, x.grow⟩⟩
  · have hi : i < S1.length := (List.getElem?_eq_some_iff.mp h2).1
    have h1' : m'[i]? = some a := by rw [List.getElem?_take_of_lt hi] at h1; exact h1
    have cr := s'.cell i a c h1' (by rw [List.getElem?_append_left hi]; exact h2)
    rcases ho.2 i c h2 with q | q
    · rw [← eqm]
      rw [← eqm] at h1
      exact CellR.back x.pre (s.cell i a c h1 q) cr
    · exact cr.noref q
  · have hi : i < S1.length := (List.getElem?_eq_some_iff.mp h2).1
    exact s'.tab i a c q (by rw [List.getElem?_take_of_lt hi] at h1; exact h1) (by rw [List.getElem?_append_left hi]; exact h2) h3
end
section
variable {P : Program} {w : World} {K : PySem.W.Frag} {mg : Str → Option Value} {base : Heap} {ct : CT}
theorem told_ok {k n : Nat} {f : Addr} {fd : FuncData} {ps : List Str} {g g' : FD} (G : FnG P w K mg base k f fd ps (spD K ct n g)) (h : ∀ ds S r', g' ds S = some r' → ∃ r, g ds S = some r ∧ Told S r r') : FnG P w K mg base k f fd ps (spD K ct n g') := by
  refine G.imp fun vs H Q E hs => ?_
  obtain ⟨hl, m, F, S, ds, d', S1, sim, reps, hg, post⟩ := hs
  obtain ⟨⟨d, S'⟩, h1, h2⟩ := h ds S (d', S1) hg
  refine ⟨hl, m, F, S, ds, d, S', sim, reps, h1, ?_⟩
  cases h2 with
  | same => exact post
  | drop hn ho =>
    intro m' F' v H' x s' r
    obtain ⟨s2, x2⟩ := drop_sim ho sim x s'
    exact post _ F' v H' x2 s2 (Rep.noref _ _ hn r)
  | @frzL ds' _ more i hn ho hi =>
    intro m' F' v H' x s' r
    obtain ⟨s2, x2⟩ := drop_sim ho sim x s'
    obtain ⟨L, q1, q2⟩ := r
    subst q2
    have hL : (S1 ++ more)[S1.length + i]? = some (.lst ds') := by
      rw [List.getElem?_append_right (by omega), Nat.add_sub_cancel_left]
      exact hi
    obtain ⟨vs', c1, c2⟩ := s'.cell _ L _ q1 hL
    have mL : L ∈ m' := List.mem_iff_getElem?.mpr ⟨_, q1⟩
    have fL : F' L = none := s'.off L mL
    have nL : L ∉ m'.take S1.length := fun hm => by
      obtain ⟨j, hj⟩ := List.mem_iff_getElem?.mp hm
      have hjl : j < S1.length := by
        have := (List.getElem?_eq_some_iff.mp hj).1
        rw [List.length_take] at this
        omega
      rw [List.getElem?_take_of_lt hjl] at hj
      have := nodup_inj s'.nd hj q1
      omega
    have hH : H L = none := by
      rcases x.new L mL with z | z
      · obtain ⟨j, hj⟩ := List.mem_iff_getElem?.mp z
        exact absurd (List.mem_iff_getElem?.mpr ⟨j, x2.pre j L hj⟩) nL
      · exact z
    exact post _ (upd F' L (.lst vs')) (.ref L) H' (x2.freeze hH fL _) (s2.freeze nL fL c1) ⟨L, vs', rfl, upd_same, Reps.mono' (fun _ _ q => q) (same_upd fL _) _ _ (Reps.noref _ _ hn c2)⟩
end
end DL

namespace DL
open PySem PySem.Spec PyProof.Rows L2
section
variable {ct : CT} {X : Cx} {a b e : Expr} {es : List Expr} {fa fb f : FE} {fas : FA}
/-! ## list(range(n)), list(range(a, b)) -/
def fListR1 (fa : FE) : FE := fun env S => (fa env S).bind fun p => match p.1 with
  | .int n => if okR n = true ∧ n ≤ 16777216 then some (.lst (rangeD 0 n), p.2) else none
  | _ => none
def fListR2 (fa fb : FE) : FE := fun env S => (fa env S).bind fun p => (fb env p.2).bind fun q => match p.1, q.1 with
  | .int i, .int j => if okR i = true ∧ okR j = true ∧ j - i ≤ 16777216 then some (.lst (rangeD i j), q.2) else none
  | _, _ => none
theorem range_reps {K : PySem.W.Frag} {m : List Addr} {F : Hp} (a b : Int) : Reps K ct m F (rangeD a b) (rgV a b) := by
  unfold rangeD rgV
  induction List.range (b - a).toNat with
  | nil => exact rfl
  | cons n ns ih => exact ⟨_, _, rfl, rfl, ih⟩
theorem se_listR1 {p q pos pos' : Pos} (hc : X.calm = true) (hg : Gl X "list") (hm : X.mg "list" = none) (hg2 : Gl X "range") (hm2 : X.mg "range" = none) (ha : SE ct X a fa) (na : starEach [a] X.env = (false, eval a X.env) :: starEach [] X.env := by rfl)
    (nb : starEach [.Call (.Name "range" q) [a] [] pos'] X.env = (false, eval (.Call (.Name "range" q) [a] [] pos') X.env) :: starEach [] X.env := by rfl) : SE ct X (.Call (.Name "list" p) [.Call (.Name "range" q) [a] [] pos'] [] pos) (fListR1 fa) := by
  obtain ⟨ta, pa, ra⟩ := ha
  refine ⟨_, pe_listRg hc hg hm (prg_1 hg2 hm2 pa na) nb, fun m F S σ H env d S' Q s en h p => ?_⟩
  obtain ⟨⟨z, S1⟩, h1, h⟩ := bind_some h
  refine ra m F S σ H env z S1 _ s en h1 fun m1 F1 v1 H1 x1 s1 r1 => ?_
  cases z with
  | int n =>
    have h : (if okR n = true ∧ n ≤ 16777216 then some (D.lst (rangeD 0 n), S1) else none) = some (d, S') := h
    split at h
    · rename_i hn
      cases h
      refine ⟨n, r1, ⟨by decide, by decide, (okR_ok hn.1).1, (okR_ok hn.1).2, ?_⟩, fun q hq => ?_⟩
      · show (n - 0).toNat ≤ 2 ^ 24
        omega
      · obtain ⟨s2, x2⟩ := s1.frozen hq (.lst (rgV 0 n))
        exact p _ _ (.ref q) _ (x1.trans x2) s2 ⟨q, _, rfl, upd_same, range_reps 0 n⟩
    · cases h
  | _ => cases h
theorem se_listR2 {p q pos pos' : Pos} (hc : X.calm = true) (hg : Gl X "list") (hm : X.mg "list" = none) (hg2 : Gl X "range") (hm2 : X.mg "range" = none) (ha : SE ct X a fa) (hb : SE ct X b fb) (na : starEach [a, b] X.env = (false, eval a X.env) :: starEach [b] X.env := by rfl)
    (na2 : starEach [b] X.env = (false, eval b X.env) :: starEach [] X.env := by rfl) (hpp : ((backTo pos' (starEach [b] X.env)).any fun x => x.1) = false := by rfl)
    (nb : starEach [.Call (.Name "range" q) [a, b] [] pos'] X.env = (false, eval (.Call (.Name "range" q) [a, b] [] pos') X.env) :: starEach [] X.env := by rfl) : SE ct X (.Call (.Name "list" p) [.Call (.Name "range" q) [a, b] [] pos'] [] pos) (fListR2 fa fb) := by
  obtain ⟨ta, pa, ra⟩ := ha
  obtain ⟨tb, pb, rb⟩ := hb
  refine ⟨_, pe_listRg hc hg hm (prg_2 hg2 hm2 pa pb na na2 hpp) nb, fun m F S σ H env d S' Q s en h p => ?_⟩
  obtain ⟨⟨z, S1⟩, h1, h⟩ := bind_some h
  obtain ⟨⟨w, S2⟩, h2, h⟩ := bind_some h
  refine ra m F S σ H env z S1 _ s en h1 fun m1 F1 v1 H1 x1 s1 r1 => ?_
  refine rb m1 F1 S1 σ H1 env w S2 _ s1 (en.mono x1) h2 fun m2 F2 v2 H2 x2 s2 r2 => ?_
  cases z with
  | int i =>
    cases w with
    | int j =>
      have h : (if okR i = true ∧ okR j = true ∧ j - i ≤ 16777216 then some (D.lst (rangeD i j), S2) else none) = some (d, S') := h
      split at h
      · rename_i hn
        cases h
        refine ⟨i, j, r1, r2, ⟨(okR_ok hn.1).1, (okR_ok hn.1).2, (okR_ok hn.2.1).1, (okR_ok hn.2.1).2, ?_⟩, fun q hq => ?_⟩
        · show (j - i).toNat ≤ 2 ^ 24
          omega
        · obtain ⟨s3, x3⟩ := s2.frozen hq (.lst (rgV i j))
          exact p _ _ (.ref q) _ ((x1.trans x2).trans x3) s3 ⟨q, _, rfl, upd_same, range_reps i j⟩
      · cases h
    | _ => cases h
  | _ => cases h
end
/-! ## written things by name -/
def KG (w : World) (K : PySem.W.Frag) (mg : Str → Option Value) (n : Str) (tab : List (Str × Int)) : Prop := ∃ g, mg n = some (.ref g) ∧ KD K w g tab
def CG (mg : Str → Option Value) (n : Str) (v : V) : Prop := ∃ u, mg n = some u ∧ RelV v u
section
variable {ct : CT} {X : Cx} {e k x : Expr} {f fk fx : FE} {tab : List (Str × Int)} {n : Str}
theorem se_globC {v : V} {d : D} {pos : Pos} (hg : Gl X n) (c : CG X.mg n v) (hr : ∀ m F, Rep X.K ct m F d v) (hd : (n == ("__debug__" : Str)) = false := by decide) : SE ct X (.Name n pos) (fC d) := by
  obtain ⟨u, h1, h2⟩ := c
  exact se_glob hg h1 h2 hr hd
theorem se_kinG {p pos : Pos} (d : KG X.w X.K X.mg n tab) (hg : Gl X n) (he : SE ct X e f) (hd : (n == ("__debug__" : Str)) = false := by decide) : SE ct X (.Compare e [.In] [.Name n p] pos) (fKIn false tab f) := by
  obtain ⟨g, h1, h2⟩ := d
  exact se_kin h2 hg h1 he hd
theorem se_knotinG {p pos : Pos} (d : KG X.w X.K X.mg n tab) (hg : Gl X n) (he : SE ct X e f) (hd : (n == ("__debug__" : Str)) = false := by decide) : SE ct X (.Compare e [.NotIn] [.Name n p] pos) (fKIn true tab f) := by
  obtain ⟨g, h1, h2⟩ := d
  exact se_knotin h2 hg h1 he hd
theorem st_kinG {p pos : Pos} (d : KG X.w X.K X.mg n tab) (hg : Gl X n) (he : SE ct X e f) (hd : (n == ("__debug__" : Str)) = false := by decide) : ST ct X (.Compare e [.In] [.Name n p] pos) (fTest (fKIn false tab f)) := by
  obtain ⟨g, h1, h2⟩ := d
  exact st_kin h2 hg h1 he hd
theorem st_knotinG {p pos : Pos} (d : KG X.w X.K X.mg n tab) (hg : Gl X n) (he : SE ct X e f) (hd : (n == ("__debug__" : Str)) = false := by decide) : ST ct X (.Compare e [.NotIn] [.Name n p] pos) (fTest (fKIn true tab f)) := by
  obtain ⟨g, h1, h2⟩ := d
  exact st_knotin h2 hg h1 he hd
theorem se_kixG {p pos : Pos} (d : KG X.w X.K X.mg n tab) (hg : Gl X n) (he : SE ct X e f) (hs : PlainIx e) (hd : (n == ("__debug__" : Str)) = false := by decide) : SE ct X (.Subscript (.Name n p) e pos) (fKIx tab f) := by
  obtain ⟨g, h1, h2⟩ := d
  exact se_kix h2 hg h1 he hs hd
theorem se_kget2G {p apos cpos : Pos} (d : KG X.w X.K X.mg n tab) (hg : Gl X n) (hk : SE ct X k fk) (hx : SE ct X x fx) (m : M2 X (.Name n p) "get" apos k x cpos) (hd : (n == ("__debug__" : Str)) = false := by decide) :
    SE ct X (.Call (.Attribute (.Name n p) "get" apos) [k, x] [] cpos) (fKGet2 tab fk fx) := by
  obtain ⟨g, h1, h2⟩ := d
  exact se_kget2 h2 hg h1 hk hx m hd
end
/-! ## defs by name -/
/-- the values of a call by name, in the parameters' order -/
def kwG (idx : List Nat) {α : Type} (vs zs : List α) : List α := vs ++ idx.filterMap fun i => zs[i]?
abbrev KWB := List (List Str × List Nat)
def KwOk (K : PySem.W.Frag) (fd : FuncData) (ps : List Str) (n : Nat) (kwb : KWB) : Prop := ∀ b ∈ kwb, KBn K fd ps n b.1 (kwG b.2) (kwG b.2)
def Callee (P : Program) (w : World) (K : PySem.W.Frag) (mg : Str → Option Value) (base : Heap) (ct : CT) (k : Nat) (x : Str) (n : Nat) (g : FD) (kwb : KWB := []) : Prop :=
  ∃ (f : Addr) (fd : FuncData) (ps : List Str), mg x = some (.ref f) ∧ PySem.W.keepIn K (.ref f) = true ∧ (Binds K fd ps [] ∧ KwOk K fd ps 0 kwb) ∧ FnG P w K mg base k f fd ps (spD K ct n g)
def DefAt (K : PySem.W.Frag) (mg : Str → Option Value) (x : Str) (st : Stmt) (ps : List Str) (kwb : KWB := []) : Prop := ∃ (f : Addr) (fd : FuncData), Fun K x x st f fd ∧ mg x = some (.ref f) ∧ Binds K fd ps [] ∧ KwOk K fd ps 0 kwb
section
variable {P : Program} {w : World} {K : PySem.W.Frag} {mg : Str → Option Value} {base : Heap} {ct : CT}
theorem Callee.mono {j k n : Nat} {x : Str} {g : FD} {kwb : KWB} (c : Callee P w K mg base ct j x n g kwb) (h : j ≤ k) : Callee P w K mg base ct k x n g kwb := by
  obtain ⟨f, fd, ps, h1, h2, h3, h4⟩ := c
  exact ⟨f, fd, ps, h1, h2, h3, h4.mono h⟩
theorem Callee.told {k n : Nat} {x : Str} {g g' : FD} {kwb : KWB} (c : Callee P w K mg base ct k x n g kwb) (h : ∀ ds S r', g' ds S = some r' → ∃ r, g ds S = some r ∧ Told S r r') : Callee P w K mg base ct k x n g' kwb := by
  obtain ⟨f, fd, ps, h1, h2, h3, h4⟩ := c
  exact ⟨f, fd, ps, h1, h2, h3, told_ok h4 h⟩
theorem callee_of {x : Str} {st : Stmt} {N ps : List Str} {k : Nat} {g : FS} {kwb : KWB} (d : DefAt K mg x st ps kwb) (S : FnScope N ps (defScope st))
    (hbody : ∀ (f : Addr) (cdv : Value) (A : Around) (outer : List Env) (s : Shared) (H : Hp) (E : XK), RoomG k (A.deeper (envOfC x (defScope st) s.heap.objs.size f cdv)) →
      SSs ct (cxOf CX0 P w K mg base N x (defScope st) f cdv A outer s H E).nox (defBody st) g) : Callee P w K mg base ct (k + 1) x ps.length (runD N.length g) kwb := by
  obtain ⟨f, fd, F, h1, h3⟩ := d
  exact ⟨f, fd, ps, h1, F.kp, h3, def_ok F S (hbody f)⟩
end
section
variable {ct : CT} {X : Cx} {e : Expr} {es : List Expr} {fas : FA} {x : Str} {p pos : Pos}
theorem se_fn {k n : Nat} {g : FD} {kwb : KWB} (C : Callee X.prog X.w X.K X.mg X.base ct k x n g kwb) (hr : RoomG k X.A) (hg : Gl X x) (ha : SA ct X (e :: es) fas) (hn : ∀ env S ds S', fas env S = some (ds, S') → ds.length = n) (hdb : (x == ("__debug__" : Str)) = false := by decide)
    (he : starEach (e :: es) X.env = (false, eval e X.env) :: starEach es X.env := by rfl) (hpl : (backTo pos (starEach es X.env)).any (·.1) = false := by rfl) : SE ct X (.Call (.Name x p) (e :: es) [] pos) (fCall g fas) := by
  obtain ⟨f, fd, ps, h1, h2, h3, h4⟩ := C
  exact se_call h4 hr hg h1 h2 h3.1 ha hn hdb he hpl
end
end DL

namespace DL
open PySem PySem.Spec PyProof.Rows L2
/-! ## a written dict by its entries -/
def TabOk (P : Params) : List (Str × Int) → List DictEntry → Prop
  | [], [] => True
  | p :: tab, e :: l => (∃ t t', e.key = .str p.1 t ∧ e.hash = PyData.keyHash P p.1 ∧ e.val = .int p.2 t') ∧ TabOk P tab l
  | _, _ => False
theorem TabOk.lit {P : Params} : ∀ {tab : List (Str × Int)} {l : List DictEntry}, TabOk P tab l → PySem.W.KeysLit P l
  | [], [], _ => trivial
  | p :: tab, e :: l, h => ⟨let ⟨t, _, h1, h2, _⟩ := h.1; ⟨p.1, t, h1, h2⟩, TabOk.lit h.2⟩
  | [], _ :: _, h => h.elim
  | _ :: _, [], h => h.elim
theorem TabOk.find {P : Params} (z : Str) : ∀ {tab : List (Str × Int)} {l : List DictEntry}, TabOk P tab l → RelO ((tab.lookup z).map V.int) ((l.find? fun e => e.key.isStr z).map (·.val)) ∧ (l.any fun e => e.refKey) = false
  | [], [], _ => ⟨trivial, rfl⟩
  | p :: tab, e :: l, h => by
    obtain ⟨⟨t, t', h1, h2, h3⟩, h4⟩ := h
    obtain ⟨i1, i2⟩ := TabOk.find z h4
    obtain ⟨k, i⟩ := p
    have hk : e.key.isStr z = (z == k) := by
      rw [h1, PySem.W.isStr_of]
      simp [Value.isStrOf, BEq.comm]
    refine ⟨?_, ?_⟩
    · rw [List.find?_cons, hk, List.lookup_cons]
      cases hz : z == k with
      | true => exact ⟨t', h3⟩
      | false => exact i1
    · rw [List.any_cons, i2]
      have : e.refKey = false := by
        unfold DictEntry.refKey
        rw [h1]
      rw [this]; rfl
  | [], _ :: _, h => h.elim
  | _ :: _, [], h => h.elim
theorem kg_of {w : World} {K : PySem.W.Frag} {mg : Str → Option Value} {n : Str} {tab : List (Str × Int)} {g : Addr} {es : Array DictEntry} {c : Nat} (hm : mg n = some (.ref g)) (hl : K.lookup g = some ⟨.type "dict", none, .dict es c, #[]⟩) (ht : TabOk w.params tab es.toList) (lo : (g == sysModules) = false) : KG w K mg n tab := by
  refine ⟨g, hm, ⟨es, c, hl, ht.lit, lo⟩, fun z => ?_⟩
  obtain ⟨h1, h2⟩ := ht.find z
  unfold PySem.W.nsIn
  rw [hl]
  dsimp only
  cases hf : es.toList.find? (fun e => e.key.isStr z) with
  | some e =>
    rw [hf] at h1
    exact ⟨some e.val, rfl, h1⟩
  | none =>
    rw [hf] at h1
    refine ⟨none, ?_, h1⟩
    simp only [h2]
    rfl
/-- the law's end: the script alone is tracked -/
theorem sp_law {K : PySem.W.Frag} {ct : CT} {g : FD} {H : Hp} {a : Addr} {ns : List Int} {E : XK} (hS : SqL K H a (ns.map V.int)) (h : ∃ S', g [.scr ns] [] = some (.bl true, S')) : spD K ct 1 g [.ref a] H (fun v _ => v = .bl true) E := by
  obtain ⟨S', h⟩ := h
  exact ⟨rfl, [], H, [], [.scr ns], .bl true, S', ⟨Same.refl _, rfl, List.nodup_nil, fun a h => (by cases h), fun i a c h1 h2 => (by simp at h1), fun i a c q h1 => (by simp at h1)⟩, ⟨_, _, rfl, ⟨a, rfl, hS⟩, rfl⟩, h, fun m' F' v H' _ _ r => r⟩
end DL

namespace DL
open PySem PySem.Spec PyProof.Rows L2
/-! ## steps of a run -/
section
variable {env env' : DEnv} {S S1 S2 : Sto} {f1 f2 : FS} {t : FT} {f : FE} {d : D}
theorem seq_nx (h : f1 env S = some (.nx env', S1)) : sSeq f1 f2 env S = f2 env' S1 := by unfold sSeq; rw [h]; rfl
theorem seq_rt (h : f1 env S = some (.rt d, S1)) : sSeq f1 f2 env S = some (.rt d, S1) := by unfold sSeq; rw [h]; rfl
theorem if_t (h : t env S = some (true, S1)) : sIf t f1 f2 env S = f1 env S1 := by unfold sIf; rw [h]; rfl
theorem if_f (h : t env S = some (false, S1)) : sIf t f1 f2 env S = f2 env S1 := by unfold sIf; rw [h]; rfl
theorem ret_of (h : f env S = some (d, S1)) : sRet f env S = some (.rt d, S1) := by unfold sRet; rw [h]; rfl
theorem asg_of {g : FG} (h : f env S = some (d, S1)) (hg : g d env S1 = some (env', S2)) : sAsg f g env S = some (.nx env', S2) := by unfold sAsg; rw [h]; show (g d env S1).map _ = _; rw [hg]; rfl
theorem set_of {i : Nat} (h : f env S = some (d, S1)) : sAsg f (gN i) env S = some (.nx (env.set i (some d)), S1) := by unfold sAsg; rw [h]; rfl
theorem expr_of (h : f env S = some (d, S1)) : sExpr f env S = some (.nx env, S1) := by unfold sExpr; rw [h]; rfl
theorem call_of {g : FD} {fas : FA} {ds : List D} {r : D × Sto} (h : fas env S = some (ds, S1)) (hg : g ds S1 = some r) : fCall g fas env S = some r := by unfold fCall; rw [h]; exact hg
theorem test_of {b : Bool} (h : f env S = some (.bl b, S1)) : fTest f env S = some (b, S1) := by unfold fTest; rw [h]; rfl
theorem run_of {n : Nat} {g : FS} {ds : List D} (h : g (ds.map some ++ List.replicate (n - ds.length) none) S = some (.rt d, S1)) : runD n g ds S = some (d, S1) := by unfold runD; rw [h]; rfl
theorem run_of0 {n : Nat} {g : FS} {ds : List D} (h : g (ds.map some ++ List.replicate (n - ds.length) none) S = some (.nx env', S1)) : runD n g ds S = some (.non, S1) := by unfold runD; rw [h]; rfl
theorem tnot_of {b : Bool} (h : t env S = some (b, S1)) : tNotD t env S = some (!b, S1) := by unfold tNotD; rw [h]; rfl
theorem for_of {fi : FA} {g : FG} {items : List D} {r : Fl × Sto} (h : fi env S = some (items, S1)) (hf : forD g f1 items env S1 = some r) : sFor fi g f1 env S = some r := by unfold sFor; rw [h]; exact hf
theorem if_of {fa fb : FE} {b : Bool} {r : D × Sto} (h : t env S = some (b, S1)) (h2 : (if b = true then fa env S1 else fb env S1) = some r) : fIf t fa fb env S = some r := by unfold fIf; rw [h]; exact h2
theorem bin_of {g : D → D → Sto → Option (D × Sto)} {fa fb : FE} {x y : D} {r : D × Sto} (h1 : fa env S = some (x, S1)) (h2 : fb env S1 = some (y, S2)) (h3 : g x y S2 = some r) : fBin g fa fb env S = some r := by unfold fBin; rw [h1]; show (fb env S1).bind _ = _; rw [h2]; exact h3
theorem chain_of {g g' : D → D → Sto → Option (D × Sto)} {fa fb fc : FE} {x y : D} {b : Bool} {S3 : Sto} (h1 : fa env S = some (x, S1)) (h2 : fb env S1 = some (y, S2)) (h3 : g x y S2 = some (.bl b, S3)) :
    fChain g g' fa fb fc env S = if b = true then (fc env S3).bind (fun w => g' y w.1 w.2) else some (.bl false, S3) := by
  unfold fChain; rw [h1]; show (fb env S1).bind _ = _; rw [h2]; show (g x y S2).bind _ = _; rw [h3]; cases b <;> rfl
theorem or_of {u : FT} {b : Bool} (h : t env S = some (b, S1)) : tOrD t u env S = if b = true then some (true, S1) else u env S1 := by unfold tOrD; rw [h]; rfl
theorem and_of {u : FT} {b : Bool} (h : t env S = some (b, S1)) : tAndD t u env S = if b = true then u env S1 else some (false, S1) := by unfold tAndD; rw [h]; rfl
theorem vor_of {fa fb : FE} {b : Bool} (h : fa env S = some (.bl b, S1)) : fOr fa fb env S = if b = true then some (.bl true, S1) else fb env S1 := by unfold fOr; rw [h]; cases b <;> rfl
theorem vand_of {fa fb : FE} {b : Bool} (h : fa env S = some (.bl b, S1)) : fAnd fa fb env S = if b = true then fb env S1 else some (.bl false, S1) := by unfold fAnd; rw [h]; cases b <;> rfl
theorem cons_of {fs : FA} {x : D} {ys : List D} (h1 : f env S = some (x, S1)) (h2 : fs env S1 = some (ys, S2)) : fCons f fs env S = some (x :: ys, S2) := by unfold fCons; rw [h1]; show (fs env S1).bind _ = _; rw [h2]; rfl
/-! ## loops by an invariant -/
theorem for_inv {g : FG} {body : FS} {items : List D} (I : Nat → DEnv → Sto → Prop) (h0 : I 0 env S)
    (hs : ∀ i d env S, items[i]? = some d → I i env S → ∃ env1 S1 env2 S2, g d env S = some (env1, S1) ∧ body env1 S1 = some (.nx env2, S2) ∧ I (i + 1) env2 S2) : ∃ env' S', forD g body items env S = some (.nx env', S') ∧ I items.length env' S' := by
  suffices h : ∀ (r : List D) (i : Nat) (env : DEnv) (S : Sto), items.drop i = r → I i env S → ∃ env' S', forD g body r env S = some (.nx env', S') ∧ I (i + r.length) env' S' by
    obtain ⟨e1, S1, h1, h2⟩ := h items 0 env S rfl h0
    exact ⟨e1, S1, h1, by simpa using h2⟩
  intro r
  induction r with
  | nil => intro i env S _ hi; exact ⟨env, S, rfl, hi⟩
  | cons d r ih =>
    intro i env S hd hi
    obtain ⟨q1, q2⟩ := drop_cons hd
    obtain ⟨env1, S1, env2, S2, a1, a2, a3⟩ := hs i d env S q1 hi
    obtain ⟨env', S', b1, b2⟩ := ih (i + 1) env2 S2 q2 a3
    refine ⟨env', S', ?_, by rw [List.length_cons, ← Nat.add_assoc, Nat.add_right_comm]; exact b2⟩
    unfold forD
    rw [a1]
    show (body env1 S1).bind _ = _
    rw [a2]
    exact b1
/-- a loop over the items of a list, by membership -/
theorem for_mem {g : FG} {body : FS} {items : List D} (I : DEnv → Sto → Prop) (h0 : I env S)
    (hs : ∀ d ∈ items, ∀ env S, I env S → ∃ env1 S1 env2 S2, g d env S = some (env1, S1) ∧ body env1 S1 = some (.nx env2, S2) ∧ I env2 S2) : ∃ env' S', forD g body items env S = some (.nx env', S') ∧ I env' S' :=
  for_inv (fun _ => I) h0 fun i d env S hi h => hs d (List.mem_of_getElem? hi) env S h
end
/-! ## the last cell of a store -/
theorem get_last (S : Sto) (c : Cell) : (S ++ [c])[S.length]? = some c := by simp
theorem set_last (S : Sto) (c d : Cell) : (S ++ [c]).set S.length d = S ++ [d] := by simp
theorem gset_at (S : Sto) (kvs : List (Key × D)) (x : Str) (v : D) (h : kvs.length ≤ 1000000) : gSetA (.ref S.length) (.str x) v (S ++ [.dct kvs]) = some (S ++ [.dct (putA kvs (.inr x) v)]) := by
  unfold gSetA
  simp only [get_last, set_last, toKey]
  rw [if_pos h]
  rfl
theorem kvs_last (S : Sto) (kvs : List (Key × D)) : kvsOf (.ref S.length) (S ++ [.dct kvs]) = some kvs := by
  unfold kvsOf
  simp only [get_last]
theorem putA_len {α : Type} (kvs : List (Key × α)) (k : Key) (v : α) : (putA kvs k v).length ≤ kvs.length + 1 := by
  unfold putA
  split <;> simp
section
variable {env : DEnv} {S : Sto} {kvs : List (Key × D)} {i : Nat} {e e1 e2 e3 : FE} {v v1 v2 v3 : D} {fk fk1 fk2 fk3 : FE} {a b c : Str}
theorem asg1_at (hi : env[i]? = some (some (.ref S.length))) (hl : kvs.length ≤ 100) (h1 : e env (S ++ [.dct kvs]) = some (v, S ++ [.dct kvs])) (k1 : ∀ S, fk env S = some (.str a, S)) :
    sAsg e (gSub gSetA (fVar i) fk) env (S ++ [.dct kvs]) = some (.nx env, S ++ [.dct (putA kvs (.inr a) v)]) := by
  refine asg_of h1 ?_
  unfold gSub fVar
  simp only [hi, Option.bind_some, k1, gset_at _ _ _ _ (Nat.le_trans hl (by decide)), Option.map_some]
theorem asg2_at (hi : env[i]? = some (some (.ref S.length))) (hl : kvs.length ≤ 100) (h1 : e1 env (S ++ [.dct kvs]) = some (v1, S ++ [.dct kvs])) (h2 : e2 env (S ++ [.dct kvs]) = some (v2, S ++ [.dct kvs]))
    (k1 : ∀ S, fk1 env S = some (.str a, S)) (k2 : ∀ S, fk2 env S = some (.str b, S)) :
    sAsg (fTup (fCons e1 (fCons e2 fNil))) (gTup 2 (gCons (gSub gSetA (fVar i) fk1) (gCons (gSub gSetA (fVar i) fk2) gNil))) env (S ++ [.dct kvs]) = some (.nx env, S ++ [.dct (putA (putA kvs (.inr a) v1) (.inr b) v2)]) := by
  have l1 := putA_len kvs (.inr a) v1
  refine asg_of (d := .tup [v1, v2]) (S1 := S ++ [.dct kvs]) ?_ ?_
  · unfold fTup fCons fNil
    simp only [h1, h2, Option.bind_some, List.length_cons, List.length_nil]
    rfl
  · show (gCons (gSub gSetA (fVar i) fk1) (gCons (gSub gSetA (fVar i) fk2) gNil)) [v1, v2] env (S ++ [.dct kvs]) = _
    unfold gCons gNil gSub fVar
    simp only [hi, Option.bind_some, k1, k2, gset_at _ _ _ _ (show kvs.length ≤ 1000000 by omega), gset_at _ _ _ _ (show (putA kvs (.inr a) v1).length ≤ 1000000 by omega), Option.map_some]
theorem asg3_at (hi : env[i]? = some (some (.ref S.length))) (hl : kvs.length ≤ 100) (h1 : e1 env (S ++ [.dct kvs]) = some (v1, S ++ [.dct kvs])) (h2 : e2 env (S ++ [.dct kvs]) = some (v2, S ++ [.dct kvs])) (h3 : e3 env (S ++ [.dct kvs]) = some (v3, S ++ [.dct kvs]))
    (k1 : ∀ S, fk1 env S = some (.str a, S)) (k2 : ∀ S, fk2 env S = some (.str b, S)) (k3 : ∀ S, fk3 env S = some (.str c, S)) :
    sAsg (fTup (fCons e1 (fCons e2 (fCons e3 fNil)))) (gTup 3 (gCons (gSub gSetA (fVar i) fk1) (gCons (gSub gSetA (fVar i) fk2) (gCons (gSub gSetA (fVar i) fk3) gNil)))) env (S ++ [.dct kvs]) = some (.nx env, S ++ [.dct (putA (putA (putA kvs (.inr a) v1) (.inr b) v2) (.inr c) v3)]) := by
  have l1 := putA_len kvs (.inr a) v1
  have l2 := putA_len (putA kvs (.inr a) v1) (.inr b) v2
  refine asg_of (d := .tup [v1, v2, v3]) (S1 := S ++ [.dct kvs]) ?_ ?_
  · unfold fTup fCons fNil
    simp only [h1, h2, h3, Option.bind_some, List.length_cons, List.length_nil]
    rfl
  · show (gCons (gSub gSetA (fVar i) fk1) (gCons (gSub gSetA (fVar i) fk2) (gCons (gSub gSetA (fVar i) fk3) gNil))) [v1, v2, v3] env (S ++ [.dct kvs]) = _
    unfold gCons gNil gSub fVar
    simp only [hi, Option.bind_some, k1, k2, k3, gset_at _ _ _ _ (show kvs.length ≤ 1000000 by omega), gset_at _ _ _ _ (show (putA kvs (.inr a) v1).length ≤ 1000000 by omega), gset_at _ _ _ _ (show (putA (putA kvs (.inr a) v1) (.inr b) v2).length ≤ 1000000 by omega), Option.map_some]
end
end DL

namespace DL
open PySem PySem.Spec PyProof.Rows L2 TL
/-! ## numbers as texts -/
def numT (n : Nat) : Str := Str.ofString (toString ((n : Nat) : Int))
theorem numT_tl (n : Nat) : (numT n).cps.toList = numL n := tl_num n
theorem numT_len (n : Nat) : (numT n).length = (numL n).length := by
  have := numT_tl n
  unfold Str.length
  rw [← this]
  simp
def DIG : Str := "0123456789"
theorem dig_list : DIG.cps.toList = [48, 49, 50, 51, 52, 53, 54, 55, 56, 57] := by decide +kernel
theorem dig_iff (c : Nat) : decide (c ∈ DIG.cps.toList) = (decide (48 ≤ c) && decide (c ≤ 57)) := by
  rw [dig_list]
  by_cases h : 48 ≤ c ∧ c ≤ 57
  · have : c = 48 ∨ c = 49 ∨ c = 50 ∨ c = 51 ∨ c = 52 ∨ c = 53 ∨ c = 54 ∨ c = 55 ∨ c = 56 ∨ c = 57 := by omega
    rcases this with rfl | rfl | rfl | rfl | rfl | rfl | rfl | rfl | rfl | rfl <;> decide
  · rw [decide_eq_false (by simp; omega)]
    by_cases h1 : 48 ≤ c
    · have h2 : ¬ c ≤ 57 := fun q => h ⟨h1, q⟩
      rw [decide_eq_false h2, Bool.and_false]
    · rw [decide_eq_false h1, Bool.false_and]
theorem notIn_dig (c : Nat) (S : Sto) : gNotIn (.str ⟨#[c]⟩) (.str DIG) S = some (.bl (!(decide (48 ≤ c) && decide (c ≤ 57))), S) := by
  show some (D.bl (!(!(Builtin.Str.occurrences DIG ⟨#[c]⟩ 0 DIG.length 1).isEmpty)), S) = _
  rw [PySem.StrLaws.found_one, dig_iff]
theorem in_dig (c : Nat) (S : Sto) : gIn (.str ⟨#[c]⟩) (.str DIG) S = some (.bl (decide (48 ≤ c) && decide (c ≤ 57)), S) := by
  show some (D.bl (!(Builtin.Str.occurrences DIG ⟨#[c]⟩ 0 DIG.length 1).isEmpty), S) = _
  rw [PySem.StrLaws.found_one, dig_iff]
/-- [sign not in DIGITS for sign in text] -/
theorem lc_notdig {env : DEnv} {i : Nat} (hi : i < env.length) (S : Sto) : ∀ l : List Nat, lcD (gN i) tYesD (fBin gNotIn (fVar i) (fC (.str DIG))) env (l.map fun c => D.str ⟨#[c]⟩) S = some (l.map fun c => D.bl (!(decide (48 ≤ c) && decide (c ≤ 57))), S)
  | [] => rfl
  | c :: l => by
    have e : (env.set i (some (D.str ⟨#[c]⟩)))[i]? = some (some (D.str ⟨#[c]⟩)) := by rw [List.getElem?_set_self hi]
    have ih := lc_notdig hi S l
    simp only [List.map_cons, lcD, gN, tYesD, Option.bind_some, if_true, fBin, fVar, fC, e, notIn_dig, ih]
theorem asBools_map (p : Nat → Bool) : ∀ l : List Nat, asBools (l.map fun c => D.bl (p c)) = some (l.map p)
  | [] => rfl
  | c :: l => by
    show (asBools (l.map fun c => D.bl (p c))).map _ = _
    rw [asBools_map p l]
    rfl
theorem numL_head : ∀ n : Nat, 0 < n → ∃ c r, numL n = c :: r ∧ c ≠ 48 := by
  intro n
  induction n using Nat.strongRecOn with
  | _ n ih =>
    intro hn
    by_cases h : n < 10
    · exact ⟨48 + n, [], numL_lt h, by omega⟩
    · obtain ⟨c, r, e, hc⟩ := ih (n / 10) (by omega) (by omega)
      rw [numL_step (by omega), e]
      exact ⟨c, r ++ [48 + n % 10], rfl, hc⟩
theorem lc_nat (env : DEnv) (f : FE) (x : Str) (S : Sto) (i : Nat) (hf : f env S = some (.str x, S)) (hi : i < env.length) (hx : x.length ≤ 1000000) :
    fLc (iStrD f) (gN i) tYesD (fBin gNotIn (fVar i) (fC (.str DIG))) [i] env S = some (.lst (x.cps.toList.map fun c => D.bl (!(decide (48 ≤ c) && decide (c ≤ 57)))), S) := by
  unfold fLc iStrD
  rw [hf]
  show (if (x.cps.toList.map fun c => D.str ⟨#[c]⟩).length ≤ 1000000 then (lcD _ _ _ (wipeD env [i]) (x.cps.toList.map fun c => D.str ⟨#[c]⟩) S).bind _ else none) = _
  have hl : (x.cps.toList.map fun c => D.str ⟨#[c]⟩).length ≤ 1000000 := by
    rw [List.length_map]
    simpa [Str.length] using hx
  rw [if_pos hl, lc_notdig (by show i < (env.set i none).length; simpa using hi)]
  rfl
end DL

namespace DL
open PySem PySem.Spec PyProof.Rows L2
/-! ## runs, by what holds behind them -/
def R {α : Type} (o : Option (α × Sto)) (P : α → Sto → Prop) : Prop := ∃ a S', o = some (a, S') ∧ P a S'
section
variable {α β : Type} {env : DEnv} {S S1 : Sto} {f1 f2 : FS} {t u : FT} {f fa fb fc : FE} {fas : FA}
theorem R.of {o : Option (α × Sto)} {P : α → Sto → Prop} {a : α} (h : o = some (a, S1)) (p : P a S1) : R o P := ⟨a, S1, h, p⟩
theorem R.imp {o : Option (α × Sto)} {P P' : α → Sto → Prop} (h : R o P) (hp : ∀ a S, P a S → P' a S) : R o P' := by
  obtain ⟨a, S', e, p⟩ := h
  exact ⟨a, S', e, hp _ _ p⟩
theorem R.bind {o : Option (α × Sto)} {k : α × Sto → Option (β × Sto)} {P : β → Sto → Prop} (h : R o fun a S => R (k (a, S)) P) : R (o.bind k) P := by
  obtain ⟨a, S', e, p⟩ := h
  rw [e]
  exact p
theorem R.eq {o : Option (α × Sto)} {a : α} (h : R o fun x S' => x = a ∧ S' = S) : o = some (a, S) := by
  obtain ⟨x, S', e, h1, h2⟩ := h
  rw [e, h1, h2]
def PFl (P : Fl → Sto → Prop) (f2 : FS) : Fl → Sto → Prop
  | .nx env', S1 => R (f2 env' S1) P
  | fl, S1 => P fl S1
theorem r_seq {P : Fl → Sto → Prop} (h : R (f1 env S) (PFl P f2)) : R (sSeq f1 f2 env S) P := by
  obtain ⟨fl, S', e, p⟩ := h
  unfold sSeq
  rw [e]
  cases fl with
  | nx env' => exact p
  | rt d => exact ⟨_, _, rfl, p⟩
  | bk e => exact ⟨_, _, rfl, p⟩
  | ct e => exact ⟨_, _, rfl, p⟩
theorem r_nx {P : Fl → Sto → Prop} {env' : DEnv} (h : f1 env S = some (.nx env', S1)) (k : R (f2 env' S1) P) : R (sSeq f1 f2 env S) P := r_seq (R.of h k)
theorem r_if {P : Fl → Sto → Prop} (h : R (t env S) fun b S1 => if b = true then R (f1 env S1) P else R (f2 env S1) P) : R (sIf t f1 f2 env S) P := by
  obtain ⟨b, S', e, p⟩ := h
  unfold sIf
  rw [e]
  show R (if b = true then f1 env S' else f2 env S') P
  cases b <;> exact p
theorem r_ifT {P : Fl → Sto → Prop} (h : t env S = some (true, S1)) (k : R (f1 env S1) P) : R (sIf t f1 f2 env S) P := r_if (R.of h k)
theorem r_ifF {P : Fl → Sto → Prop} (h : t env S = some (false, S1)) (k : R (f2 env S1) P) : R (sIf t f1 f2 env S) P := r_if (R.of h k)
theorem r_set {P : Fl → Sto → Prop} {i : Nat} (h : R (f env S) fun d S1 => P (.nx (env.set i (some d))) S1) : R (sAsg f (gN i) env S) P := by
  obtain ⟨d, S', e, p⟩ := h
  exact ⟨_, _, set_of e, p⟩
theorem r_ret {P : Fl → Sto → Prop} (h : R (f env S) fun d S1 => P (.rt d) S1) : R (sRet f env S) P := by
  obtain ⟨d, S', e, p⟩ := h
  exact ⟨_, _, ret_of e, p⟩
theorem r_skip {P : Fl → Sto → Prop} (h : P (.nx env) S) : R (sSkip env S) P := ⟨_, _, rfl, h⟩
theorem r_call {P : D → Sto → Prop} {g : FD} {ds : List D} (h : fas env S = some (ds, S1)) (hg : R (g ds S1) P) : R (fCall g fas env S) P := by
  obtain ⟨d, S', e, p⟩ := hg
  exact ⟨_, _, call_of h e, p⟩
theorem r_callA {P : D → Sto → Prop} {g : FD} (h : R (fas env S) fun ds S1 => R (g ds S1) P) : R (fCall g fas env S) P := by
  obtain ⟨ds, S', e, d, S2, e2, p⟩ := h
  exact ⟨_, _, call_of e e2, p⟩
theorem r_nil {P : List D → Sto → Prop} (h : P [] S) : R (fNil env S) P := ⟨_, _, rfl, h⟩
theorem r_cons {P : List D → Sto → Prop} (h : R (f env S) fun d S1 => R (fas env S1) fun ds S2 => P (d :: ds) S2) : R (fCons f fas env S) P := by
  obtain ⟨d, S', e, ds, S2, e2, p⟩ := h
  exact ⟨_, _, cons_of e e2, p⟩
theorem r_bin {P : D → Sto → Prop} {g : D → D → Sto → Option (D × Sto)} (h : R (fa env S) fun x S1 => R (fb env S1) fun y S2 => R (g x y S2) P) : R (fBin g fa fb env S) P := by
  obtain ⟨d, S', e, ds, S2, e2, z, S3, e3, p⟩ := h
  exact ⟨_, _, bin_of e e2 e3, p⟩
theorem r_test {P : Bool → Sto → Prop} (h : R (f env S) fun d S1 => ∃ b, d = .bl b ∧ P b S1) : R (fTest f env S) P := by
  obtain ⟨d, S', e, b, rfl, p⟩ := h
  exact ⟨_, _, test_of e, p⟩
theorem r_not {P : Bool → Sto → Prop} (h : R (t env S) fun b S1 => P (!b) S1) : R (tNotD t env S) P := by
  obtain ⟨d, S', e, p⟩ := h
  exact ⟨_, _, tnot_of e, p⟩
theorem r_and {P : Bool → Sto → Prop} (h : R (t env S) fun b S1 => if b = true then R (u env S1) P else P false S1) : R (tAndD t u env S) P := by
  obtain ⟨b, S', e, p⟩ := h
  rw [R, and_of e]
  cases b with
  | true => exact p
  | false => exact ⟨_, _, rfl, p⟩
theorem r_or {P : Bool → Sto → Prop} (h : R (t env S) fun b S1 => if b = true then P true S1 else R (u env S1) P) : R (tOrD t u env S) P := by
  obtain ⟨b, S', e, p⟩ := h
  rw [R, or_of e]
  cases b with
  | false => exact p
  | true => exact ⟨_, _, rfl, p⟩
theorem r_fif {P : D → Sto → Prop} (h : R (t env S) fun b S1 => if b = true then R (fa env S1) P else R (fb env S1) P) : R (fIf t fa fb env S) P := by
  obtain ⟨b, S', e, p⟩ := h
  unfold fIf
  rw [e]
  show R (if b = true then fa env S' else fb env S') P
  cases b <;> exact p
def PBk (I : DEnv → Sto → Prop) (P : Fl → Sto → Prop) : Fl → Sto → Prop
  | .nx e, S => I e S
  | .ct e, S => I e S
  | .bk e, S => P (.nx e) S
  | .rt d, S => P (.rt d) S
theorem r_forD {P : Fl → Sto → Prop} {g : FG} {body : FS} {items : List D} (I : Nat → DEnv → Sto → Prop) (h0 : I 0 env S)
    (hs : ∀ i d env S, items[i]? = some d → I i env S → R (g d env S) fun env1 S1 => R (body env1 S1) (PBk (I (i + 1)) P)) (hd : ∀ env S, I items.length env S → P (.nx env) S) : R (forD g body items env S) P := by
  suffices h : ∀ (r : List D) (i : Nat) (env : DEnv) (S : Sto), items.drop i = r → i + r.length = items.length → I i env S → R (forD g body r env S) P from h items 0 env S rfl (by simp) h0
  intro r
  induction r with
  | nil =>
    intro i env S hd' hl hi
    have hl : i = items.length := by simpa using hl
    subst hl
    exact ⟨_, _, rfl, hd _ _ hi⟩
  | cons d r ih =>
    intro i env S hd' hl hi
    obtain ⟨q1, q2⟩ := drop_cons hd'
    obtain ⟨env1, S1, e1, fl, S2, e2, p⟩ := hs i d env S q1 hi
    have hl' : i + 1 + r.length = items.length := by
      rw [List.length_cons] at hl
      omega
    unfold forD
    rw [e1]
    show R ((body env1 S1).bind _) P
    rw [e2]
    cases fl with
    | nx e => exact ih (i + 1) e S2 q2 hl' p
    | ct e => exact ih (i + 1) e S2 q2 hl' p
    | bk e => exact ⟨_, _, rfl, p⟩
    | rt d => exact ⟨_, _, rfl, p⟩
theorem r_for {P : Fl → Sto → Prop} {fi : FA} {g : FG} {body : FS} {items : List D} (h : fi env S = some (items, S1)) (I : Nat → DEnv → Sto → Prop) (h0 : I 0 env S1)
    (hs : ∀ i d env S, items[i]? = some d → I i env S → R (g d env S) fun env1 S1 => R (body env1 S1) (PBk (I (i + 1)) P)) (hd : ∀ env S, I items.length env S → P (.nx env) S) : R (sFor fi g body env S) P := by
  obtain ⟨a, S', e, p⟩ := r_forD (P := P) I h0 hs hd
  exact ⟨_, _, for_of h e, p⟩
/-- a loop whose turns keep one word -/
theorem r_forM {P : Fl → Sto → Prop} {fi : FA} {g : FG} {body : FS} {items : List D} (h : fi env S = some (items, S1)) (I : DEnv → Sto → Prop) (h0 : I env S1)
    (hs : ∀ d ∈ items, ∀ env S, I env S → R (g d env S) fun env1 S1 => R (body env1 S1) (PBk I P)) (hd : ∀ env S, I env S → P (.nx env) S) : R (sFor fi g body env S) P :=
  r_for h (fun _ => I) h0 (fun i d env S hi h => hs d (List.mem_of_getElem? hi) env S h) hd
def PRun (P : D → Sto → Prop) : Fl → Sto → Prop
  | .rt d, S => P d S
  | .nx _, S => P .non S
  | _, _ => False
theorem r_run {P : D → Sto → Prop} {n : Nat} {g : FS} {ds : List D} (h : R (g (ds.map some ++ List.replicate (n - ds.length) none) S) (PRun P)) : R (runD n g ds S) P := by
  obtain ⟨fl, S', e, p⟩ := h
  cases fl with
  | rt d => exact ⟨_, _, run_of e, p⟩
  | nx e' => exact ⟨_, _, run_of0 e, p⟩
  | bk _ => exact p.elim
  | ct _ => exact p.elim
theorem r_par {P : Fl → Sto → Prop} {i j : Nat} (h : R (fas env S) fun ds S1 => ∃ v w, ds = [v, w] ∧ P (.nx ((env.set i (some v)).set j (some w))) S1) : R (sPar i j fas env S) P := by
  obtain ⟨ds, S', e, v, w, rfl, p⟩ := h
  refine ⟨_, _, ?_, p⟩
  unfold sPar
  rw [e]
  rfl
theorem r_tup {P : D → Sto → Prop} (h : R (fas env S) fun ds S1 => ds.length ≤ 1000 ∧ P (.tup ds) S1) : R (fTup fas env S) P := by
  obtain ⟨ds, S', e, hl, p⟩ := h
  refine ⟨_, _, ?_, p⟩
  unfold fTup
  rw [e]
  show (if ds.length ≤ 1000 then _ else _) = _
  rw [if_pos hl]
end
end DL

namespace DL
open PySem PySem.Spec PyProof.Rows L2
variable {ct : CT} {X : Cx}
/-! ## a value that is never asked for -/
def fNever : FE := fun _ _ => none
theorem pe_never {e : Expr} : PE X e (fun _ _ _ => False) := ⟨fun _ _ _ _ _ _ h => h.elim⟩
theorem se_never {e : Expr} : SE ct X e fNever := ⟨_, pe_never, fun m F S σ H env d S' Q s en h p => by cases h⟩
/-! ## divmod -/
def cDivmod : FD
  | [.int i, .int j], S => if 0 < j ∧ j.natAbs.log2 < 9000 then some (.tup [.int (i / j), .int (i % j)], S) else none
  | _, _ => none
theorem cd_divmod {K : PySem.W.Frag} : CallD ct K (fun xs H Q => ∃ i j, xs = [.int i, .int j] ∧ CDivP i j ∧ ∀ p, H p = none → Q (.ref p) (upd H p (.tup [.int (i / j), .int (i % j)]))) cDivmod := by
  intro m F S H xs ds d S' Q s r h p
  unfold cDivmod at h
  split at h
  · rename_i i j
    split at h
    · rename_i hc
      cases h
      obtain ⟨v, u, e1, e2, e3⟩ := reps2 r
      have e2 : v = .int i := e2
      have e3 : u = .int j := e3
      subst e2 e3
      refine ⟨i, j, e1, ⟨hc.1, PyProof.noPylong_of_log2 hc.2⟩, fun q hq => ?_⟩
      obtain ⟨s2, x2⟩ := s.frozen hq (.tup [.int (i / j), .int (i % j)])
      exact p m _ (.ref q) _ x2 s2 ⟨q, _, rfl, SqT.of upd_same, ⟨_, _, rfl, rfl, _, _, rfl, rfl, rfl⟩⟩
    · cases h
  · cases h
end DL

namespace DL
open PySem PySem.Spec PyProof.Rows L2
/-! # Objects of the text's own classes: cells -/
/-- a class of the text, by its name -/
structure Klass (K : PySem.W.Frag) (ct : CT) (c : Str) (C : Addr) : Prop where
  at_ : ct c = some C
  cls : Cls K C
def getF : List Str → List D → Str → Option D
  | f :: fs, d :: ds, x => if f = x then some d else getF fs ds x
  | _, _, _ => none
def hasF (fs : List Str) (x : Str) : Bool := fs.any fun f => decide (f = x)
def putN : List Str → Str → List Str
  | [], x => [x]
  | f :: fs, x => if f = x then f :: fs else f :: putN fs x
def putD : List Str → List D → Str → D → List D
  | f :: fs, d :: ds, x, y => if f = x then y :: ds else d :: putD fs ds x y
  | _, _, _, y => [y]
section
variable {K : PySem.W.Frag} {ct : CT} {m : List Addr} {F : Hp}
theorem getF_rep : ∀ {fs : List Str} {ds : List D} {vs : List V} {x : Str} {d : D}, Reps K ct m F ds vs → getF fs ds x = some d → ∃ v, (fs.zip vs).lookup x = some v ∧ Rep K ct m F d v
  | [], _, _, _, _, _, h => by cases h
  | _ :: _, [], _, _, _, _, h => by cases h
  | f :: fs, d' :: ds, vs, x, d, r, h => by
    obtain ⟨v, rest, rfl, r1, r2⟩ := r
    unfold getF at h
    by_cases e : f = x
    · rw [if_pos e] at h
      cases h
      subst e
      exact ⟨v, by simp [List.lookup], r1⟩
    · rw [if_neg e] at h
      obtain ⟨v2, h1, h2⟩ := getF_rep r2 h
      refine ⟨v2, ?_, h2⟩
      have : (x == f) = false := beq_eq_false_iff_ne.mpr fun q => e q.symm
      simp only [List.zip_cons_cons, List.lookup, this]
      exact h1
theorem hasF_none : ∀ {fs : List Str} {vs : List V} {x : Str}, hasF fs x = false → (fs.zip vs).lookup x = none
  | [], _, _, _ => by simp
  | _ :: _, [], _, _ => by simp
  | f :: fs, v :: vs, x, h => by
    unfold hasF at h
    rw [List.any_cons, Bool.or_eq_false_iff] at h
    have e : f ≠ x := of_decide_eq_false h.1
    have : (x == f) = false := beq_eq_false_iff_ne.mpr fun q => e q.symm
    simp only [List.zip_cons_cons, List.lookup, this]
    exact hasF_none h.2
theorem put_rep : ∀ {fs : List Str} {ds : List D} {vs : List V} {x : Str} {y : D} {v : V}, fs.length = vs.length → Reps K ct m F ds vs → Rep K ct m F y v → ∃ us, putF x v (fs.zip vs) = (putN fs x).zip us ∧ (putN fs x).length = us.length ∧ Reps K ct m F (putD fs ds x y) us
  | [], ds, vs, x, y, v, hl, r, ry => by
    cases vs with
    | nil =>
      refine ⟨[v], rfl, rfl, ?_⟩
      cases ds <;> exact ⟨v, [], rfl, ry, rfl⟩
    | cons _ _ => cases hl
  | f :: fs, ds, vs, x, y, v, hl, r, ry => by
    cases vs with
    | nil => cases hl
    | cons u vs =>
      cases ds with
      | nil => cases (show _ = _ from r)
      | cons d ds =>
        obtain ⟨u', rest, e, r1, r2⟩ := r
        cases e
        unfold putN putD
        rw [List.zip_cons_cons, show putF x v ((f, u) :: fs.zip vs) = (if f = x then (f, v) :: fs.zip vs else (f, u) :: putF x v (fs.zip vs)) from rfl]
        by_cases e : f = x
        · rw [if_pos e, if_pos e, if_pos e]
          exact ⟨v :: vs, rfl, by simpa using hl, ⟨v, vs, rfl, ry, r2⟩⟩
        · rw [if_neg e, if_neg e, if_neg e]
          obtain ⟨us, h1, h2, h3⟩ := put_rep (x := x) (by simpa using hl) r2 ry
          exact ⟨u :: us, by rw [h1, List.zip_cons_cons], by simpa using h2, ⟨u, us, rfl, r1, h3⟩⟩
end
/-- the object at hand: its class, its fields -/
def insOf (c : Str) : D → Sto → Option (List Str × List D)
  | .ref i, S => match S[i]? with
    | some (.ins c' fs ds) => if c' = c then some (fs, ds) else none
    | _ => none
  | .obj c' fs ds, _ => if c' = c then some (fs, ds) else none
  | _, _ => none
section
variable {ct : CT} {X : Cx} {C : Addr} {c : Str}
theorem insOf_rep {m : List Addr} {F : Hp} {S : Sto} {H : Hp} {d : D} {v : V} {fs : List Str} {ds : List D} (kc : Klass X.K ct c C) (s : Sim X.K ct m F S H) (r : Rep X.K ct m F d v) (h : insOf c d S = some (fs, ds)) :
    ∃ a dx vs, v = .ref a ∧ H a = some (.ins C dx (fs.zip vs)) ∧ fs.length = vs.length ∧ Reps X.K ct m F ds vs := by
  cases d with
  | ref i =>
    obtain ⟨a, h1, h2⟩ := r
    unfold insOf at h
    dsimp only at h
    split at h
    · rename_i c' fs' ds' hc
      split at h
      · rename_i e
        subst e
        cases h
        obtain ⟨C', dx, vs, e1, e2, e3, e4⟩ := s.cell i a _ h1 hc
        rw [kc.at_] at e2
        cases e2
        exact ⟨a, dx, vs, h2, e1, e3, e4⟩
      · cases h
    · cases h
  | obj c' fs' ds' =>
    unfold insOf at h
    dsimp only at h
    split at h
    · rename_i e
      subst e
      cases h
      obtain ⟨a, C', dx, vs, e0, e2, e1, e3, e4⟩ := r
      rw [kc.at_] at e2
      cases e2
      exact ⟨a, dx, vs, e0, s.same _ _ e1, e3, e4⟩
    · cases h
  | _ => cases h
variable {e o value : Expr} {es : List Expr} {fe fo fv : FE} {fas : FA} {pos pos' apos : Pos} {f : Str}
/-! ## a field -/
def fFld (c f : Str) (fe : FE) : FE := fun env S => (fe env S).bind fun p => (insOf c p.1 p.2).bind fun q => (getF q.1 q.2 f).map fun d => (d, p.2)
theorem se_fld (kc : Klass X.K ct c C) (na : NoAttr X.K C f) (he : SE ct X e fe) (hb : attributeBase e f X.env (eval e X.env) = eval e X.env := by rfl) : SE ct X (.Attribute e f pos) (fFld c f fe) := by
  obtain ⟨ta, pa, ra⟩ := he
  refine ⟨_, pe_fld pa hb, fun m F S σ H env d S' Q s en h p => ?_⟩
  obtain ⟨⟨z, S1⟩, h1, h⟩ := bind_some h
  obtain ⟨⟨fs, ds⟩, h2, h⟩ := bind_some h
  obtain ⟨d', h3, h4⟩ := map_some h
  cases h4
  refine ra m F S σ H env z S1 _ s en h1 fun m1 F1 v1 H1 x1 s1 r1 => ?_
  obtain ⟨a, dx, vs, e1, e2, e3, e4⟩ := insOf_rep kc s1 r1 h2
  obtain ⟨v, e5, e6⟩ := getF_rep e4 h3
  exact ⟨a, C, dx, _, v, e1, e2, kc.cls, na, e5, p m1 F1 v H1 x1 s1 e6⟩
/-- e.f = value, of an object at hand as a cell -/
def sFldD (c f : Str) (fo fv : FE) : FS := fun env S => (fv env S).bind fun p => (fo env p.2).bind fun q => match q.1 with
  | .ref i => match q.2[i]? with
    | some (.ins c' fs ds) => if c' = c ∧ fs.length < 900 then some (.nx env, q.2.set i (.ins c (putN fs f) (putD fs ds f p.1))) else none
    | _ => none
  | _ => none
theorem ss_fld (kc : Klass X.K ct c C) (na : NoAttr X.K C f) (ho : SE ct X o fo) (hv : SE ct X value fv) (hs : swapsWith value (some (.Attribute o f pos')) pos.line X.env = pure false := by rfl) : SS ct X (.Assign [.Attribute o f pos'] value pos) (sFldD c f fo fv) := by
  obtain ⟨ta, pa, ra⟩ := ho
  obtain ⟨tv, pv, rv⟩ := hv
  refine ⟨_, ps_fld pa pv hs, fun m F S σ H env fl S' E s en h p => ?_⟩
  obtain ⟨⟨y, S1⟩, h1, h⟩ := bind_some h
  obtain ⟨⟨z, S2⟩, h2, h⟩ := bind_some h
  refine rv m F S σ H env y S1 _ s en h1 fun m1 F1 v1 H1 x1 s1 r1 => ?_
  refine ra m1 F1 S1 σ H1 env z S2 _ s1 (en.mono x1) h2 fun m2 F2 v2 H2 x2 s2 r2 => ?_
  cases z with
  | ref i =>
    obtain ⟨a, e1, e2⟩ := r2
    dsimp only at h
    split at h
    · rename_i c' fs ds hc
      split at h
      · rename_i hcc
        obtain ⟨rfl, hlt⟩ := hcc
        cases h
        obtain ⟨C', dx, vs, q1, q2, q3, q4⟩ := s2.cell i a _ e1 hc
        rw [kc.at_] at q2
        cases q2
        obtain ⟨us, w1, w2, w3⟩ := put_rep (x := f) q3 q4 (r1.mono x2)
        refine ⟨a, C, dx, _, e2, q1, kc.cls, na, by rw [List.length_zip, ← q3]; omega, ?_⟩
        obtain ⟨s3, x3⟩ := s2.change e1 (o := .ins C dx (putF f v1 (fs.zip vs))) (c := .ins c' (putN fs f) (putD fs ds f y)) ⟨C, dx, us, by rw [w1], kc.at_, w2, w3⟩
        exact p _ _ σ _ ((x1.trans x2).trans x3) s3 ((en.mono (x1.trans x2)).mono x3)
      · cases h
    · cases h
  | _ => cases h
/-! ## a method -/
def CalleeM (P : Program) (w : World) (K : PySem.W.Frag) (mg : Str → Option Value) (base : Heap) (ct : CT) (k : Nat) (C : Addr) (x : Str) (n : Nat) (g : FD) (kwb : KWB := []) : Prop :=
  ∃ (f : Addr) (fd : FuncData) (ps : List Str), Meth K C x f ∧ (Binds K fd ps [] ∧ KwOk K fd ps 1 kwb) ∧ FnG P w K mg base k f fd ps (spD K ct n g)
theorem CalleeM.mono {P : Program} {w : World} {K : PySem.W.Frag} {mg : Str → Option Value} {base : Heap} {j k n : Nat} {x : Str} {g : FD} {kwb : KWB} (c : CalleeM P w K mg base ct j C x n g kwb) (h : j ≤ k) : CalleeM P w K mg base ct k C x n g kwb := by
  obtain ⟨f, fd, ps, h1, h3, h4⟩ := c
  exact ⟨f, fd, ps, h1, h3, h4.mono h⟩
def fMeth (c x : Str) (g : FD) (fo : FE) (fas : FA) : FE := fun env S => (fo env S).bind fun p => (insOf c p.1 p.2).bind fun q => if hasF q.1 x = false then (fas env p.2).bind fun r => g (p.1 :: r.1) r.2 else none
theorem se_meth {pl : Sem Bool} {k n : Nat} {x : Str} {g : FD} {kwb : KWB} (kc : Klass X.K ct c C) (M : CalleeM X.prog X.w X.K X.mg X.base ct k C x (n + 1) g kwb) (hr : RoomG k X.A) (ho : SE ct X o fo) (ha : SA ct X (e :: es) fas) (hn : ∀ env S ds S', fas env S = some (ds, S') → ds.length = n)
    (hst : starEach (e :: es) X.env = (false, eval e X.env) :: starEach es X.env := by rfl) (hpl : (backTo pos (starEach es X.env)).any (·.1) = false := by rfl)
    (ht : eval (.Call (.Attribute o x apos) (e :: es) [] pos) X.env = (eval o X.env >>= fun ov => standAt apos.atName >>= fun _ => holding [ov] (getMethod ov x pl) >>= fun q =>
      callWith pos q.1 q.2 (backTo pos (starEach (e :: es) X.env)) (backToKw pos (keywordEach [] X.env))) := by rfl) : SE ct X (.Call (.Attribute o x apos) (e :: es) [] pos) (fMeth c x g fo fas) := by
  obtain ⟨f, fd, ps, me, bi, fn⟩ := M
  obtain ⟨ta, pa, ra⟩ := ho
  obtain ⟨tb, pb, rb⟩ := ha
  refine ⟨_, pe_methG (E := fun _ _ _ => False) pa kc.cls me fn hr bi.1 .nil pb hst hpl ht, fun m F S σ H env d S' Q s en h p => ?_⟩
  obtain ⟨⟨z, S1⟩, h1, h⟩ := bind_some h
  obtain ⟨⟨fs, ds⟩, h2, h⟩ := bind_some h
  dsimp only at h
  split at h
  · rename_i hh
    obtain ⟨⟨xs, S2⟩, h3, h⟩ := bind_some h
    refine ra m F S σ H env z S1 _ s en h1 fun m1 F1 v1 H1 x1 s1 r1 => ?_
    obtain ⟨a, dx, vs, e1, e2, e3, e4⟩ := insOf_rep kc s1 r1 h2
    refine ⟨a, dx, _, e1, e2, hasF_none hh, ?_⟩
    refine rb m1 F1 S1 σ H1 env xs S2 _ s1 (en.mono x1) h3 fun m2 F2 us H2 x2 s2 r2 => ?_
    rw [List.append_nil]
    exact ⟨by rw [List.length_cons, ← r2.length, hn _ _ _ _ h3], m2, F2, S2, z :: xs, d, S', s2, ⟨v1, us, rfl, r1.mono x2, r2⟩, h, p.ext (x1.trans x2)⟩
  · cases h
/-! ## a new object -/
def MakeAt (P : Program) (w : World) (K : PySem.W.Frag) (mg : Str → Option Value) (base : Heap) (ct : CT) (k : Nat) (x : Str) (dds : List D) (n : Nat) (g : FD) : Prop :=
  ∃ (C f : Addr) (fd : FuncData) (ps : List Str) (ds : List Value) (dvs : List V), mg x = some (.ref C) ∧ ct x = some C ∧ Mk K C f ∧ Binds K fd ps ds ∧ Vals dvs ds ∧ (∀ m F, Reps K ct m F dds dvs) ∧ FnG P w K mg base k f fd ps (spD K ct n g)
theorem MakeAt.mono {P : Program} {w : World} {K : PySem.W.Frag} {mg : Str → Option Value} {base : Heap} {j k n : Nat} {x : Str} {dds : List D} {g : FD} (c : MakeAt P w K mg base ct j x dds n g) (h : j ≤ k) : MakeAt P w K mg base ct k x dds n g := by
  obtain ⟨C, f, fd, ps, ds, dvs, h1, h2, h3, h4, h5, h6, h7⟩ := c
  exact ⟨C, f, fd, ps, ds, dvs, h1, h2, h3, h4, h5, h6, h7.mono h⟩
def fMake (c : Str) (g : FD) (dds : List D) (fas : FA) : FE := fun env S => (fas env S).bind fun p => (g (.ref p.2.length :: (p.1 ++ dds)) (p.2 ++ [.ins c [] []])).bind fun q => match q.1 with
  | .non => some (.ref p.2.length, q.2)
  | _ => none
theorem se_make {k n : Nat} {x : Str} {dds : List D} {g : FD} {np : Pos} (M : MakeAt X.prog X.w X.K X.mg X.base ct k x dds (n + dds.length + 1) g) (hr : RoomG (k + 1) X.A) (hg : Gl X x) (ha : SA ct X (e :: es) fas) (hn : ∀ env S ds S', fas env S = some (ds, S') → ds.length = n) (hdb : (x == ("__debug__" : Str)) = false := by decide)
    (he : starEach (e :: es) X.env = (false, eval e X.env) :: starEach es X.env := by rfl) (hpl : (backTo pos (starEach es X.env)).any (·.1) = false := by rfl) : SE ct X (.Call (.Name x np) (e :: es) [] pos) (fMake x g dds fas) := by
  obtain ⟨C, f, fd, ps, dl, dvs, hm, hct, mk, bi, hd, hdr, fn⟩ := M
  obtain ⟨tb, pb, rb⟩ := ha
  refine ⟨_, pe_makeG (E := fun _ _ _ => False) mk fn hr hg hm bi hd pb hdb he hpl, fun m F S σ H env d S' Q s en h p => ?_⟩
  obtain ⟨⟨xs, S1⟩, h1, h⟩ := bind_some h
  obtain ⟨⟨z, S2⟩, h2, h⟩ := bind_some h
  cases z with
  | non =>
    cases h
    refine rb m F S σ H env xs S1 _ s en h1 fun m1 F1 us H1 x1 s1 r1 q dx hq hdx hne => ?_
    have hnm : dx ∉ m1 := fun hmem => by
      obtain ⟨o, ho⟩ := s1.there hmem
      rw [ho] at hdx
      cases hdx
    have hnf : F1 dx = none := by
      cases e : F1 dx with
      | none => rfl
      | some o =>
        have := s1.same _ _ e
        rw [hdx] at this
        cases this
    have s2 := s1.hidden hnm hnf (.own q)
    have x2 := (Ext.refl m1 F1 H1).put hdx (.own q)
    have hq2 : upd H1 dx (.own q) q = none := by
      rw [upd_ne (fun e => hne e.symm)]
      exact hq
    obtain ⟨s3, x3⟩ := s2.fresh hq2 (o := .ins C dx []) (c := .ins x [] []) ⟨C, dx, [], rfl, hct, rfl, rfl⟩
    have hl : (m1 ++ [q])[S1.length]? = some q := by rw [← s1.len]; simp
    have rr : Reps X.K ct (m1 ++ [q]) F1 (.ref S1.length :: (xs ++ dds)) (.ref q :: (us ++ dvs)) := ⟨.ref q, us ++ dvs, rfl, ⟨q, hl, rfl⟩, ((r1.mono x2).mono x3).append (hdr _ _)⟩
    refine ⟨?_, m1 ++ [q], F1, S1 ++ [.ins x [] []], .ref S1.length :: (xs ++ dds), .non, S2, s3, rr, h2, fun m' F' v H' x' s' r' => ⟨r', ?_⟩⟩
    · rw [← rr.length, List.length_cons, List.length_append, hn _ _ _ _ h1]
    · exact p m' F' (.ref q) H' (((x1.trans x2).trans x3).trans x') s' ⟨q, x'.pre _ _ hl, rfl⟩
  | _ => cases h
end
/-! ## a def with defaults, a method -/
section
variable {P : Program} {w : World} {K : PySem.W.Frag} {mg : Str → Option Value} {base : Heap} {ct : CT}
theorem def_okD {x qual : Str} {st : Stmt} {f : Addr} {fd : FuncData} {N ps : List Str} {k : Nat} {g : FS} {dvs : List V} (F : FunD K x qual (defArgs st) (defBody st) (defScope st) dvs [] f fd) (S : FnScope N ps (defScope st))
    (hbody : ∀ (cdv : Value) (A : Around) (outer : List Env) (s : Shared) (H : Hp) (E : XK), RoomG k (A.deeper (envOfC qual (defScope st) s.heap.objs.size f cdv)) →
      SSs ct (cxOf CX0 P w K mg base N qual (defScope st) f cdv A outer s H E).nox (defBody st) g) : FnG P w K mg base (k + 1) f fd ps (spD K ct ps.length (runD N.length g)) := by
  refine funDG F S (fun vs H Q E h => h.1) (fun cdv A outer s H vs Q E hr h => ?_)
  obtain ⟨hl, m, F', S0, ds, d, S', sim, reps, hg, post⟩ := h
  obtain ⟨t, pt, rt⟩ := hbody cdv A outer s H E hr
  refine ⟨t, pt, ?_⟩
  obtain ⟨⟨fl, S1⟩, h1, h2⟩ := bind_some hg
  refine rt m F' S0 _ H _ fl S1 _ sim ?_ h1 ?_
  · have hl2 := reps.length
    refine ⟨by simp [L2.start, hl2], fun i e he => ?_⟩
    by_cases hi : i < ds.length
    · rw [List.getElem?_append_left (by simpa using hi)] at he
      simp at he
      obtain ⟨v, q1, q2⟩ := reps.get (i := i) (d := e) (by simpa using he)
      refine ⟨v, ?_, q2⟩
      unfold L2.start
      rw [List.getElem?_append_left (by simpa [← hl2] using hi)]
      simp [q1]
    · rw [List.getElem?_append_right (by simpa using hi)] at he
      have := List.mem_of_getElem? he
      simp at this
  · cases fl with
    | rt d1 => cases h2; exact fun m' F1 v H' x1 s1 r1 => post m' F1 v H' x1 s1 r1
    | nx env1 => cases h2; exact fun m' F1 σ1 H' x1 s1 r1 => post m' F1 .non H' x1 s1 rfl
    | bk env1 => cases h2
    | ct env1 => cases h2
end
end DL

namespace DL
open PySem PySem.Spec PyProof.Rows L2
/-! ## max of a tuple of whole numbers -/
section
variable {prog : Program} {w : World} {A : Around} {E : Value → Shared → Prop} {s : Shared} {l : Addr} {xs : Array (Int × Tok)}
theorem max_intTup {Q : Value → Shared → Prop} (hh : A.handled = none) (hl : s.heap.IsTuple l (intItems xs)) (hne : 0 < xs.size)
    (h : ∀ v h' tk, (intItems xs)[argBest (fun i j => decide (numAt xs i > numAt xs j)) (xs.size - 1)]? = some v → (∀ b o, s.heap.get? b = some o → h'.get? b = some o) → Q v { s with heap := h', toks := tk }) :
    wpAny (model prog w) A (call (.builtin "max") [.ref l]) Q E s := by
  have hlt : l < s.heap.objs.size := by obtain ⟨_, e, _⟩ := hl; exact Heap.lt_size e
  refine call_max_walk (wpAny_pyIter_tuple hl ?_)
  refine ⟨_, [_, l], [_], _, _, _, _, rfl, Walks.tuple (A := A.in1) hh _ l (Nat.ne_of_lt hlt) (intItems xs), ⟨⟨_, Heap.get?_push_size _ rfl, rfl, rfl⟩, hl.push _⟩, fun c hc => ?_, by simpa [intItems] using hne, CmpOf.ints_gt (numAt xs) (fun _ _ => intItems_at), fun v h' tk hP hk => ?_⟩
  · show c < (s.heap.push _).objs.size
    rw [Heap.size_push]
    rcases List.mem_cons.mp hc with rfl | hc
    · exact Nat.lt_succ_self _
    · rcases List.mem_cons.mp hc with rfl | hc
      · exact Nat.lt_succ_of_lt hlt
      · cases hc
  · refine h v h' tk (by simpa [intItems] using hP) fun b o e => ?_
    refine hk b o (fun hm => ?_) (Heap.get?_push_of_some _ e)
    rcases List.mem_cons.mp hm with e1 | hm
    · exact absurd (e1 ▸ Heap.lt_size e) (Nat.lt_irrefl _)
    · cases hm
theorem max_rawT {its : List Value} {ns : List Int} {Q : Value → Shared → Prop} (hh : A.handled = none) (hl : s.heap.IsTuple l its.toArray) (hi : IntsAre its ns) (hne : 0 < ns.length)
    (h : ∀ h' tk M t', (∀ b o, s.heap.get? b = some o → h'.get? b = some o) → M ∈ ns → (∀ a, a ∈ ns → a ≤ M) → Q (.int M t') { s with heap := h', toks := tk }) : wpAny (model prog w) A (call (.builtin "max") [.ref l]) Q E s := by
  obtain ⟨xs, e⟩ := hi.allInts.items
  have hn : numsOf (intItems xs).toList = ns := by rw [← e]; exact hi.numsOf
  rw [nums_intItems] at hn
  subst hn
  rw [e] at hl
  have hsz : 0 < xs.size := by simpa using hne
  refine max_intTup hh hl hsz fun v h' tk hv hk => ?_
  obtain ⟨t, rfl⟩ := intItems_at hv
  obtain ⟨h1, h2⟩ := argBest_gt (numAt xs) (xs.size - 1)
  refine h h' tk _ t hk ?_ fun a ha => ?_
  · rw [numAt_eq]; exact PySem.getD_mem (by rw [List.length_map, Array.length_toList]; omega)
  · obtain ⟨j, hj, rfl⟩ := mem_getD ha
    rw [List.length_map, Array.length_toList] at hj
    rw [← numAt_eq]; exact h2 j (by omega)
end
def rMaxT (K : PySem.W.Frag) : List V → Hp → VK → Prop := fun vs H Q => ∃ (a : Addr) (ns : List Int), vs = [V.ref a] ∧ SqT K H a (ns.map V.int) ∧ 0 < ns.length ∧ ∀ m, m ∈ ns → (∀ y, y ∈ ns → y ≤ m) → Q (.int m) H
theorem cr_maxT {X : Cx} (hc : X.calm = true) : CallR X (.builtin "max") (rMaxT X.K) := by
  intro pins s σ H vs us Q I r h
  obtain ⟨a, ns, rfl, hs, hne, q⟩ := h
  obtain ⟨its, rv, hl, _⟩ := I.tuple hs
  rw [Vals.ref1 r]
  exact max_rawT (I.ok.hd hc) hl rv.ints hne fun h' tk m t' hk h1 h2 => ⟨.int _, H, I.kept hk, ⟨_, rfl⟩, q m h1 h2⟩
def cMaxT : FD
  | [.tup [.int i, .int j]], S => some (.int (if j > i then j else i), S)
  | _, _ => none
theorem cd_maxT {ct : CT} {K : PySem.W.Frag} : CallD ct K (rMaxT K) cMaxT := by
  intro m F S H xs ds d S' Q s r h p
  unfold cMaxT at h
  split at h
  · rename_i i j
    cases h
    obtain ⟨v, e1, a, vs, e2, e3, e4⟩ := reps1 r
    obtain ⟨v1, r1, q1, q2, v2, r2, q3, q4, q5⟩ := e4
    have q2 : v1 = .int i := q2
    have q4 : v2 = .int j := q4
    have q5 : r2 = [] := q5
    subst q2 q4 q5 q3 q1 e2
    refine ⟨a, [i, j], e1, sqT_mono s.same e3, by simp, fun M h1 h2 => ?_⟩
    have hM : M = if j > i then j else i := by
      have a1 := h2 i (by simp)
      have a2 := h2 j (by simp)
      simp only [List.mem_cons, List.not_mem_nil, or_false] at h1
      split <;> omega
    rw [hM]
    exact p.now s rfl
  · cases h
/-! ## a tuple of the module -/
def TG (K : PySem.W.Frag) (mg : Str → Option Value) (n : Str) (vs : List V) : Prop := ∃ (a : Addr) (o : Obj) (its : Array Value) (k : Nat), mg n = some (.ref a) ∧ K.lookup a = some o ∧ o.cls = .type "tuple" ∧ o.data = .seq its k ∧ its.size ≤ sizeLine ∧ Vals vs its.toList
theorem se_globT {ct : CT} {X : Cx} {n : Str} {pos : Pos} {ds : List D} {vs : List V} (hg : Gl X n) (c : TG X.K X.mg n vs) (hr : ∀ m F, Reps X.K ct m F ds vs) (hd : (n == ("__debug__" : Str)) = false := by decide) : SE ct X (.Name n pos) (fC (.tup ds)) := by
  obtain ⟨a, o, its, k, h1, h2, h3, h4, h5, h6⟩ := c
  exact se_glob (v := .ref a) hg h1 rfl (fun m F => ⟨a, vs, rfl, .inr ⟨o, its, k, h2, h3, h4, h5, h6⟩, hr m F⟩) hd
/-! ## makers: one level more -/
def Maker (P : Program) (w : World) (K : PySem.W.Frag) (mg : Str → Option Value) (base : Heap) (ct : CT) (k : Nat) (x : Str) (dds : List D) (n : Nat) (g : FD) : Prop := ∃ j, j + 1 ≤ k ∧ MakeAt P w K mg base ct j x dds n g
theorem Maker.mono {P : Program} {w : World} {K : PySem.W.Frag} {mg : Str → Option Value} {base : Heap} {ct : CT} {j k n : Nat} {x : Str} {dds : List D} {g : FD} (c : Maker P w K mg base ct j x dds n g) (h : j ≤ k) : Maker P w K mg base ct k x dds n g := by
  obtain ⟨i, h1, h2⟩ := c
  exact ⟨i, by omega, h2⟩
theorem se_mk {ct : CT} {X : Cx} {k n : Nat} {x : Str} {dds : List D} {g : FD} {np pos : Pos} {e : Expr} {es : List Expr} {fas : FA} (M : Maker X.prog X.w X.K X.mg X.base ct k x dds (n + dds.length + 1) g) (hr : RoomG k X.A) (hg : Gl X x) (ha : SA ct X (e :: es) fas) (hn : ∀ env S ds S', fas env S = some (ds, S') → ds.length = n) (hdb : (x == ("__debug__" : Str)) = false := by decide)
    (he : starEach (e :: es) X.env = (false, eval e X.env) :: starEach es X.env := by rfl) (hpl : (backTo pos (starEach es X.env)).any (·.1) = false := by rfl) : SE ct X (.Call (.Name x np) (e :: es) [] pos) (fMake x g dds fas) := by
  obtain ⟨j, h1, h2⟩ := M
  exact se_make h2 (hr.mono h1) hg ha hn hdb he hpl
/-! ## the law's promise: of the script alone -/
def spScr (K : PySem.W.Frag) : Sp := fun vs H Q _ => ∃ (a : Addr) (ns : List Int), vs = [.ref a] ∧ SqL K H a (ns.map V.int) ∧ ns.length ≤ 63 ∧ ∀ H', Q (.bl true) H'
theorem law_scr {P : Program} {w : World} {K : PySem.W.Frag} {mg : Str → Option Value} {base : Heap} {ct : CT} {k : Nat} {f : Addr} {fd : FuncData} {ps : List Str} {g : FD} (F : FnG P w K mg base k f fd ps (spD K ct 1 g)) (h : ∀ ns : List Int, ns.length ≤ 63 → ∃ S', g [.scr ns] [] = some (.bl true, S')) : FnG P w K mg base k f fd ps (spScr K) := by
  refine F.imp fun vs H Q E hs => ?_
  obtain ⟨a, ns, rfl, hS, hl, q⟩ := hs
  obtain ⟨S', h⟩ := h ns hl
  refine ⟨rfl, [], H, [], [.scr ns], .bl true, S', ⟨Same.refl _, rfl, List.nodup_nil, fun a h => (by cases h), fun i a c h1 h2 => (by simp at h1), fun i a c q h1 => (by simp at h1)⟩, ⟨_, _, rfl, ⟨a, rfl, hS⟩, rfl⟩, h, fun m' F' v H' _ _ r => ?_⟩
  have r : v = .bl true := r
  rw [r]
  exact q H'
end DL

namespace DL
open PySem PySem.Spec PyProof.Rows L2
/-! ## methods and __init__ by their texts -/
def MethAt (K : PySem.W.Frag) (C : Addr) (x qual : Str) (st : Stmt) (ps : List Str) (kwb : KWB := []) : Prop := ∃ (f : Addr) (fd : FuncData), Fun K x qual st f fd ∧ Meth K C x f ∧ Binds K fd ps [] ∧ KwOk K fd ps 1 kwb
def InitAt (K : PySem.W.Frag) (C : Addr) (qual : Str) (st : Stmt) (ps : List Str) (dvs : List V) (kwb : KWB := []) : Prop :=
  ∃ (f : Addr) (fd : FuncData), FunD K "__init__" qual (defArgs st) (defBody st) (defScope st) dvs [] f fd ∧ Mk K C f ∧ (∀ j, j ≤ dvs.length → ∃ ds, Vals (dvs.drop j) ds ∧ Binds K fd ps ds) ∧ KwOk K fd ps 1 kwb
def Initer (P : Program) (w : World) (K : PySem.W.Frag) (mg : Str → Option Value) (base : Heap) (ct : CT) (k : Nat) (x : Str) (dvs : List V) (n : Nat) (g : FD) (kwb : KWB := []) : Prop :=
  ∃ (C f : Addr) (fd : FuncData) (ps : List Str), mg x = some (.ref C) ∧ ct x = some C ∧ Mk K C f ∧ ((∀ j, j ≤ dvs.length → ∃ ds, Vals (dvs.drop j) ds ∧ Binds K fd ps ds) ∧ KwOk K fd ps 1 kwb) ∧ FnG P w K mg base k f fd ps (spD K ct n g)
section
variable {P : Program} {w : World} {K : PySem.W.Frag} {mg : Str → Option Value} {base : Heap} {ct : CT} {C : Addr}
theorem calleeM_of {x qual : Str} {st : Stmt} {N ps : List Str} {k : Nat} {g : FS} {kwb : KWB} (d : MethAt K C x qual st ps kwb) (S : FnScope N ps (defScope st))
    (hbody : ∀ (f : Addr) (cdv : Value) (A : Around) (outer : List Env) (s : Shared) (H : Hp) (E : XK), RoomG k (A.deeper (envOfC qual (defScope st) s.heap.objs.size f cdv)) →
      SSs ct (cxOf CX0 P w K mg base N qual (defScope st) f cdv A outer s H E).nox (defBody st) g) : CalleeM P w K mg base ct (k + 1) C x ps.length (runD N.length g) kwb := by
  obtain ⟨f, fd, F, h1, h3⟩ := d
  exact ⟨f, fd, ps, h1, h3, def_ok F S (hbody f)⟩
theorem initer_of {c qual : Str} {st : Stmt} {N ps : List Str} {k : Nat} {g : FS} {dvs : List V} {kwb : KWB} (kc : Klass K ct c C) (hm : mg c = some (.ref C)) (d : InitAt K C qual st ps dvs kwb) (S : FnScope N ps (defScope st))
    (hbody : ∀ (f : Addr) (cdv : Value) (A : Around) (outer : List Env) (s : Shared) (H : Hp) (E : XK), RoomG k (A.deeper (envOfC qual (defScope st) s.heap.objs.size f cdv)) →
      SSs ct (cxOf CX0 P w K mg base N qual (defScope st) f cdv A outer s H E).nox (defBody st) g) : Initer P w K mg base ct (k + 1) c dvs ps.length (runD N.length g) kwb := by
  obtain ⟨f, fd, F, h1, h3⟩ := d
  exact ⟨C, f, fd, ps, hm, kc.at_, h1, h3, def_okD F S (hbody f)⟩
theorem maker_of {x : Str} {dvs : List V} {n k : Nat} {g : FD} {dds : List D} {kwb : KWB} (I : Initer P w K mg base ct k x dvs n g kwb) (j : Nat) (hj : j ≤ dvs.length) (hr : ∀ m F, Reps K ct m F dds (dvs.drop j)) : Maker P w K mg base ct (k + 1) x dds n g := by
  obtain ⟨C, f, fd, ps, h1, h2, h3, h4, h5⟩ := I
  obtain ⟨ds, h6, h7⟩ := h4.1 j hj
  exact ⟨k, Nat.le_refl _, C, f, fd, ps, ds, dvs.drop j, h1, h2, h3, h7, h6, hr, h5⟩
end
end DL

namespace DL
open PySem PySem.Spec PyProof.Rows L2
/-! ## new objects that stay as they are -/
def MkSpec (c : Str) (fs : List Str) (g : FD) (g' : List D → Option (List D)) : Prop :=
  ∀ (S : Sto) (args vals : List D), g' args = some vals → g (.ref S.length :: args) (S ++ [.ins c [] []]) = some (.non, S ++ [.ins c fs vals]) ∧ noRefs vals = true
def fMakeF (c : Str) (fs : List Str) (g' : List D → Option (List D)) (dds : List D) (fas : FA) : FE := fun env S => (fas env S).bind fun p => (g' (p.1 ++ dds)).map fun vals => (.obj c fs vals, p.2)
def MakerF (P : Program) (w : World) (K : PySem.W.Frag) (mg : Str → Option Value) (base : Heap) (ct : CT) (k : Nat) (x : Str) (fs : List Str) (dds : List D) (n : Nat) (g' : List D → Option (List D)) : Prop :=
  ∃ g, Maker P w K mg base ct k x dds n g ∧ MkSpec x fs g g'
theorem MakerF.mono {P : Program} {w : World} {K : PySem.W.Frag} {mg : Str → Option Value} {base : Heap} {ct : CT} {j k n : Nat} {x : Str} {fs : List Str} {dds : List D} {g : List D → Option (List D)} (c : MakerF P w K mg base ct j x fs dds n g) (h : j ≤ k) : MakerF P w K mg base ct k x fs dds n g := by
  obtain ⟨g0, h1, h2⟩ := c
  exact ⟨g0, h1.mono h, h2⟩
theorem se_mkF {ct : CT} {X : Cx} {k n : Nat} {x : Str} {fs : List Str} {dds : List D} {g' : List D → Option (List D)} {np pos : Pos} {e : Expr} {es : List Expr} {fas : FA} (M : MakerF X.prog X.w X.K X.mg X.base ct k x fs dds (n + dds.length + 1) g') (hr : RoomG k X.A) (hg : Gl X x) (ha : SA ct X (e :: es) fas) (hn : ∀ env S ds S', fas env S = some (ds, S') → ds.length = n) (hdb : (x == ("__debug__" : Str)) = false := by decide)
    (he : starEach (e :: es) X.env = (false, eval e X.env) :: starEach es X.env := by rfl) (hpl : (backTo pos (starEach es X.env)).any (·.1) = false := by rfl) : SE ct X (.Call (.Name x np) (e :: es) [] pos) (fMakeF x fs g' dds fas) := by
  obtain ⟨g, ⟨j, hj, M⟩, spec⟩ := M
  have hr := hr.mono hj
  obtain ⟨C, f, fd, ps, dl, dvs, hm, hct, mk, bi, hd, hdr, fn⟩ := M
  obtain ⟨tb, pb, rb⟩ := ha
  refine ⟨_, pe_makeG (E := fun _ _ _ => False) mk fn hr hg hm bi hd pb hdb he hpl, fun m F S σ H env d S' Q s en h p => ?_⟩
  obtain ⟨⟨xs, S1⟩, h1, h⟩ := bind_some h
  obtain ⟨vals, hv, h⟩ := map_some h
  cases h
  obtain ⟨h2, hnr⟩ := spec S1 _ vals hv
  refine rb m F S σ H env xs S1 _ s en h1 fun m1 F1 us H1 x1 s1 r1 q dx hq hdx hne => ?_
  have hnm : dx ∉ m1 := fun hmem => by
    obtain ⟨o, ho⟩ := s1.there hmem
    rw [ho] at hdx
    cases hdx
  have hnf : F1 dx = none := by
    cases e : F1 dx with
    | none => rfl
    | some o =>
      have := s1.same _ _ e
      rw [hdx] at this
      cases this
  have s2 := s1.hidden hnm hnf (.own q)
  have x2 := (Ext.refl m1 F1 H1).put hdx (.own q)
  have hq2 : upd H1 dx (.own q) q = none := by
    rw [upd_ne (fun e => hne e.symm)]
    exact hq
  obtain ⟨s3, x3⟩ := s2.fresh hq2 (o := .ins C dx []) (c := .ins x [] []) ⟨C, dx, [], rfl, hct, rfl, rfl⟩
  have hl : (m1 ++ [q])[S1.length]? = some q := by rw [← s1.len]; simp
  have rr : Reps X.K ct (m1 ++ [q]) F1 (.ref S1.length :: (xs ++ dds)) (.ref q :: (us ++ dvs)) := ⟨.ref q, us ++ dvs, rfl, ⟨q, hl, rfl⟩, ((r1.mono x2).mono x3).append (hdr _ _)⟩
  refine ⟨?_, m1 ++ [q], F1, S1 ++ [.ins x [] []], .ref S1.length :: (xs ++ dds), .non, _, s3, rr, h2, fun m' F' v H' x' s' r' => ⟨r', ?_⟩⟩
  · rw [← rr.length, List.length_cons, List.length_append, hn _ _ _ _ h1]
  · have xx : Ext m1 F1 H1 m' F' H' := (x2.trans x3).trans x'
    obtain ⟨s4, x4⟩ := drop_sim (Old.refl S1) s1 xx s'
    have q1 : m'[S1.length]? = some q := x'.pre _ _ hl
    have hL : (S1 ++ [Cell.ins x fs vals])[S1.length]? = some (.ins x fs vals) := by simp
    obtain ⟨C', dx', vs', c1, c2, c3, c4⟩ := s'.cell _ q _ q1 hL
    rw [hct] at c2
    cases c2
    have mL : q ∈ m' := List.mem_iff_getElem?.mpr ⟨_, q1⟩
    have fL : F' q = none := s'.off q mL
    have nL : q ∉ m'.take S1.length := fun hm => by
      obtain ⟨i, hi⟩ := List.mem_iff_getElem?.mp hm
      have hil : i < S1.length := by
        have := (List.getElem?_eq_some_iff.mp hi).1
        rw [List.length_take] at this
        omega
      rw [List.getElem?_take_of_lt hil] at hi
      have := nodup_inj s'.nd hi q1
      omega
    exact p _ (upd F' q (.ins C dx' (fs.zip vs'))) (.ref q) H' (x1.trans (x4.freeze hq fL _)) (s4.freeze nL fL c1) ⟨q, C, dx', vs', rfl, hct, upd_same, c3, Reps.mono' (fun _ _ q => q) (same_upd fL _) _ _ (Reps.noref _ _ hnr c4)⟩
theorem makerF_of {P : Program} {w : World} {K : PySem.W.Frag} {mg : Str → Option Value} {base : Heap} {ct : CT} {k n : Nat} {x : Str} {fs : List Str} {dds : List D} {g : FD} {g' : List D → Option (List D)} (M : Maker P w K mg base ct k x dds n g) (h : MkSpec x fs g g') : MakerF P w K mg base ct k x fs dds n g' := ⟨g, M, h⟩
end DL

namespace DL
open PySem PySem.Spec PyProof.Rows L2
/-! ## what must hold ahead of a step, by rewriting -/
section
variable {α β : Type} {env : DEnv} {S S1 : Sto} {f1 f2 : FS} {t u : FT} {f fa fb fc fo fe fv fk fx : FE} {fas : FA} {P : D → Sto → Prop} {PA : List D → Sto → Prop} {PT : Bool → Sto → Prop} {PS : Fl → Sto → Prop} {PG : DEnv → Sto → Prop}
theorem R_some {a : α} {P : α → Sto → Prop} : R (some (a, S)) P ↔ P a S := ⟨fun ⟨_, _, e, p⟩ => by cases e; exact p, fun p => ⟨_, _, rfl, p⟩⟩
theorem R_none {P : α → Sto → Prop} : R (none : Option (α × Sto)) P ↔ False := ⟨fun ⟨_, _, e, _⟩ => (by cases e), False.elim⟩
theorem R_bind {o : Option (α × Sto)} {k : α × Sto → Option (β × Sto)} {P : β → Sto → Prop} : R (o.bind k) P ↔ R o fun a S => R (k (a, S)) P := by
  cases o with
  | none => simp only [Option.bind_none, R_none]
  | some a => obtain ⟨a, S'⟩ := a; simp only [Option.bind_some, R_some]
theorem R_ite {c : Prop} [Decidable c] {x y : Option (α × Sto)} {P : α → Sto → Prop} : R (if c then x else y) P ↔ if c then R x P else R y P := by
  split <;> exact Iff.rfl
theorem R_cond {c : Prop} [Decidable c] {a : α} {P : α → Sto → Prop} : R (if c then some (a, S) else none) P ↔ c ∧ P a S := by
  by_cases h : c
  · rw [if_pos h, R_some]; exact ⟨fun p => ⟨h, p⟩, fun p => p.2⟩
  · rw [if_neg h, R_none]; exact ⟨False.elim, fun p => h p.1⟩
/-- by the kind of a value -/
def WB : D → (Bool → Prop) → Prop
  | .bl b, P => P b
  | _, _ => False
def WI : D → (Int → Prop) → Prop
  | .int b, P => P b
  | _, _ => False
def WStr : D → (Str → Prop) → Prop
  | .str b, P => P b
  | _, _ => False
def WTup : D → (List D → Prop) → Prop
  | .tup b, P => P b
  | _, _ => False
def WLst : D → (List D → Prop) → Prop
  | .lst b, P => P b
  | _, _ => False
def WRef : D → (Nat → Prop) → Prop
  | .ref b, P => P b
  | _, _ => False
theorem wb_bl {b : Bool} {P : Bool → Prop} : WB (.bl b) P ↔ P b := Iff.rfl
theorem wi_int {b : Int} {P : Int → Prop} : WI (.int b) P ↔ P b := Iff.rfl
theorem wstr_str {b : Str} {P : Str → Prop} : WStr (.str b) P ↔ P b := Iff.rfl
theorem wtup_tup {b : List D} {P : List D → Prop} : WTup (.tup b) P ↔ P b := Iff.rfl
theorem wlst_lst {b : List D} {P : List D → Prop} : WLst (.lst b) P ↔ P b := Iff.rfl
theorem wref_ref {b : Nat} {P : Nat → Prop} : WRef (.ref b) P ↔ P b := Iff.rfl
theorem wp_var0 {d : D} {r : DEnv} : R (fVar 0 (some d :: r) S) P ↔ P d S := R_some
theorem wp_varS {n : Nat} {x : Option D} {r : DEnv} : R (fVar (n + 1) (x :: r) S) P ↔ R (fVar n r S) P := by
  unfold fVar
  rw [List.getElem?_cons_succ]
theorem wp_C {d : D} : R (fC d env S) P ↔ P d S := R_some
theorem wp_Bin {g : D → D → Sto → Option (D × Sto)} : R (fBin g fa fb env S) P ↔ R (fa env S) fun x S1 => R (fb env S1) fun y S2 => R (g x y S2) P := by unfold fBin; simp only [R_bind]
theorem wp_neg : R (fUn gNeg fa env S) P ↔ R (fa env S) fun x S1 => WI x fun i => P (.int (-i)) S1 := by
  unfold fUn
  simp only [R_bind]
  refine ⟨fun ⟨d, S1, e, q⟩ => ⟨d, S1, e, ?_⟩, fun ⟨d, S1, e, q⟩ => ⟨d, S1, e, ?_⟩⟩
  · cases d <;> first | exact (R_none.mp q).elim | exact R_some.mp q
  · cases d <;> first | exact q.elim | exact R_some.mpr q
theorem wp_nil : R (fNil env S) PA ↔ PA [] S := R_some
theorem wp_cons : R (fCons f fas env S) PA ↔ R (f env S) fun d S1 => R (fas env S1) fun ds S2 => PA (d :: ds) S2 := by unfold fCons; simp only [R_bind, R_some]
theorem wp_tup : R (fTup fas env S) P ↔ R (fas env S) fun ds S1 => ds.length ≤ 1000 ∧ P (.tup ds) S1 := by unfold fTup; simp only [R_bind, R_cond]
theorem wp_lst : R (fLst fas env S) P ↔ R (fas env S) fun ds S1 => ds.length ≤ 1000 ∧ P (.lst ds) S1 := by unfold fLst; simp only [R_bind, R_cond]
theorem wp_lstM : R (fLstM fas env S) P ↔ R (fas env S) fun ds S1 => ds.length ≤ 1000 ∧ P (.ref S1.length) (S1 ++ [.lst ds]) := by unfold fLstM; simp only [R_bind, R_cond]
theorem wp_Call {g : FD} : R (fCall g fas env S) P ↔ R (fas env S) fun ds S1 => R (g ds S1) P := by unfold fCall; simp only [R_bind]
theorem wp_And : R (fAnd fa fb env S) P ↔ R (fa env S) fun d S1 => WB d fun b => if b = true then R (fb env S1) P else P (.bl false) S1 := by
  unfold fAnd
  simp only [R_bind]
  refine ⟨fun ⟨d, S1, e, q⟩ => ⟨d, S1, e, ?_⟩, fun ⟨d, S1, e, q⟩ => ⟨d, S1, e, ?_⟩⟩
  · cases d <;> first | exact (R_none.mp q).elim | skip
    rename_i b
    cases b
    · exact R_some.mp q
    · exact q
  · cases d <;> first | exact q.elim | skip
    rename_i b
    cases b
    · exact R_some.mpr q
    · exact q
theorem wp_Or : R (fOr fa fb env S) P ↔ R (fa env S) fun d S1 => WB d fun b => if b = true then P (.bl true) S1 else R (fb env S1) P := by
  unfold fOr
  simp only [R_bind]
  refine ⟨fun ⟨d, S1, e, q⟩ => ⟨d, S1, e, ?_⟩, fun ⟨d, S1, e, q⟩ => ⟨d, S1, e, ?_⟩⟩
  · cases d <;> first | exact (R_none.mp q).elim | skip
    rename_i b
    cases b
    · exact q
    · exact R_some.mp q
  · cases d <;> first | exact q.elim | skip
    rename_i b
    cases b
    · exact q
    · exact R_some.mpr q
theorem wp_Not : R (fNot fa env S) P ↔ R (fa env S) fun d S1 => WB d fun b => P (.bl (!b)) S1 := by
  unfold fNot
  simp only [R_bind]
  refine ⟨fun ⟨d, S1, e, q⟩ => ⟨d, S1, e, ?_⟩, fun ⟨d, S1, e, q⟩ => ⟨d, S1, e, ?_⟩⟩
  · cases d <;> first | exact (R_none.mp q).elim | exact R_some.mp q
  · cases d <;> first | exact q.elim | exact R_some.mpr q
theorem wp_Test : R (fTest f env S) PT ↔ R (f env S) fun d S1 => WB d fun b => PT b S1 := by
  unfold fTest
  simp only [R_bind]
  refine ⟨fun ⟨d, S1, e, q⟩ => ⟨d, S1, e, ?_⟩, fun ⟨d, S1, e, q⟩ => ⟨d, S1, e, ?_⟩⟩
  · cases d <;> first | exact (R_none.mp q).elim | exact R_some.mp q
  · cases d <;> first | exact q.elim | exact R_some.mpr q
theorem wp_tAnd : R (tAndD t u env S) PT ↔ R (t env S) fun b S1 => if b = true then R (u env S1) PT else PT false S1 := by unfold tAndD; simp only [R_bind, R_ite, R_some]
theorem wp_tOr : R (tOrD t u env S) PT ↔ R (t env S) fun b S1 => if b = true then PT true S1 else R (u env S1) PT := by unfold tOrD; simp only [R_bind, R_ite, R_some]
theorem wp_tNot : R (tNotD t env S) PT ↔ R (t env S) fun b S1 => PT (!b) S1 := by unfold tNotD; simp only [R_bind, R_some]
theorem wp_If : R (fIf t fa fb env S) P ↔ R (t env S) fun b S1 => if b = true then R (fa env S1) P else R (fb env S1) P := by unfold fIf; simp only [R_bind, R_ite]
theorem wp_Chain {g g' : D → D → Sto → Option (D × Sto)} : R (fChain g g' fa fb fc env S) P ↔ R (fa env S) fun x S1 => R (fb env S1) fun y S2 => R (g x y S2) fun z S3 => WB z fun b => if b = true then R (fc env S3) fun w S4 => R (g' y w S4) P else P (.bl false) S3 := by
  unfold fChain
  simp only [R_bind]
  refine ⟨fun ⟨x, S1, e, y, S2, e2, z, S3, e3, q⟩ => ⟨x, S1, e, y, S2, e2, z, S3, e3, ?_⟩, fun ⟨x, S1, e, y, S2, e2, z, S3, e3, q⟩ => ⟨x, S1, e, y, S2, e2, z, S3, e3, ?_⟩⟩
  · cases z <;> first | exact (R_none.mp q).elim | skip
    rename_i b
    cases b
    · exact R_some.mp q
    · exact R_bind.mp q
  · cases z <;> first | exact q.elim | skip
    rename_i b
    cases b
    · exact R_some.mpr q
    · exact R_bind.mpr q
/-! statements -/
theorem wp_Skip : R (sSkip env S) PS ↔ PS (.nx env) S := R_some
theorem wp_Break : R (sBreak env S) PS ↔ PS (.bk env) S := R_some
theorem wp_Cont : R (sCont env S) PS ↔ PS (.ct env) S := R_some
theorem wp_Never : R (sNever env S) PS ↔ False := R_none
theorem wp_fNever : R (fNever env S) P ↔ False := R_none
theorem wp_Seq : R (sSeq f1 f2 env S) PS ↔ R (f1 env S) (PFl PS f2) := by
  refine ⟨fun ⟨a, S', e, p⟩ => ?_, r_seq⟩
  unfold sSeq at e
  obtain ⟨⟨fl, S1⟩, h1, h⟩ := bind_some e
  refine ⟨fl, S1, h1, ?_⟩
  cases fl <;> first | exact ⟨_, _, h, p⟩ | (cases h; exact p)
theorem wp_pfl_nx {e : DEnv} : PFl PS f2 (.nx e) S ↔ R (f2 e S) PS := Iff.rfl
theorem wp_pfl_rt {d : D} : PFl PS f2 (.rt d) S ↔ PS (.rt d) S := Iff.rfl
theorem wp_pfl_bk {e : DEnv} : PFl PS f2 (.bk e) S ↔ PS (.bk e) S := Iff.rfl
theorem wp_pfl_ct {e : DEnv} : PFl PS f2 (.ct e) S ↔ PS (.ct e) S := Iff.rfl
theorem wp_Expr : R (sExpr f env S) PS ↔ R (f env S) fun _ S1 => PS (.nx env) S1 := by unfold sExpr; simp only [R_bind, R_some]
theorem wp_Ret : R (sRet f env S) PS ↔ R (f env S) fun d S1 => PS (.rt d) S1 := by unfold sRet; simp only [R_bind, R_some]
theorem wp_sIf : R (sIf t f1 f2 env S) PS ↔ R (t env S) fun b S1 => if b = true then R (f1 env S1) PS else R (f2 env S1) PS := by unfold sIf; simp only [R_bind, R_ite]
theorem R_map {o : Option (α × Sto)} {k : α × Sto → β × Sto} {P : β → Sto → Prop} : R (o.map k) P ↔ R o fun a S => P (k (a, S)).1 (k (a, S)).2 := by
  cases o with
  | none => simp only [Option.map_none, R_none]
  | some a => obtain ⟨a, S'⟩ := a; simp only [Option.map_some]; rw [R_some (P := fun a S => P (k (a, S)).1 (k (a, S)).2)]; exact R_some
theorem wp_Asg {g : FG} : R (sAsg f g env S) PS ↔ R (f env S) fun d S1 => R (g d env S1) fun e S2 => PS (.nx e) S2 := by unfold sAsg; simp only [R_bind, R_map]
theorem wp_N {i : Nat} {d : D} : R (gN i d env S) PG ↔ PG (env.set i (some d)) S := R_some
theorem wp_gNil : R (gNil [] env S) PG ↔ PG env S := R_some
theorem wp_gCons {g : FG} {gs : FGs} {d : D} {ds : List D} : R (gCons g gs (d :: ds) env S) PG ↔ R (g d env S) fun e S1 => R (gs ds e S1) PG := R_bind
theorem wp_gTup {n : Nat} {gs : FGs} {ds : List D} : R (gTup n gs (.tup ds) env S) PG ↔ ds.length = n ∧ R (gs ds env S) PG := by
  show R (if ds.length = n then gs ds env S else none) PG ↔ _
  by_cases h : ds.length = n
  · rw [if_pos h]; exact ⟨fun p => ⟨h, p⟩, fun p => p.2⟩
  · rw [if_neg h, R_none]; exact ⟨False.elim, fun p => h p.1⟩
/-- o[i] = v -/
def RU (o : Option Sto) (Q : Sto → Prop) : Prop := ∃ S, o = some S ∧ Q S
theorem wp_gSub {g : D → D → D → Sto → Option Sto} {d : D} : R (gSub g fa fb d env S) PG ↔ R (fa env S) fun x S1 => R (fb env S1) fun y S2 => RU (g x y d S2) (PG env) := by
  unfold gSub
  simp only [R_bind]
  refine ⟨fun ⟨x, S1, e, y, S2, e2, q⟩ => ⟨x, S1, e, y, S2, e2, ?_⟩, fun ⟨x, S1, e, y, S2, e2, q⟩ => ⟨x, S1, e, y, S2, e2, ?_⟩⟩
  · obtain ⟨a, S3, e3, p⟩ := q
    obtain ⟨S4, h1, h2⟩ := map_some e3
    cases h2
    exact ⟨_, h1, p⟩
  · obtain ⟨S3, e3, p⟩ := q
    exact ⟨_, _, by rw [e3]; rfl, p⟩
theorem wp_Par {i j : Nat} : R (sPar i j fas env S) PS ↔ R (fas env S) fun ds S1 => ∃ v w, ds = [v, w] ∧ PS (.nx ((env.set i (some v)).set j (some w))) S1 := by
  refine ⟨fun h => ?_, r_par⟩
  unfold sPar at h
  rw [R_bind] at h
  obtain ⟨ds, S1, e, q⟩ := h
  refine ⟨ds, S1, e, ?_⟩
  match ds, q with
  | [v, w], q => exact ⟨v, w, rfl, R_some.mp q⟩
  | [], q => exact (R_none.mp q).elim
  | [_], q => exact (R_none.mp q).elim
  | _ :: _ :: _ :: _, q => exact (R_none.mp q).elim
theorem wp_two {v w : D} {Q : D → D → Prop} : (∃ a b, [v, w] = [a, b] ∧ Q a b) ↔ Q v w := ⟨fun ⟨a, b, e, q⟩ => by cases e; exact q, fun q => ⟨v, w, rfl, q⟩⟩
/-! a def -/
theorem wp_Run {n : Nat} {g : FS} {ds : List D} : R (runD n g ds S) P ↔ R (g (ds.map some ++ List.replicate (n - ds.length) none) S) (PRun P) := by
  unfold runD
  simp only [R_bind]
  refine ⟨fun ⟨x, S1, e, q⟩ => ⟨x, S1, e, ?_⟩, fun ⟨x, S1, e, q⟩ => ⟨x, S1, e, ?_⟩⟩
  · cases x <;> first | exact (R_some (P := P)).mp q | exact (R_none (P := P)).mp q
  · cases x <;> first | exact (R_some (P := P)).mpr q | exact (R_none (P := P)).mpr q
theorem wp_run_rt {d : D} : PRun P (.rt d) S ↔ P d S := Iff.rfl
theorem wp_run_nx {e : DEnv} : PRun P (.nx e) S ↔ P .non S := Iff.rfl
theorem wp_bk_nx {I : DEnv → Sto → Prop} {e : DEnv} : PBk I PS (.nx e) S ↔ I e S := Iff.rfl
theorem wp_bk_ct {I : DEnv → Sto → Prop} {e : DEnv} : PBk I PS (.ct e) S ↔ I e S := Iff.rfl
theorem wp_bk_bk {I : DEnv → Sto → Prop} {e : DEnv} : PBk I PS (.bk e) S ↔ PS (.nx e) S := Iff.rfl
theorem wp_bk_rt {I : DEnv → Sto → Prop} {d : D} : PBk I PS (.rt d) S ↔ PS (.rt d) S := Iff.rfl
/-! loops over written rows -/
theorem wp_For {fi : FA} {g : FG} : R (sFor fi g f1 env S) PS ↔ R (fi env S) fun xs S1 => R (forD g f1 xs env S1) PS := by unfold sFor; simp only [R_bind]
theorem wp_for0 {g : FG} : R (forD g f1 [] env S) PS ↔ PS (.nx env) S := R_some
theorem wp_forS {g : FG} {x : D} {xs : List D} : R (forD g f1 (x :: xs) env S) PS ↔ R (g x env S) fun e S1 => R (f1 e S1) (PBk (fun e' S2 => R (forD g f1 xs e' S2) PS) PS) := by
  show R ((g x env S).bind _) PS ↔ _
  simp only [R_bind]
  refine ⟨fun ⟨a, S1, e, b, S2, e2, q⟩ => ⟨a, S1, e, b, S2, e2, ?_⟩, fun ⟨a, S1, e, b, S2, e2, q⟩ => ⟨a, S1, e, b, S2, e2, ?_⟩⟩
  · cases b <;> first | exact q | exact (R_some (P := PS)).mp q
  · cases b <;> first | exact q | exact (R_some (P := PS)).mpr q
theorem wp_iLst : R (iLst f env S) PA ↔ R (f env S) fun d S1 => WLst d fun ds => PA ds S1 := by
  unfold iLst
  simp only [R_bind]
  refine ⟨fun ⟨d, S1, e, q⟩ => ⟨d, S1, e, ?_⟩, fun ⟨d, S1, e, q⟩ => ⟨d, S1, e, ?_⟩⟩
  · cases d <;> first | exact (R_none.mp q).elim | exact R_some.mp q
  · cases d <;> first | exact q.elim | exact R_some.mpr q
theorem wp_iTup : R (iTup f env S) PA ↔ R (f env S) fun d S1 => WTup d fun ds => PA ds S1 := by
  unfold iTup
  simp only [R_bind]
  refine ⟨fun ⟨d, S1, e, q⟩ => ⟨d, S1, e, ?_⟩, fun ⟨d, S1, e, q⟩ => ⟨d, S1, e, ?_⟩⟩
  · cases d <;> first | exact (R_none.mp q).elim | exact R_some.mp q
  · cases d <;> first | exact q.elim | exact R_some.mpr q
theorem wp_iR1 : R (iRange1 fas env S) PA ↔ R (fas env S) fun ds S1 => ∃ j, ds = [.int j] ∧ okR j = true ∧ PA (rangeD 0 j) S1 := by
  unfold iRange1
  simp only [R_bind]
  refine ⟨fun ⟨d, S1, e, q⟩ => ⟨d, S1, e, ?_⟩, fun ⟨d, S1, e, q⟩ => ⟨d, S1, e, ?_⟩⟩
  · dsimp only at q
    split at q
    · rename_i j
      rw [R_cond] at q
      exact ⟨j, rfl, q.1, q.2⟩
    · exact (R_none.mp q).elim
  · obtain ⟨j, rfl, h1, h2⟩ := q
    exact R_cond.mpr ⟨h1, h2⟩
theorem wp_iR2 : R (iRange2 fas env S) PA ↔ R (fas env S) fun ds S1 => ∃ i j, ds = [.int i, .int j] ∧ (okR i = true ∧ okR j = true) ∧ PA (rangeD i j) S1 := by
  unfold iRange2
  simp only [R_bind]
  refine ⟨fun ⟨d, S1, e, q⟩ => ⟨d, S1, e, ?_⟩, fun ⟨d, S1, e, q⟩ => ⟨d, S1, e, ?_⟩⟩
  · dsimp only at q
    split at q
    · rename_i i j
      rw [R_cond] at q
      exact ⟨i, j, rfl, q.1, q.2⟩
    · exact (R_none.mp q).elim
  · obtain ⟨i, j, rfl, h1, h2⟩ := q
    exact R_cond.mpr ⟨h1, h2⟩
theorem wp_r1 {i : Int} {Q : Int → Prop} : (∃ j, [D.int i] = [D.int j] ∧ Q j) ↔ Q i := ⟨fun ⟨a, e, q⟩ => by cases e; exact q, fun q => ⟨i, rfl, q⟩⟩
theorem wp_r2 {i j : Int} {Q : Int → Int → Prop} : (∃ a b, [D.int i, D.int j] = [D.int a, D.int b] ∧ Q a b) ↔ Q i j := ⟨fun ⟨a, b, e, q⟩ => by cases e; exact q, fun q => ⟨i, j, rfl, q⟩⟩
/-! operators -/
theorem wp_add {i j : Int} : R (gAdd (.int i) (.int j) S) P ↔ P (.int (i + j)) S := R_some
theorem wp_addL {a b : List D} : R (gAdd (.lst a) (.lst b) S) P ↔ a.length + b.length ≤ 16777216 ∧ P (.lst (a ++ b)) S := R_cond
theorem wp_addS {a b : Str} : R (gAdd (.str a) (.str b) S) P ↔ a.length + b.length ≤ 16777216 ∧ P (.str (a ++ b)) S := R_cond
theorem wp_sub {i j : Int} : R (gI0 (fun i j => .int (i - j)) (.int i) (.int j) S) P ↔ P (.int (i - j)) S := R_some
theorem wp_I0 {k : Int → Int → D} {i j : Int} : R (gI0 k (.int i) (.int j) S) P ↔ P (k i j) S := R_some
theorem wp_mul {i j : Int} : R (gI (fun i j => smallI i && smallI j) (fun i j => .int (i * j)) (.int i) (.int j) S) P ↔ (smallI i = true ∧ smallI j = true) ∧ P (.int (i * j)) S := by
  rw [← Bool.and_eq_true]
  exact R_cond
def lgI (j : Int) : Prop := j.natAbs.log2 < 9000
theorem wp_fdiv {i j : Int} : R (gI (fun _ j => decide (0 < j) && decide (j.natAbs.log2 < 9000)) (fun i j => .int (i / j)) (.int i) (.int j) S) P ↔ (0 < j ∧ lgI j) ∧ P (.int (i / j)) S := by
  have e : ((decide (0 < j) && decide (j.natAbs.log2 < 9000)) = true) ↔ (0 < j ∧ lgI j) := by simp [lgI]
  rw [← e]
  exact R_cond
theorem wp_mod {i j : Int} : R (gI (fun _ j => decide (0 < j)) (fun i j => .int (i % j)) (.int i) (.int j) S) P ↔ 0 < j ∧ P (.int (i % j)) S := by
  have e : (decide (0 < j) = true) ↔ 0 < j := by simp
  rw [← e]
  exact R_cond
theorem wp_eqI {i j : Int} : R (gEq (.int i) (.int j) S) P ↔ P (.bl (decide (i = j))) S := R_some
theorem wp_eqS {i j : Str} : R (gEq (.str i) (.str j) S) P ↔ P (.bl (decide (i = j))) S := R_some
theorem wp_eqB {i j : Bool} : R (gEq (.bl i) (.bl j) S) P ↔ P (.bl (decide (i = j))) S := R_some
theorem wp_neI {i j : Int} : R (gNe (.int i) (.int j) S) P ↔ P (.bl (!decide (i = j))) S := R_some
theorem wp_neS {i j : Str} : R (gNe (.str i) (.str j) S) P ↔ P (.bl (!decide (i = j))) S := R_some
theorem wp_neB {i j : Bool} : R (gNe (.bl i) (.bl j) S) P ↔ P (.bl (!decide (i = j))) S := R_some
theorem wp_isN {x : D} : R (gIsN x .non S) P ↔ P (.bl (isNonD x)) S := by cases x <;> exact R_some
theorem wp_notN {x : D} : R (gNotN x .non S) P ↔ P (.bl (!isNonD x)) S := by cases x <;> exact R_some
theorem isn_int {i : Int} : isNonD (.int i) = false := rfl
theorem isn_non : isNonD .non = true := rfl
theorem isn_str {i : Str} : isNonD (.str i) = false := rfl
theorem isn_tup {i : List D} : isNonD (.tup i) = false := rfl
theorem isn_lst {i : List D} : isNonD (.lst i) = false := rfl
theorem isn_ref {i : Nat} : isNonD (.ref i) = false := rfl
theorem isn_bl {i : Bool} : isNonD (.bl i) = false := rfl
theorem wp_isi {T : String} : R (fIsi T f env S) P ↔ R (f env S) fun d S1 => ∃ b, isiT T d = some b ∧ P (.bl b) S1 := by
  unfold fIsi
  simp only [R_bind]
  refine ⟨fun ⟨d, S1, e, q⟩ => ⟨d, S1, e, ?_⟩, fun ⟨d, S1, e, q⟩ => ⟨d, S1, e, ?_⟩⟩
  · obtain ⟨a, S3, e3, p⟩ := q
    obtain ⟨b, h1, h2⟩ := map_some e3
    cases h2
    exact ⟨b, h1, p⟩
  · obtain ⟨b, e3, p⟩ := q
    exact ⟨_, _, by rw [e3]; rfl, p⟩
theorem wp_someB {b : Bool} {Q : Bool → Prop} : (∃ c, some b = some c ∧ Q c) ↔ Q b := ⟨fun ⟨a, e, q⟩ => by cases e; exact q, fun q => ⟨b, rfl, q⟩⟩
theorem isi_str_str {k : Str} : isiT "str" (.str k) = some true := rfl
theorem isi_int_int {k : Int} : isiT "int" (.int k) = some true := rfl
theorem isi_int_bl {k : Bool} : isiT "int" (.bl k) = some true := rfl
theorem isi_bool_int {k : Int} : isiT "bool" (.int k) = some false := rfl
theorem isi_bool_bl {k : Bool} : isiT "bool" (.bl k) = some true := rfl
theorem isi_int_non : isiT "int" .non = some false := rfl
theorem isi_int_str {k : Str} : isiT "int" (.str k) = some false := rfl
theorem isi_tuple_tup {k : List D} : isiT "tuple" (.tup k) = some true := rfl
/-! built-ins -/
theorem wp_abs {i : Int} : R (cAbs [.int i] S) P ↔ P (.int (if i < 0 then -i else i)) S := R_some
theorem wp_max2 {i j : Int} : R (cMax2 [.int i, .int j] S) P ↔ P (.int (if j > i then j else i)) S := R_some
theorem wp_min2 {i j : Int} : R (cMin2 [.int i, .int j] S) P ↔ P (.int (if j < i then j else i)) S := R_some
theorem wp_maxT {i j : Int} : R (cMaxT [.tup [.int i, .int j]] S) P ↔ P (.int (if j > i then j else i)) S := R_some
theorem wp_intI {i : Int} : R (cInt [.int i] S) P ↔ P (.int i) S := R_some
theorem wp_intB {i : Bool} : R (cInt [.bl i] S) P ↔ P (.int (if i then 1 else 0)) S := R_some
theorem wp_lenS {x : Str} : R (cLen [.str x] S) P ↔ x.length ≤ 16777216 ∧ P (.int x.length) S := R_cond
theorem wp_lenT {x : List D} : R (cLen [.tup x] S) P ↔ P (.int x.length) S := R_some
theorem wp_lenL {x : List D} : R (cLen [.lst x] S) P ↔ P (.int x.length) S := R_some
theorem wp_lenC {x : List Int} : R (cLen [.scr x] S) P ↔ P (.int x.length) S := R_some
theorem wp_divmod {i j : Int} : R (cDivmod [.int i, .int j] S) P ↔ (0 < j ∧ lgI j) ∧ P (.tup [.int (i / j), .int (i % j)]) S := R_cond
theorem wp_listL {x : List D} : R (cList [.lst x] S) P ↔ P (.lst x) S := R_some
theorem wp_listT {x : List D} : R (cList [.tup x] S) P ↔ P (.lst x) S := R_some
theorem wp_tupL {x : List D} : R (cTuple [.lst x] S) P ↔ P (.tup x) S := R_some
theorem wp_tupT {x : List D} : R (cTuple [.tup x] S) P ↔ P (.tup x) S := R_some
/-! dicts of the text -/
theorem wp_KIn {neg : Bool} {tab : List (Str × Int)} : R (fKIn neg tab f env S) P ↔ R (f env S) fun d S1 => ∃ s, d = .str s ∧ P (.bl (if neg then !(tab.lookup s).isSome else (tab.lookup s).isSome)) S1 := by
  unfold fKIn
  simp only [R_bind]
  refine ⟨fun ⟨d, S1, e, q⟩ => ⟨d, S1, e, ?_⟩, fun ⟨d, S1, e, q⟩ => ⟨d, S1, e, ?_⟩⟩
  · cases d <;> first | exact (R_none.mp q).elim | exact ⟨_, rfl, R_some.mp q⟩
  · obtain ⟨s, rfl, q⟩ := q
    exact R_some.mpr q
theorem wp_strE {s : Str} {Q : Str → Prop} : (∃ z, D.str s = D.str z ∧ Q z) ↔ Q s := ⟨fun ⟨a, e, q⟩ => by cases e; exact q, fun q => ⟨s, rfl, q⟩⟩
/-! objects -/
theorem wp_Fld {c x : Str} : R (fFld c x f env S) P ↔ R (f env S) fun d S1 => ∃ q, insOf c d S1 = some q ∧ ∃ v, getF q.1 q.2 x = some v ∧ P v S1 := by
  unfold fFld
  simp only [R_bind]
  refine ⟨fun ⟨d, S1, e, q⟩ => ⟨d, S1, e, ?_⟩, fun ⟨d, S1, e, q⟩ => ⟨d, S1, e, ?_⟩⟩
  · obtain ⟨a, S3, e3, p⟩ := q
    obtain ⟨q1, h1, h2⟩ := bind_some e3
    obtain ⟨v, h3, h4⟩ := map_some h2
    cases h4
    exact ⟨q1, h1, _, h3, p⟩
  · obtain ⟨q1, h1, v, h3, p⟩ := q
    exact ⟨_, _, by rw [h1]; show ((getF q1.1 q1.2 x).map _) = _; rw [h3]; rfl, p⟩
theorem wp_FldO {c c' x : Str} {fs : List Str} {ds : List D} {Q : D → Prop} : (∃ q, insOf c (.obj c' fs ds) S = some q ∧ ∃ v, getF q.1 q.2 x = some v ∧ Q v) ↔ c' = c ∧ ∃ v, getF fs ds x = some v ∧ Q v := by
  show (∃ q, (if c' = c then some (fs, ds) else none) = some q ∧ _) ↔ _
  by_cases h : c' = c
  · rw [if_pos h]
    exact ⟨fun ⟨q, e, z⟩ => by cases e; exact ⟨h, z⟩, fun ⟨_, z⟩ => ⟨_, rfl, z⟩⟩
  · rw [if_neg h]
    exact ⟨fun ⟨q, e, z⟩ => (by cases e), fun ⟨z, _⟩ => absurd z h⟩
theorem wp_getF {x : Str} {fs : List Str} {ds : List D} {Q : D → Prop} {v : D} (h : getF fs ds x = some v) : (∃ u, getF fs ds x = some u ∧ Q u) ↔ Q v := by
  rw [h]
  exact ⟨fun ⟨u, e, z⟩ => by cases e; exact z, fun z => ⟨v, rfl, z⟩⟩
theorem wp_Meth {c x : Str} {g : FD} : R (fMeth c x g fo fas env S) P ↔ R (fo env S) fun d S1 => (∃ q, insOf c d S1 = some q ∧ hasF q.1 x = false) ∧ R (fas env S1) fun ds S2 => R (g (d :: ds) S2) P := by
  unfold fMeth
  simp only [R_bind]
  refine ⟨fun ⟨d, S1, e, q⟩ => ⟨d, S1, e, ?_⟩, fun ⟨d, S1, e, q⟩ => ⟨d, S1, e, ?_⟩⟩
  · obtain ⟨a, S3, e3, p⟩ := q
    obtain ⟨q1, h1, h2⟩ := bind_some e3
    split at h2
    · rename_i hh
      obtain ⟨⟨ds, S4⟩, h3, h4⟩ := bind_some h2
      exact ⟨⟨q1, h1, hh⟩, ds, S4, h3, a, S3, h4, p⟩
    · cases h2
  · obtain ⟨⟨q1, h1, hh⟩, ds, S4, h3, a, S3, h4, p⟩ := q
    refine ⟨a, S3, ?_, p⟩
    rw [h1]
    show (if hasF q1.1 x = false then _ else _) = _
    rw [if_pos hh, h3]
    exact h4
theorem wp_MakeF {c : Str} {fs : List Str} {g' : List D → Option (List D)} {dds : List D} : R (fMakeF c fs g' dds fas env S) P ↔ R (fas env S) fun ds S1 => ∃ vals, g' (ds ++ dds) = some vals ∧ P (.obj c fs vals) S1 := by
  unfold fMakeF
  simp only [R_bind]
  refine ⟨fun ⟨d, S1, e, q⟩ => ⟨d, S1, e, ?_⟩, fun ⟨d, S1, e, q⟩ => ⟨d, S1, e, ?_⟩⟩
  · obtain ⟨a, S3, e3, p⟩ := q
    obtain ⟨b, h1, h2⟩ := map_some e3
    cases h2
    exact ⟨b, h1, p⟩
  · obtain ⟨b, e3, p⟩ := q
    exact ⟨_, _, by rw [e3]; rfl, p⟩
theorem wp_someL {b : List D} {Q : List D → Prop} : (∃ c, some b = some c ∧ Q c) ↔ Q b := ⟨fun ⟨a, e, q⟩ => by cases e; exact q, fun q => ⟨b, rfl, q⟩⟩
end
/-! ## bounds in bits -/
def Bd (k : Nat) (i : Int) : Prop := i.natAbs < 2 ^ k
theorem bd_mul {a b : Nat} {i j : Int} (h : Bd a i) (g : Bd b j) : Bd (a + b) (i * j) := by
  unfold Bd at *
  rw [Int.natAbs_mul, Nat.pow_add]
  exact Nat.mul_lt_mul'' h g
theorem bd_mono {a b : Nat} {i : Int} (h : Bd a i) (g : a ≤ b) : Bd b i := Nat.lt_of_lt_of_le h (Nat.pow_le_pow_right (by decide) g)
theorem bd_add {a b : Nat} {i j : Int} (h : Bd a i) (g : Bd b j) : Bd (a + b + 1) (i + j) := by
  have h := bd_mono h (Nat.le_add_right a b)
  have g := bd_mono g (Nat.le_add_left b a)
  unfold Bd at *
  rw [Nat.pow_succ]
  have := Int.natAbs_add_le i j
  omega
theorem bd_sub {a b : Nat} {i j : Int} (h : Bd a i) (g : Bd b j) : Bd (a + b + 1) (i - j) := by
  rw [Int.sub_eq_add_neg]
  refine bd_add h ?_
  unfold Bd
  rw [Int.natAbs_neg]
  exact g
theorem bd_div {a : Nat} {i j : Int} (h : Bd a i) (g : 0 < j) : Bd (a + 1) (i / j) := by
  unfold Bd at *
  rw [Nat.pow_succ]
  have h1 : i / j ≤ i.natAbs := by
    have : i / j ≤ (i.natAbs : Int) / j := Int.ediv_le_ediv g (by omega)
    have := Int.ediv_le_self j (show (0 : Int) ≤ i.natAbs by omega)
    omega
  have h2 : -(i.natAbs : Int) - 1 ≤ i / j := by
    have h3 : (-(i.natAbs : Int)) / j ≤ i / j := Int.ediv_le_ediv g (by omega)
    have h4 : -(i.natAbs : Int) - 1 ≤ (-(i.natAbs : Int)) / j := by
      apply Int.le_ediv_of_mul_le g
      have : (0 : Int) ≤ i.natAbs := by omega
      have : (i.natAbs : Int) * 1 ≤ (i.natAbs : Int) * j := Int.mul_le_mul_of_nonneg_left (by omega) this
      rw [Int.sub_mul, Int.neg_mul]
      omega
    omega
  omega
theorem small_bd {a : Nat} {i : Int} (h : Bd a i) (g : a ≤ 400000) (g0 : 0 < a) : smallI i = true := by
  unfold smallI
  refine decide_eq_true ?_
  by_cases e : i.natAbs = 0
  · rw [e]; decide
  · exact Nat.lt_of_lt_of_le ((Nat.log2_lt e).mpr h) g
theorem lg_bd {a : Nat} {i : Int} (h : Bd a i) (g : a ≤ 9000) : lgI i := by
  unfold lgI
  by_cases e : i.natAbs = 0
  · rw [e]; decide
  · exact Nat.lt_of_lt_of_le ((Nat.log2_lt e).mpr h) g
end DL

namespace DL
open PySem PySem.Spec PyProof.Rows L2
section
variable {α β : Type} {env : DEnv} {S S1 : Sto} {f1 f2 : FS} {t u : FT} {f fa fb fc fo fe fv fk fx : FE} {fas : FA} {P : D → Sto → Prop} {PA : List D → Sto → Prop} {PT : Bool → Sto → Prop} {PS : Fl → Sto → Prop} {PG : DEnv → Sto → Prop}
theorem wp_sFld {c x : Str} : R (sFldD c x fo fv env S) PS ↔ R (fv env S) fun v S1 => R (fo env S1) fun d S2 => ∃ i, d = .ref i ∧ ∃ c' fs ds, S2[i]? = some (.ins c' fs ds) ∧ (c' = c ∧ fs.length < 900) ∧ PS (.nx env) (S2.set i (.ins c (putN fs x) (putD fs ds x v))) := by
  unfold sFldD
  simp only [R_bind]
  refine ⟨fun ⟨v, S1, e, d, S2, e2, q⟩ => ⟨v, S1, e, d, S2, e2, ?_⟩, fun ⟨v, S1, e, d, S2, e2, q⟩ => ⟨v, S1, e, d, S2, e2, ?_⟩⟩
  · cases d with
    | ref i =>
      dsimp only at q
      split at q
      · rename_i c' fs ds hc
        rw [R_cond] at q
        exact ⟨i, rfl, c', fs, ds, hc, q.1, q.2⟩
      · exact (R_none.mp q).elim
    | _ => exact (R_none.mp q).elim
  · obtain ⟨i, rfl, c', fs, ds, h1, h2, h3⟩ := q
    dsimp only
    rw [h1]
    exact R_cond.mpr ⟨h2, h3⟩
theorem wp_last {c0 : Str} {f0 : List Str} {d0 : List D} {Q : Nat → Str → List Str → List D → Prop} : (∃ i, D.ref S.length = .ref i ∧ ∃ c' fs ds, (S ++ [Cell.ins c0 f0 d0])[i]? = some (.ins c' fs ds) ∧ Q i c' fs ds) ↔ Q S.length c0 f0 d0 := by
  have h : (S ++ [Cell.ins c0 f0 d0])[S.length]? = some (.ins c0 f0 d0) := by simp
  refine ⟨fun ⟨i, e, c', fs, ds, h1, q⟩ => ?_, fun q => ⟨_, rfl, _, _, _, h, q⟩⟩
  cases e
  rw [h] at h1
  cases h1
  exact q
theorem wp_KIx {tab : List (Str × Int)} : R (fKIx tab f env S) P ↔ R (f env S) fun d S1 => ∃ s, d = .str s ∧ ∃ v, tab.lookup s = some v ∧ P (.int v) S1 := by
  unfold fKIx
  simp only [R_bind]
  refine ⟨fun ⟨d, S1, e, q⟩ => ⟨d, S1, e, ?_⟩, fun ⟨d, S1, e, q⟩ => ⟨d, S1, e, ?_⟩⟩
  · cases d with
    | str s =>
      obtain ⟨a, S3, e3, p⟩ := q
      obtain ⟨b, h1, h2⟩ := map_some e3
      cases h2
      exact ⟨s, rfl, b, h1, p⟩
    | _ => exact (R_none.mp q).elim
  · obtain ⟨s, rfl, v, h1, p⟩ := q
    exact ⟨_, _, by show ((tab.lookup s).map _) = _; rw [h1]; rfl, p⟩
theorem wp_someX {b : α} {Q : α → Prop} : (∃ c, some b = some c ∧ Q c) ↔ Q b := ⟨fun ⟨a, e, q⟩ => by cases e; exact q, fun q => ⟨b, rfl, q⟩⟩
theorem wp_lk {o : Option Int} {v : Int} {Q : Int → Prop} (h : o = some v) : (∃ u, o = some u ∧ Q u) ↔ Q v := by
  rw [h]
  exact ⟨fun ⟨u, e, z⟩ => by cases e; exact z, fun z => ⟨v, rfl, z⟩⟩
theorem wp_inT {neg : Bool} {k : Str} {ds : List D} : R (gInB neg (.str k) (.tup ds) S) P ↔ ds.all flatD = true ∧ P (.bl (if neg then !ds.any (fun z => eqF z (.str k)) else ds.any (fun z => eqF z (.str k)))) S := by
  show R (if flatD (.str k) = true ∧ ds.all flatD = true then _ else _) P ↔ _
  rw [R_cond]
  exact ⟨fun ⟨⟨_, h⟩, q⟩ => ⟨h, q⟩, fun ⟨h, q⟩ => ⟨⟨rfl, h⟩, q⟩⟩
theorem wp_inL {neg : Bool} {k : Str} {ds : List D} : R (gInB neg (.str k) (.lst ds) S) P ↔ ds.all flatD = true ∧ P (.bl (if neg then !ds.any (fun z => eqF z (.str k)) else ds.any (fun z => eqF z (.str k)))) S := by
  show R (if flatD (.str k) = true ∧ ds.all flatD = true then _ else _) P ↔ _
  rw [R_cond]
  exact ⟨fun ⟨⟨_, h⟩, q⟩ => ⟨h, q⟩, fun ⟨h, q⟩ => ⟨⟨rfl, h⟩, q⟩⟩
theorem wp_inS {neg : Bool} {k y : Str} : R (gInB neg (.str k) (.str y) S) P ↔ P (.bl (if neg then !(!(Builtin.Str.occurrences y k 0 y.length 1).isEmpty) else !(Builtin.Str.occurrences y k 0 y.length 1).isEmpty)) S := by
  cases neg <;> exact R_some
theorem eqF_str {a b : Str} : eqF (.str a) (.str b) = decide (a = b) := by
  by_cases h : a = b
  · subst h; simp [eqF]
  · simp [eqF, h]
theorem flat_str {a : Str} : flatD (.str a) = true := rfl
theorem flat_int {a : Int} : flatD (.int a) = true := rfl
theorem flat_non : flatD .non = true := rfl
theorem R_eq {o : Option (α × Sto)} {a : α} : (R o fun x S' => x = a ∧ S' = S) ↔ o = some (a, S) := ⟨R.eq, fun h => ⟨a, S, h, rfl, rfl⟩⟩
theorem eq_R {o : Option (α × Sto)} {a : α} {P : α → Sto → Prop} (h : o = some (a, S)) : R o P ↔ P a S := by rw [h]; exact R_some
theorem wp_ixR {k : Nat} {i : Int} {ds : List D} (h : S[k]? = some (.lst ds)) : R (gIx (.ref k) (.int i) S) P ↔ ∃ d, L2.atI ds i = some d ∧ P d S := by
  unfold gIx
  simp only [h]
  rw [R]
  refine ⟨fun ⟨a, S', e, p⟩ => ?_, fun ⟨d, e, p⟩ => ⟨d, S, by rw [e]; rfl, p⟩⟩
  obtain ⟨d, h1, h2⟩ := map_some e
  cases h2
  exact ⟨_, h1, p⟩
theorem wp_ixL {i : Int} {ds : List D} : R (gIx (.lst ds) (.int i) S) P ↔ ∃ d, L2.atI ds i = some d ∧ P d S := by
  rw [R]
  refine ⟨fun ⟨a, S', e, p⟩ => ?_, fun ⟨d, e, p⟩ => ⟨d, S, by show (L2.atI ds i).map _ = _; rw [e]; rfl, p⟩⟩
  obtain ⟨d, h1, h2⟩ := map_some (show (L2.atI ds i).map _ = _ from e)
  cases h2
  exact ⟨_, h1, p⟩
theorem wp_ixT {i : Int} {ds : List D} : R (gIx (.tup ds) (.int i) S) P ↔ ∃ d, L2.atI ds i = some d ∧ P d S := by
  rw [R]
  refine ⟨fun ⟨a, S', e, p⟩ => ?_, fun ⟨d, e, p⟩ => ⟨d, S, by show (L2.atI ds i).map _ = _; rw [e]; rfl, p⟩⟩
  obtain ⟨d, h1, h2⟩ := map_some (show (L2.atI ds i).map _ = _ from e)
  cases h2
  exact ⟨_, h1, p⟩
theorem wp_ixC {i : Int} {ns : List Int} : R (gIx (.scr ns) (.int i) S) P ↔ ∃ d, L2.atI ns i = some d ∧ P (.int d) S := by
  rw [R]
  refine ⟨fun ⟨a, S', e, p⟩ => ?_, fun ⟨d, e, p⟩ => ⟨.int d, S, by show (L2.atI ns i).map _ = _; rw [e]; rfl, p⟩⟩
  obtain ⟨d, h1, h2⟩ := map_some (show (L2.atI ns i).map _ = _ from e)
  cases h2
  exact ⟨_, h1, p⟩
theorem wp_setR {k : Nat} {i : Int} {v : D} {ds : List D} {Q : Sto → Prop} (h : S[k]? = some (.lst ds)) : RU (gSetA (.ref k) (.int i) v S) Q ↔ ∃ j, ixN ds.length i = some j ∧ Q (S.set k (.lst (ds.set j v))) := by
  unfold gSetA
  simp only [h]
  rw [RU]
  refine ⟨fun ⟨a, e, p⟩ => ?_, fun ⟨d, e, p⟩ => ⟨_, by rw [e]; rfl, p⟩⟩
  obtain ⟨d, h1, h2⟩ := map_some e
  cases h2
  exact ⟨_, h1, p⟩
theorem atI0 {α : Type} {a : α} {r : List α} : L2.atI (a :: r) 0 = some a := by
  unfold L2.atI ixN
  rw [if_pos (by decide), if_pos (by rw [List.length_cons]; omega)]
  rfl
theorem atI1 {α : Type} {a b : α} {r : List α} : L2.atI (a :: b :: r) 1 = some b := by
  unfold L2.atI ixN
  rw [if_pos (by decide), if_pos (by rw [List.length_cons, List.length_cons]; omega)]
  rfl
theorem atI2 {α : Type} {a b c : α} {r : List α} : L2.atI (a :: b :: c :: r) 2 = some c := by
  unfold L2.atI ixN
  rw [if_pos (by decide), if_pos (by rw [List.length_cons, List.length_cons, List.length_cons]; omega)]
  rfl
theorem ixN0 {n : Nat} : ixN (n + 1) 0 = some 0 := by
  unfold ixN
  rw [if_pos (by decide), if_pos (by omega)]
  rfl
theorem ixN1 {n : Nat} : ixN (n + 1 + 1) 1 = some 1 := by
  unfold ixN
  rw [if_pos (by decide), if_pos (by omega)]
  rfl
theorem atI_in {α : Type} {xs : List α} {i : Int} (h0 : 0 ≤ i) (h1 : i < xs.length) : ∃ x, L2.atI xs i = some x ∧ x ∈ xs := by
  refine ⟨xs[i.toNat]'(by omega), ?_, List.getElem_mem _⟩
  unfold L2.atI ixN
  rw [if_pos h0, if_pos h1]
  exact List.getElem?_eq_getElem _
/-! comprehensions -/
theorem wp_Lc {fi : FA} {g : FG} {vs : List Nat} : R (fLc fi g t f vs env S) P ↔ R (fi env S) fun xs S1 => xs.length ≤ 1000000 ∧ R (lcD g t f (wipeD env vs) xs S1) fun ds S2 => P (.lst ds) S2 := by
  unfold fLc
  simp only [R_bind]
  refine ⟨fun ⟨x, S1, e, q⟩ => ⟨x, S1, e, ?_⟩, fun ⟨x, S1, e, q⟩ => ⟨x, S1, e, ?_⟩⟩
  · dsimp only at q
    split at q
    · rename_i h
      rw [R_bind] at q
      simp only [R_some] at q
      exact ⟨h, q⟩
    · exact (R_none.mp q).elim
  · obtain ⟨h, q⟩ := q
    rw [if_pos h, R_bind]
    simp only [R_some]
    exact q
theorem wp_lc0 {g : FG} : R (lcD g t f env [] S) PA ↔ PA [] S := R_some
theorem wp_lcS {g : FG} {x : D} {xs : List D} : R (lcD g t f env (x :: xs) S) PA ↔ R (g x env S) fun e S1 => R (t e S1) fun b S2 => if b = true then R (f e S2) fun y S3 => R (lcD g t f env xs S3) fun ds S4 => PA (y :: ds) S4 else R (lcD g t f env xs S2) PA := by
  show R ((g x env S).bind _) PA ↔ _
  simp only [R_bind, R_ite, R_some]
theorem wp_Yes : R (tYesD env S) PT ↔ PT true S := R_some
theorem r_lcD {g : FG} (Q : D → Prop) (I : Sto → Prop) : ∀ {items : List D} {S : Sto}, (∀ x ∈ items, ∀ S, I S → R (g x env S) fun e S1 => R (t e S1) fun b S2 => if b = true then R (f e S2) fun y S3 => Q y ∧ I S3 else I S2) → I S →
    R (lcD g t f env items S) fun ds S' => (∀ d ∈ ds, Q d) ∧ I S'
  | [], S, _, h => R_some.mpr ⟨fun d hd => (by cases hd), h⟩
  | x :: xs, S, hs, h => by
    rw [wp_lcS]
    refine (hs x (by simp) S h).imp fun e S1 h1 => h1.imp fun b S2 h2 => ?_
    cases b with
    | true =>
      refine R.imp h2 fun y S3 h3 => ?_
      refine (r_lcD Q I (fun z hz => hs z (by simp [hz])) h3.2).imp fun ds S4 h4 => ⟨fun d hd => ?_, h4.2⟩
      rcases List.mem_cons.mp hd with rfl | hd
      · exact h3.1
      · exact h4.1 d hd
    | false => exact r_lcD Q I (fun z hz => hs z (by simp [hz])) h2
theorem bools_true : ∀ {ds : List D}, (∀ d ∈ ds, d = .bl true) → ∃ bs, asBools ds = some bs ∧ bs.all id = true
  | [], _ => ⟨[], rfl, rfl⟩
  | d :: ds, h => by
    obtain ⟨bs, h1, h2⟩ := bools_true (ds := ds) fun z hz => h z (by simp [hz])
    have := h d (by simp)
    subst this
    exact ⟨true :: bs, by show (asBools ds).map _ = _; rw [h1]; rfl, by simpa using h2⟩
theorem all_true {ds : List D} (h : ∀ d ∈ ds, d = .bl true) : cAll [.lst ds] S = some (.bl true, S) := by
  obtain ⟨bs, h1, h2⟩ := bools_true h
  show (asBools ds).map _ = _
  rw [h1, ← h2]
  rfl
theorem mem_range {a b : Int} {d : D} (h : d ∈ rangeD a b) : ∃ i, d = .int i ∧ a ≤ i ∧ i < b := by
  unfold rangeD at h
  obtain ⟨k, hk, rfl⟩ := List.mem_map.mp h
  have := List.mem_range.mp hk
  exact ⟨_, rfl, by omega, by omega⟩
theorem len_range {a b : Int} : (rangeD a b).length = (b - a).toNat := by simp [rangeD]
theorem okR_of {i : Int} (h : -1000000000000 ≤ i) (h2 : i ≤ 1000000000000) : okR i = true := by
  unfold okR
  rw [decide_eq_true (by omega), decide_eq_true (by omega)]
  rfl
/-- the other cells are as they were -/
def Apart (S S' : Sto) (i : Nat) : Prop := S'.length = S.length ∧ ∀ j, j ≠ i → S'[j]? = S[j]?
theorem Apart.refl (S : Sto) (i : Nat) : Apart S S i := ⟨rfl, fun _ _ => rfl⟩
theorem Apart.trans {S S1 S2 : Sto} {i : Nat} (a : Apart S S1 i) (b : Apart S1 S2 i) : Apart S S2 i := ⟨b.1.trans a.1, fun j h => (b.2 j h).trans (a.2 j h)⟩
theorem Apart.set (S : Sto) (i : Nat) (c : Cell) : Apart S (S.set i c) i := ⟨by simp, fun j h => by rw [List.getElem?_set_ne (fun e => h e.symm)]⟩
theorem set_at {S : Sto} {i : Nat} {c c' : Cell} (h : S[i]? = some c) : (S.set i c')[i]? = some c' := List.getElem?_set_self (List.getElem?_eq_some_iff.mp h).1
theorem wp_pow10_9 : R (gI (fun i j => decide (0 ≤ j) && decide (j ≤ 1000000) && decide (i.natAbs < 18446744073709551616)) (fun i j => .int (i ^ j.toNat)) (.int 10) (.int 9) S) P ↔ P (.int 1000000000) S := R_some
theorem wp_pow10_18 : R (gI (fun i j => decide (0 ≤ j) && decide (j ≤ 1000000) && decide (i.natAbs < 18446744073709551616)) (fun i j => .int (i ^ j.toNat)) (.int 10) (.int 18) S) P ↔ P (.int 1000000000000000000) S := R_some
theorem wp_pow10_40 : R (gI (fun i j => decide (0 ≤ j) && decide (j ≤ 1000000) && decide (i.natAbs < 18446744073709551616)) (fun i j => .int (i ^ j.toNat)) (.int 10) (.int 40) S) P ↔ P (.int 10000000000000000000000000000000000000000) S := R_some
theorem wp_Sl {lo hi : FO} : R (fSl fa lo hi env S) P ↔ R (fa env S) fun x S1 => R (lo env S1) fun i S2 => R (hi env S2) fun j S3 => R (gSl x i j S3) P := by unfold fSl; simp only [R_bind]
theorem wp_oNone {Q : Option Int → Sto → Prop} : R (oNone env S) Q ↔ Q none S := R_some
theorem wp_oSome {Q : Option Int → Sto → Prop} : R (oSome f env S) Q ↔ R (f env S) fun d S1 => WI d fun i => Q (some i) S1 := by
  unfold oSome
  simp only [R_bind]
  refine ⟨fun ⟨d, S1, e, q⟩ => ⟨d, S1, e, ?_⟩, fun ⟨d, S1, e, q⟩ => ⟨d, S1, e, ?_⟩⟩
  · cases d <;> first | exact (R_none.mp q).elim | exact R_some.mp q
  · cases d <;> first | exact q.elim | exact R_some.mpr q
theorem wp_slC {ns : List Int} {lo hi : Option Int} : R (gSl (.scr ns) lo hi S) P ↔ P (.lst ((cutD ns lo hi).map .int)) S := R_some
theorem wp_slL {ds : List D} {lo hi : Option Int} : R (gSl (.lst ds) lo hi S) P ↔ P (.lst (cutD ds lo hi)) S := R_some
theorem wp_slS {x : Str} {lo hi : Option Int} : R (gSl (.str x) lo hi S) P ↔ x.length ≤ 16777216 ∧ P (.str (cutS x lo hi)) S := R_cond
theorem map_inj_nat : ∀ {a b : List Char}, a.map Char.toNat = b.map Char.toNat → a = b
  | [], [], _ => rfl
  | [], _ :: _, h => by cases h
  | _ :: _, [], h => by cases h
  | x :: a, y :: b, h => by
    simp only [List.map_cons, List.cons.injEq] at h
    rw [map_inj_nat h.2, Char.ext (UInt32.toNat_inj.mp h.1)]
theorem str_eq {a b : String} : (Str.ofString a = Str.ofString b) ↔ a = b := by
  refine ⟨fun h => ?_, fun h => by rw [h]⟩
  rw [Str.ofString_eq_toList, Str.ofString_eq_toList] at h
  have h1 : (a.toList.map Char.toNat).toArray.toList = (b.toList.map Char.toNat).toArray.toList := congrArg (fun z : Str => z.cps.toList) h
  exact String.toList_inj.mp (map_inj_nat h1)
theorem in_ring_crowd : R (gInB false (.str "ring") (.str "crowd") S) P ↔ P (.bl false) S := by
  rw [wp_inS, show (Builtin.Str.occurrences ("crowd" : Str) "ring" 0 ("crowd" : Str).length 1).isEmpty = true by decide +kernel]
  exact Iff.rfl
theorem in_ring_star : R (gInB false (.str "ring") (.str "star") S) P ↔ P (.bl false) S := by
  rw [wp_inS, show (Builtin.Str.occurrences ("star" : Str) "ring" 0 ("star" : Str).length 1).isEmpty = true by decide +kernel]
  exact Iff.rfl
theorem in_ring_pairs : R (gInB false (.str "ring") (.str "pairs") S) P ↔ P (.bl false) S := by
  rw [wp_inS, show (Builtin.Str.occurrences ("pairs" : Str) "ring" 0 ("pairs" : Str).length 1).isEmpty = true by decide +kernel]
  exact Iff.rfl
theorem in_ring_row : R (gInB false (.str "ring") (.str "row") S) P ↔ P (.bl false) S := by
  rw [wp_inS, show (Builtin.Str.occurrences ("row" : Str) "ring" 0 ("row" : Str).length 1).isEmpty = true by decide +kernel]
  exact Iff.rfl
theorem in_ring_ring : R (gInB false (.str "ring") (.str "ring") S) P ↔ P (.bl true) S := by
  rw [wp_inS, show (Builtin.Str.occurrences ("ring" : Str) "ring" 0 ("ring" : Str).length 1).isEmpty = false by decide +kernel]
  exact Iff.rfl
theorem in_ring_core : R (gInB false (.str "ring") (.str "core") S) P ↔ P (.bl false) S := by
  rw [wp_inS, show (Builtin.Str.occurrences ("core" : Str) "ring" 0 ("core" : Str).length 1).isEmpty = true by decide +kernel]
  exact Iff.rfl
theorem in_ring_linked : R (gInB false (.str "ring") (.str "linked") S) P ↔ P (.bl false) S := by
  rw [wp_inS, show (Builtin.Str.occurrences ("linked" : Str) "ring" 0 ("linked" : Str).length 1).isEmpty = true by decide +kernel]
  exact Iff.rfl
theorem in_ring_odd_ring : R (gInB false (.str "ring") (.str "odd ring") S) P ↔ P (.bl true) S := by
  rw [wp_inS, show (Builtin.Str.occurrences ("odd ring" : Str) "ring" 0 ("odd ring" : Str).length 1).isEmpty = false by decide +kernel]
  exact Iff.rfl
theorem in_ring_even_ring : R (gInB false (.str "ring") (.str "even ring") S) P ↔ P (.bl true) S := by
  rw [wp_inS, show (Builtin.Str.occurrences ("even ring" : Str) "ring" 0 ("even ring" : Str).length 1).isEmpty = false by decide +kernel]
  exact Iff.rfl
end
end DL

namespace DL
open PySem PySem.Spec PyProof.Rows L2
/-! ## calls by name -/
section
variable {K : PySem.W.Frag} {ct : CT} {m : List Addr} {F : Hp}
theorem Reps.kwG {idx : List Nat} {ds es : List D} {vs us : List V} (h : Reps K ct m F ds vs) (g : Reps K ct m F es us) : Reps K ct m F (kwG idx ds es) (kwG idx vs us) := by
  refine h.append ?_
  induction idx with
  | nil => exact rfl
  | cons i r ih =>
    by_cases hi : i < es.length
    · obtain ⟨v, h1, h2⟩ := g.get (List.getElem?_eq_getElem hi)
      rw [List.filterMap_cons_some (b := es[i]) (List.getElem?_eq_getElem hi), List.filterMap_cons_some h1]
      exact ⟨_, _, rfl, h2, ih⟩
    · rw [List.filterMap_cons_none (List.getElem?_eq_none (by omega)), List.filterMap_cons_none (List.getElem?_eq_none (by rw [← g.length]; omega))]
      exact ih
theorem kwG_vals {idx : List Nat} {vs zs : List V} {us ws : List Value} (h : Vals vs us) (g : Vals zs ws) : Vals (kwG idx vs zs) (kwG idx us ws) := by
  refine h.append ?_
  induction idx with
  | nil => exact .nil
  | cons i r ih =>
    have key : ∀ {zs : List V} {ws : List Value} {i : Nat}, Vals zs ws → (∃ z w, zs[i]? = some z ∧ ws[i]? = some w ∧ RelV z w) ∨ (zs[i]? = none ∧ ws[i]? = none) := by
      intro zs ws i g
      induction g generalizing i with
      | nil => exact .inr ⟨rfl, rfl⟩
      | cons a _ ih =>
        cases i with
        | zero => exact .inl ⟨_, _, rfl, rfl, a⟩
        | succ i => simpa using ih (i := i)
    rcases key (i := i) g with ⟨z, w, h1, h2, h3⟩ | ⟨h1, h2⟩
    · rw [List.filterMap_cons_some h1, List.filterMap_cons_some h2]
      exact .cons h3 ih
    · rw [List.filterMap_cons_none h1, List.filterMap_cons_none h2]
      exact ih
end
section
variable {ct : CT} {X : Cx} {C : Addr} {c x : Str} {e o : Expr} {fe fo : FE} {fas : FA} {kws : List Keyword} {pos apos p : Pos} {k n : Nat} {g : FD} {kwb : KWB} {ks : List Str} {idx : List Nat}
def SK (ct : CT) (X : Cx) (kws : List Keyword) (f : FA) : Prop := ∃ t, PK X kws t ∧ ∀ m F S σ H env ds S' Q, Sim X.K ct m F S H → EnvR X.K ct m F env σ → f env S = some (ds, S') → PostA ct X.K m F H S' ds Q → t σ H Q
theorem sk_nil : SK ct X [] fNil := ⟨_, pk_nil, fun m F S σ H env d S' Q s en h p => by
  cases h
  exact p m F [] H (Ext.refl _ _ _) s rfl⟩
theorem sk_cons {nm : Option Str} {kpos : Pos} (ha : SE ct X e fe) (hr : SK ct X kws fas) : SK ct X (⟨nm, e, kpos⟩ :: kws) (fCons fe fas) := by
  obtain ⟨ta, pa, ra⟩ := ha
  obtain ⟨tb, pb, rb⟩ := hr
  refine ⟨_, pk_cons pa pb, fun m F S σ H env d S' Q s en h p => ?_⟩
  obtain ⟨⟨y, S1⟩, h1, h⟩ := bind_some h
  obtain ⟨⟨ys, S2⟩, h2, h⟩ := bind_some h
  cases h
  refine ra m F S σ H env y S1 _ s en h1 fun m1 F1 v1 H1 x1 s1 r1 => ?_
  refine rb m1 F1 S1 σ H1 env ys S2 _ s1 (en.mono x1) h2 fun m2 F2 v2 H2 x2 s2 r2 => ?_
  exact p m2 F2 (v1 :: v2) H2 (x1.trans x2) s2 ⟨v1, v2, rfl, r1.mono x2, r2⟩
def fMethK (c x : Str) (g : FD) (idx : List Nat) (fo : FE) (fks : FA) : FE := fun env S => (fo env S).bind fun p => (insOf c p.1 p.2).bind fun q => if hasF q.1 x = false then (fks env p.2).bind fun r => g (kwG idx [p.1] r.1) r.2 else none
theorem se_methK {pl : Sem Bool} (kc : Klass X.K ct c C) (M : CalleeM X.prog X.w X.K X.mg X.base ct k C x n g kwb) (hmem : (ks, idx) ∈ kwb) (hr : RoomG k X.A) (ho : SE ct X o fo) (ha : SK ct X kws fas) (hn : ∀ env S ds S', fas env S = some (ds, S') → ds.length = ks.length)
    (hlen : ∀ (v : V) (zs : List V), zs.length = ks.length → (kwG idx [v] zs).length = n) (hall : (backToKw pos (keywordEach kws X.env)).all (·.1.isSome) = true := by rfl) (hks : (backToKw pos (keywordEach kws X.env)).filterMap (·.1) = ks := by rfl)
    (hpl : ((backTo pos (starEach [] X.env)).any (·.1) || (backToKw pos (keywordEach kws X.env)).any (·.1.isNone)) = false := by rfl)
    (ht : eval (.Call (.Attribute o x apos) [] kws pos) X.env = (eval o X.env >>= fun ov => standAt apos.atName >>= fun _ => holding [ov] (getMethod ov x pl) >>= fun q =>
      callWith pos q.1 q.2 (backTo pos (starEach [] X.env)) (backToKw pos (keywordEach kws X.env))) := by rfl) : SE ct X (.Call (.Attribute o x apos) [] kws pos) (fMethK c x g idx fo fas) := by
  obtain ⟨f, fd, ps, me, bi, fn⟩ := M
  obtain ⟨ta, pa, ra⟩ := ho
  obtain ⟨tb, pb, rb⟩ := ha
  refine ⟨_, pe_methGK (E := fun _ _ _ => False) pa kc.cls me fn hr (bi.2 _ hmem) pb hall hks hpl ht, fun m F S σ H env d S' Q s en h p => ?_⟩
  obtain ⟨⟨z, S1⟩, h1, h⟩ := bind_some h
  obtain ⟨⟨fs, ds⟩, h2, h⟩ := bind_some h
  dsimp only at h
  split at h
  · rename_i hh
    obtain ⟨⟨xs, S2⟩, h3, h⟩ := bind_some h
    refine ra m F S σ H env z S1 _ s en h1 fun m1 F1 v1 H1 x1 s1 r1 => ?_
    obtain ⟨a, dx, vs, e1, e2, e3, e4⟩ := insOf_rep kc s1 r1 h2
    refine ⟨a, dx, _, e1, e2, hasF_none hh, ?_⟩
    refine rb m1 F1 S1 σ H1 env xs S2 _ s1 (en.mono x1) h3 fun m2 F2 us H2 x2 s2 r2 => ?_
    have hl : us.length = ks.length := by rw [← r2.length, hn _ _ _ _ h3]
    exact ⟨hl, hlen v1 us hl, m2, F2, S2, kwG idx [z] xs, d, S', s2, Reps.kwG (Reps.mk1 (r1.mono x2)) r2, h, p.ext (x1.trans x2)⟩
  · cases h
def fCallK (g : FD) (idx : List Nat) (fks : FA) : FE := fun env S => (fks env S).bind fun r => g (kwG idx [] r.1) r.2
theorem se_fnK (M : Callee X.prog X.w X.K X.mg X.base ct k x n g kwb) (hmem : (ks, idx) ∈ kwb) (hr : RoomG k X.A) (hg : Gl X x) (ha : SK ct X kws fas) (hn : ∀ env S ds S', fas env S = some (ds, S') → ds.length = ks.length)
    (hlen : ∀ zs : List V, zs.length = ks.length → (kwG idx [] zs).length = n) (hall : (backToKw pos (keywordEach kws X.env)).all (·.1.isSome) = true := by rfl) (hks : (backToKw pos (keywordEach kws X.env)).filterMap (·.1) = ks := by rfl) (hdb : (x == ("__debug__" : Str)) = false := by decide)
    (hpl : ((backTo pos (starEach [] X.env)).any (·.1) || (backToKw pos (keywordEach kws X.env)).any (·.1.isNone)) = false := by rfl) : SE ct X (.Call (.Name x p) [] kws pos) (fCallK g idx fas) := by
  obtain ⟨f, fd, ps, h1, h2, bi, fn⟩ := M
  obtain ⟨tb, pb, rb⟩ := ha
  refine ⟨_, pe_callGK (E := fun _ _ _ => False) fn hr hg h1 h2 (bi.2 _ hmem) pb hall hks hdb hpl, fun m F S σ H env d S' Q s en h p => ?_⟩
  obtain ⟨⟨xs, S2⟩, h3, h⟩ := bind_some h
  refine rb m F S σ H env xs S2 _ s en h3 fun m2 F2 us H2 x2 s2 r2 => ?_
  have hl : us.length = ks.length := by rw [← r2.length, hn _ _ _ _ h3]
  exact ⟨hl, hlen us hl, m2, F2, S2, kwG idx [] xs, d, S', s2, Reps.kwG rfl r2, h, p.ext x2⟩
/-! ## repr of data -/
def rRepr (K : PySem.W.Frag) : List V → Hp → VK → Prop := fun xs H Q => ∃ v p, xs = [v] ∧ Dp K H v p ∧ (p.showable = true ∧ p.hasDict = false ∧ p.depth ≤ 50 ∧ p.shown.length ≤ sizeLine) ∧ Q (.str p.shown) H
theorem call_reprG (hr : RoomG k X.A) : CallR X (.builtin "repr") (rRepr X.K) := by
  intro pins s σ H xs us Q I r h
  obtain ⟨v, pd, rfl, hd, ⟨h1, h2, h3, h4⟩, q⟩ := h
  obtain ⟨u, rfl, ru⟩ := vals1 r
  obtain ⟨as, rd⟩ := Dp.reads I pd v u hd ru
  have hu : X.A.units + (pd.depth + 1) < cLine := by
    have := hr.units
    omega
  have main : ∀ a, u = .ref a → wpAny (model X.prog X.w) X.A (call (.builtin "repr") [u]) (EP X pins σ Q) X.xe s := by
    rintro a rfl
    exact repr_of_reads' (h₀ := s.heap) rd h1 (PyData.noDict_hsm h2) hr.gd hu (fun _ _ e => e) (fun h' w tk hk => ⟨.str _, H, I.kept hk, ⟨_, rfl⟩, q⟩) h4
  cases hd with
  | non => obtain rfl : u = .none := ru; exact PySem.P.repr_of_none ⟨.str _, H, I.tok _, ⟨_, rfl⟩, q⟩
  | bl b => obtain rfl : u = .bool b := ru; exact PySem.P.repr_of_bool ⟨.str _, H, I.tok _, ⟨_, rfl⟩, q⟩
  | int i => obtain ⟨t, rfl⟩ := ru; exact PySem.P.repr_of_int (of_decide_eq_true h1) ⟨.str _, H, I.tok _, ⟨_, rfl⟩, q⟩
  | str y => obtain ⟨t, rfl⟩ := ru; exact PySem.P.repr_of_str ⟨.str _, H, I.tok _, ⟨_, rfl⟩, q⟩ h4
  | tup _ _ => exact main _ ru
  | lst _ _ => exact main _ ru
def cRepr : FD
  | [d], S => (toP d).bind fun p => if p.showable = true ∧ p.hasDict = false ∧ p.depth ≤ 50 ∧ p.shown.length ≤ 16777216 then some (.str p.shown, S) else none
  | _, _ => none
theorem cd_repr {K : PySem.W.Frag} : CallD ct K (rRepr K) cRepr := by
  intro m F S H xs ds d S' Q s r h p
  unfold cRepr at h
  split at h
  · rename_i d0
    obtain ⟨pd, h1, h⟩ := bind_some h
    split at h
    · rename_i hc
      cases h
      obtain ⟨v, e1, e2⟩ := reps1 r
      exact ⟨v, pd, e1, Rep.dp s.same d0 v pd e2 h1, ⟨hc.1, hc.2.1, hc.2.2.1, by rw [line_eq]; exact hc.2.2.2⟩, p.now s rfl⟩
    · cases h
  · cases h
/-! steps -/
variable {env : DEnv} {S : Sto} {P : D → Sto → Prop}
theorem wp_MethK {fks : FA} : R (fMethK c x g idx fo fks env S) P ↔ R (fo env S) fun d S1 => (∃ q, insOf c d S1 = some q ∧ hasF q.1 x = false) ∧ R (fks env S1) fun ds S2 => R (g (kwG idx [d] ds) S2) P := by
  unfold fMethK
  simp only [R_bind]
  refine ⟨fun ⟨d, S1, e, q⟩ => ⟨d, S1, e, ?_⟩, fun ⟨d, S1, e, q⟩ => ⟨d, S1, e, ?_⟩⟩
  · obtain ⟨a, S3, e3, p⟩ := q
    obtain ⟨q1, h1, h2⟩ := bind_some e3
    split at h2
    · rename_i hh
      obtain ⟨⟨ds, S4⟩, h3, h4⟩ := bind_some h2
      exact ⟨⟨q1, h1, hh⟩, ds, S4, h3, a, S3, h4, p⟩
    · cases h2
  · obtain ⟨⟨q1, h1, hh⟩, ds, S4, h3, a, S3, h4, p⟩ := q
    refine ⟨a, S3, ?_, p⟩
    rw [h1]
    show (if hasF q1.1 x = false then _ else _) = _
    rw [if_pos hh, h3]
    exact h4
theorem wp_CallK {fks : FA} : R (fCallK g idx fks env S) P ↔ R (fks env S) fun ds S1 => R (g (kwG idx [] ds) S1) P := by unfold fCallK; simp only [R_bind]
theorem kwG_def {α : Type} {vs zs : List α} : kwG idx vs zs = vs ++ idx.filterMap fun i => zs[i]? := rfl
theorem wp_Repr {d : D} : R (cRepr [d] S) P ↔ ∃ p, toP d = some p ∧ (p.showable = true ∧ p.hasDict = false ∧ p.depth ≤ 50 ∧ p.shown.length ≤ 16777216) ∧ P (.str p.shown) S := by
  show R ((toP d).bind _) P ↔ _
  refine ⟨fun ⟨a, S3, e3, p⟩ => ?_, fun ⟨p, e, h, q⟩ => ?_⟩
  · obtain ⟨pd, h1, h2⟩ := bind_some e3
    split at h2
    · rename_i hc
      cases h2
      exact ⟨pd, h1, hc, p⟩
    · cases h2
  · rw [e]
    exact R_cond.mpr ⟨h, q⟩
end
end DL

namespace DL
open PySem PySem.Spec PyProof.Rows L2
section
variable {ct : CT} {X : Cx} {a b e : Expr} {fa fb f : FE} {fas : FA} {env : DEnv} {S : Sto} {P : D → Sto → Prop}
/-! ## a display of a dict that stays as it is; d[k] -/
def fDispF (ks : List Str) (fas : FA) : FE := fun env S => (fas env S).bind fun p => if ks.length ≤ 15 ∧ ks.Nodup ∧ p.1.length = ks.length then some (.dct (ks.map Sum.inr) p.1, p.2) else none
theorem se_dispF {pos : Pos} {keys : List (Option Expr)} {values : List Expr} {ks : List Str} (h : SDs ct X pos keys values ks fas) (hall : keys.all (·.isSome) = true) (hl : keys.length = values.length) (h0 : keys ≠ []) (h16 : keys.length ≤ 15 := by decide) : SE ct X (.Dict keys values pos) (fDispF ks fas) := by
  obtain ⟨trs, pp, rp⟩ := h
  refine ⟨_, pe_disp pp hall hl h0 h16, fun m F S σ H env d S' Q s en h p => ?_⟩
  obtain ⟨⟨xs, S1⟩, h1, h⟩ := bind_some h
  split at h
  case isFalse => cases h
  rename_i hk
  cases h
  intro q hq
  have nq : q ∉ m := fun hm => by
    obtain ⟨o, z⟩ := s.there hm
    rw [hq] at z; cases z
  have fq : F q = none := by
    cases z : F q with
    | none => rfl
    | some o => rw [s.same _ _ z] at hq; cases hq
  refine rp m F S σ (upd H q (.dK [])) env xs S1 _ (s.hidden nq fq _) en h1 fun m1 F1 vs H1 x1 s1 r1 hlen => ?_
  obtain ⟨hH, nq1, fq1⟩ := x1.hid upd_same nq fq
  have x0 : Ext m F H m1 F1 H1 := ((Ext.refl m F H).put hq (.dK [])).trans x1
  refine ⟨hH, (ks.map Sum.inr).zip vs, ?_, by simp [← r1.length, hlen, hk.1], ?_⟩
  · exact zip_kV ks vs
  · have hn : (((ks.map Sum.inr : List Key).zip vs).map (·.1)).Nodup := by
      rw [List.map_fst_zip (by simp [← r1.length, hlen])]
      exact nodup_inr hk.2.1
    rw [merge_nodup _ [] hn (fun _ _ => rfl), List.nil_append]
    exact p m1 (upd F1 q (.dK ((ks.map Sum.inr).zip vs))) (.ref q) _ ((x0.put hq _).freeze hq fq1 _) ((s1.hidden nq1 fq1 _).freeze nq1 fq1 upd_same)
      ⟨q, vs, rfl, upd_same, by rw [List.length_map, ← r1.length]; exact hk.2.2.symm, Reps.mono' (fun _ _ z => z) (same_upd fq1 _) _ _ r1⟩
def fDIx (fa fb : FE) : FE := fun env S => (fa env S).bind fun p => (fb env p.2).bind fun q => (kvsOf p.1 q.2).bind fun kvs => (toKey q.1).bind fun key => (valA kvs key).map fun d => (d, q.2)
theorem se_dix {pos : Pos} {n : Nat} (hr : RoomG n X.A) (ha : SE ct X a fa) (hb : SE ct X b fb) (hs : NoSl b) : SE ct X (.Subscript a b pos) (fDIx fa fb) := by
  obtain ⟨ta, pa, ra⟩ := ha
  obtain ⟨tb, pb, rb⟩ := hb
  refine ⟨_, pe_dget (hu_of hr.room) pa pb hs, fun m F S σ H env d S' Q s en h p => ?_⟩
  obtain ⟨⟨z, S1⟩, h1, h⟩ := bind_some h
  obtain ⟨⟨y, S2⟩, h2, h⟩ := bind_some h
  obtain ⟨kvs, h4, h⟩ := bind_some h
  obtain ⟨key, h5, h⟩ := bind_some h
  obtain ⟨dv, hv, h6⟩ := map_some h
  cases h6
  refine ra m F S σ H env z S1 _ s en h1 fun m1 F1 v1 H1 x1 s1 r1 => ?_
  refine rb m1 F1 S1 σ H1 env y S2 _ s1 (en.mono x1) h2 fun m2 F2 v2 H2 x2 s2 r2 => ?_
  obtain ⟨w, us, e1, e2, pr⟩ := kvs_at s2 (r1.mono x2) h4
  have ek := r2.key h5
  subst ek
  obtain ⟨v, q1, q2⟩ := (PR.val pr key).1 _ hv
  have g := DGet.k (k := key) e2
  rw [q1] at g
  exact ⟨w, v, e1, g, ((p.ext x1).ext x2).now s2 q2⟩
theorem wp_DispF {ks : List Str} : R (fDispF ks fas env S) P ↔ R (fas env S) fun ds S1 => (ks.length ≤ 15 ∧ ks.Nodup ∧ ds.length = ks.length) ∧ P (.dct (ks.map Sum.inr) ds) S1 := by unfold fDispF; simp only [R_bind, R_cond]
theorem wp_DIx : R (fDIx fa fb env S) P ↔ R (fa env S) fun x S1 => R (fb env S1) fun y S2 => ∃ kvs, kvsOf x S2 = some kvs ∧ ∃ key, toKey y = some key ∧ ∃ d, valA kvs key = some d ∧ P d S2 := by
  unfold fDIx
  simp only [R_bind]
  refine ⟨fun ⟨x, S1, e, y, S2, e2, q⟩ => ⟨x, S1, e, y, S2, e2, ?_⟩, fun ⟨x, S1, e, y, S2, e2, q⟩ => ⟨x, S1, e, y, S2, e2, ?_⟩⟩
  · obtain ⟨d, S3, e3, p⟩ := q
    obtain ⟨kvs, h1, h⟩ := bind_some e3
    obtain ⟨key, h2, h⟩ := bind_some h
    obtain ⟨dv, h3, h4⟩ := map_some h
    cases h4
    exact ⟨kvs, h1, key, h2, _, h3, p⟩
  · obtain ⟨kvs, h1, key, h2, d, h3, p⟩ := q
    exact ⟨d, S2, by rw [h1]; show ((toKey y).bind _) = _; rw [h2]; show ((valA kvs key).map _) = _; rw [h3]; rfl, p⟩
end
end DL

namespace DL
open PySem PySem.Spec PyProof.Rows L2
/-! ## what was made within a def is dropped at its end; a list that it returns stays as it is -/
def frzD (g : FD) : FD := fun ds S => (g ds S).bind fun p => if S.length ≤ p.2.length ∧ (p.2.take S.length).all cellFree = true then (match p.1 with
  | .ref k => if S.length ≤ k then (match p.2[k]? with
    | some (.lst es) => if noRefs es = true then some (.lst es, p.2.take S.length) else none
    | _ => none) else none
  | d => if noRef d = true then some (d, p.2.take S.length) else none) else none
theorem frz_told {g : FD} : ∀ ds S r', frzD g ds S = some r' → ∃ r, g ds S = some r ∧ Told S r r' := by
  intro ds S r' h
  obtain ⟨⟨d, S1⟩, h1, h⟩ := bind_some h
  dsimp only at h
  split at h
  case isFalse => cases h
  rename_i hc
  refine ⟨_, h1, ?_⟩
  have hl : (S1.take S.length).length = S.length := by rw [List.length_take]; omega
  have ho : Old S (S1.take S.length) := ⟨hl, fun i c hi => .inr (List.all_eq_true.mp hc.2 c (List.mem_of_getElem? hi))⟩
  have e : S1 = S1.take S.length ++ S1.drop S.length := (List.take_append_drop _ _).symm
  split at h
  · rename_i k
    split at h
    case isFalse => cases h
    rename_i hk
    split at h
    · rename_i es hes
      split at h
      case isFalse => cases h
      rename_i hn
      cases h
      have t := Told.frzL (S := S) (S1 := S1.take S.length) (more := S1.drop S.length) (i := k - S.length) hn ho (by rw [List.getElem?_drop, show S.length + (k - S.length) = k by omega]; exact hes)
      rw [hl, show S.length + (k - S.length) = k by omega, ← e] at t
      exact t
    · cases h
  · split at h
    case isFalse => cases h
    rename_i hn
    cases h
    have t := Told.drop (S := S) (S1 := S1.take S.length) (more := S1.drop S.length) hn ho
    rw [← e] at t
    exact t
section
variable {g : FD} {ds : List D} {S : Sto} {P : D → Sto → Prop}
theorem wp_frzL (h : R (g ds S) fun d S' => S.length ≤ S'.length ∧ (∀ c ∈ S'.take S.length, cellFree c = true) ∧ ∃ k es, d = .ref k ∧ S.length ≤ k ∧ S'[k]? = some (.lst es) ∧ noRefs es = true ∧ P (.lst es) (S'.take S.length)) : R (frzD g ds S) P := by
  obtain ⟨d, S', e, h1, h2, k, es, rfl, h3, h4, h5, h6⟩ := h
  refine ⟨.lst es, S'.take S.length, ?_, h6⟩
  unfold frzD
  rw [e]
  show (if S.length ≤ S'.length ∧ (S'.take S.length).all cellFree = true then _ else none) = _
  rw [if_pos ⟨h1, List.all_eq_true.mpr h2⟩]
  show (if S.length ≤ k then _ else none) = _
  rw [if_pos h3, h4]
  show (if noRefs es = true then _ else none) = _
  rw [if_pos h5]
theorem wp_frzV (h : R (g ds S) fun d S' => S.length ≤ S'.length ∧ (∀ c ∈ S'.take S.length, cellFree c = true) ∧ noRef d = true ∧ P d (S'.take S.length)) : R (frzD g ds S) P := by
  obtain ⟨d, S', e, h1, h2, h5, h6⟩ := h
  refine ⟨d, S'.take S.length, ?_, h6⟩
  unfold frzD
  rw [e]
  show (if S.length ≤ S'.length ∧ (S'.take S.length).all cellFree = true then _ else none) = _
  rw [if_pos ⟨h1, List.all_eq_true.mpr h2⟩]
  cases d <;> first | (cases h5; done) | (show (if noRef _ = true then _ else none) = _; rw [if_pos h5])
end
/-! ## a list, so many times -/
def gRep : D → D → Sto → Option (D × Sto)
  | .lst ds, .int k, S => if 0 ≤ k ∧ k ≤ 1000 ∧ ds.length ≤ 1000 then some (.lst (List.replicate k.toNat ds).flatten, S) else none
  | _, _, _ => none
theorem reps_rep {K : PySem.W.Frag} {ct : CT} {m : List Addr} {F : Hp} {ds : List D} {vs : List V} (r : Reps K ct m F ds vs) (n : Nat) : Reps K ct m F (List.replicate n ds).flatten (List.replicate n vs).flatten := by
  induction n with
  | zero => exact rfl
  | succ n ih =>
    rw [List.replicate_succ, List.replicate_succ, List.flatten_cons, List.flatten_cons]
    exact r.append ih
theorem od_rep {ct : CT} {K : PySem.W.Frag} : OpD ct K rRep gRep := by
  intro m F S H x y dx dy d S' Q s rx ry h p
  unfold gRep at h
  split at h
  · rename_i es k
    split at h
    · rename_i hc
      cases h
      obtain ⟨a, vs, e1, e2, e3⟩ := rx
      refine ⟨a, k, vs, e1, ry, s.same _ _ e2, by omega, by omega, ?_, fun q hq => ?_⟩
      · rw [line_eq, ← e3.length]
        have h1 : k.toNat ≤ 1000 := by omega
        exact Nat.le_trans (Nat.mul_le_mul hc.2.2 h1) (by decide)
      · obtain ⟨s2, x2⟩ := s.frozen hq (.lst (List.replicate k.toNat vs).flatten)
        exact p m _ (.ref q) _ x2 s2 ⟨q, _, rfl, upd_same, (reps_rep e3 _).mono x2⟩
    · cases h
  · cases h
theorem wp_rep {ds : List D} {k : Int} {S : Sto} {P : D → Sto → Prop} : R (gRep (.lst ds) (.int k) S) P ↔ (0 ≤ k ∧ k ≤ 1000 ∧ ds.length ≤ 1000) ∧ P (.lst (List.replicate k.toNat ds).flatten) S := R_cond
/-! ## xs.append(e) of a cell -/
theorem wp_App {fo fe : FE} {env : DEnv} {S : Sto} {P : D → Sto → Prop} {k : Nat} {ds : List D} {v : D} {S1 : Sto} {es : List D} (h0 : fo env S = some (.ref k, S)) (h1 : S[k]? = some (.lst ds)) (h2 : fe env S = some (v, S1)) (h3 : S1[k]? = some (.lst es)) (h4 : es.length ≤ 1000000) : R (fAppend fo fe env S) P ↔ P .non (S1.set k (.lst (es ++ [v]))) := by
  unfold fAppend
  rw [h0]
  show R (match S[k]? with | some (.lst _) => _ | _ => none) P ↔ _
  rw [h1]
  show R ((fe env S).bind _) P ↔ _
  rw [h2]
  show R (match S1[k]? with | some (.lst ds) => _ | _ => none) P ↔ _
  rw [h3]
  show R (if es.length ≤ 1000000 then _ else none) P ↔ _
  rw [if_pos h4]
  exact R_some
end DL

namespace DL
open PySem PySem.Spec PyProof.Rows L2
/-! ## properties of own classes -/
section
variable {X : Cx} {k : Nat} {C p g a dx : Addr} {fs : List (Str × V)} {f : Str} {fd : FuncData} {ps : List Str} {sp : Sp} {E : XK} {e : Expr} {pos : Pos} {ta : TE}
theorem prop_run {pins : List (Addr × Obj)} {σ : L2.St} {H : Hp} {s : Shared} {Q : VK} {b : Bool} {E' : Value → Shared → Prop} (I : Inv X pins σ H s) (ea : H a = some (.ins C dx fs)) (c : Cls X.K C) (hp : PropOf X.K C f p g)
    (F : FnG X.prog X.w X.K X.mg X.base k g fd ps sp) (hr : RoomG (k + 1) X.A) (hb : Binds X.K fd ps []) (h : sp [.ref a] H Q E) : wpAny (model X.prog X.w) X.A (getAttr (.ref a) f b) (EP X pins σ Q) E' s := by
  obtain ⟨mA, O, _⟩ := ins_get I.hok ea
  obtain ⟨od, J, _⟩ := O.look
  obtain ⟨rest, hrec⟩ := hp.rec_
  have J1 := I.tok (s.toks + 1)
  have hl := F.len _ _ _ _ h
  have some_ : (PySem.W.clsIn X.K C).isSome = true := by
    obtain ⟨cd, q, _⟩ := PySem.W.any_some c.hd
    rw [q]; rfl
  have plain := PySem.W.plainGet_of (c.get f)
  refine PySem.W.get_bind I.kIn J plain.1 (PySem.W.findObj_data some_ hp.at_ hp.get hp.tak) plain.2 (wpAny_call (PySem.W.prop_get (s := { s with toks := s.toks + 1 }) I.kIn hrec (codeAny_mono
    (F.run X.A.in1 X.stack { s with toks := s.toks + 1 } H ⟨[.ref a], []⟩ [.ref a] [.ref a] Q E hr.in1 J1.env0.in1 (hb _ [.ref a] J1.kIn hl) (.cons rfl .nil) h) fun r s' q => ?_)))
  obtain ⟨u, rfl, v, H', I3, rv, z⟩ := behind J1 q
  show wpAny _ _ (handedOut u) _ _ _
  rw [PySem.W.handedOut_of (handed_of rv)]
  exact wpAny_pure ⟨v, H', I3, rv, z⟩
theorem pe_propG (he : PE X e ta) (c : Cls X.K C) (hp : PropOf X.K C f p g) (F : FnG X.prog X.w X.K X.mg X.base k g fd ps sp) (hr : RoomG (k + 1) X.A) (hb : Binds X.K fd ps []) (hab : attributeBase e f X.env (eval e X.env) = eval e X.env) : PE X (.Attribute e f pos) (tProp C sp [] E ta) := by
  refine ⟨fun pins s σ H Q I h => attr_of hab (thn (he.run pins s σ H _ I h) fun u s1 ⟨y, H1, I1, ry, a, dx, fs, ex, ea, q⟩ => ?_)⟩
  subst ex
  have ry : u = Value.ref a := ry
  subst ry
  exact prop_run I1 ea c hp F hr hb q
end
def CalleeP (P : Program) (w : World) (K : PySem.W.Frag) (mg : Str → Option Value) (base : Heap) (ct : CT) (k : Nat) (C : Addr) (x : Str) (gd : FD) : Prop :=
  ∃ (j : Nat) (p g : Addr) (fd : FuncData) (ps : List Str), j + 1 ≤ k ∧ PropOf K C x p g ∧ Binds K fd ps [] ∧ FnG P w K mg base j g fd ps (spD K ct 1 gd)
def PropAt (K : PySem.W.Frag) (C : Addr) (x qual : Str) (st : Stmt) (ps : List Str) : Prop := ∃ (p g : Addr) (fd : FuncData), Fun K x qual st g fd ∧ PropOf K C x p g ∧ Binds K fd ps []
theorem CalleeP.mono {P : Program} {w : World} {K : PySem.W.Frag} {mg : Str → Option Value} {base : Heap} {ct : CT} {j k : Nat} {C : Addr} {x : Str} {gd : FD} (c : CalleeP P w K mg base ct j C x gd) (h : j ≤ k) : CalleeP P w K mg base ct k C x gd := by
  obtain ⟨i, p, g, fd, ps, h1, h2⟩ := c
  exact ⟨i, p, g, fd, ps, by omega, h2⟩
theorem calleeP_of {P : Program} {w : World} {K : PySem.W.Frag} {mg : Str → Option Value} {base : Heap} {ct : CT} {C : Addr} {x qual : Str} {st : Stmt} {N ps : List Str} {k : Nat} {g : FS} (d : PropAt K C x qual st ps) (S : FnScope N ps (defScope st)) (hps : ps.length = 1)
    (hbody : ∀ (f : Addr) (cdv : Value) (A : Around) (outer : List Env) (s : Shared) (H : Hp) (E : XK), RoomG k (A.deeper (envOfC qual (defScope st) s.heap.objs.size f cdv)) →
      SSs ct (cxOf CX0 P w K mg base N qual (defScope st) f cdv A outer s H E).nox (defBody st) g) : CalleeP P w K mg base ct (k + 2) C x (runD N.length g) := by
  obtain ⟨p, f, fd, F, h1, h3⟩ := d
  have := def_ok F S (hbody f)
  rw [hps] at this
  exact ⟨k + 1, p, f, fd, ps, Nat.le_refl _, h1, h3, this⟩
section
variable {ct : CT} {X : Cx} {C : Addr} {c x : Str} {a b e o k : Expr} {fe fo fa fb fk : FE} {fas : FA} {pos apos cpos : Pos} {n : Nat} {g : FD} {env : DEnv} {S : Sto} {P : D → Sto → Prop}
def fProp (c : Str) (g : FD) (fe : FE) : FE := fun env S => (fe env S).bind fun p => (insOf c p.1 p.2).bind fun _ => g [p.1] p.2
theorem se_prop (kc : Klass X.K ct c C) (M : CalleeP X.prog X.w X.K X.mg X.base ct n C x g) (hr : RoomG n X.A) (he : SE ct X e fe) (hb : attributeBase e x X.env (eval e X.env) = eval e X.env := by rfl) : SE ct X (.Attribute e x pos) (fProp c g fe) := by
  obtain ⟨j, p0, g0, fd, ps, hj, h1, h2, h3⟩ := M
  obtain ⟨ta, pa, ra⟩ := he
  refine ⟨_, pe_propG (E := fun _ _ _ => False) pa kc.cls h1 h3 (hr.mono hj) h2 hb, fun m F S σ H env d S' Q s en h p => ?_⟩
  obtain ⟨⟨z, S1⟩, q1, h⟩ := bind_some h
  obtain ⟨⟨fs, ds⟩, q2, h⟩ := bind_some h
  refine ra m F S σ H env z S1 _ s en q1 fun m1 F1 v1 H1 x1 s1 r1 => ?_
  obtain ⟨q, dx, vs, e1, e2, e3, e4⟩ := insOf_rep kc s1 r1 q2
  subst e1
  exact ⟨q, dx, _, rfl, e2, rfl, m1, F1, S1, [z], d, S', s1, Reps.mk1 r1, h, p.ext x1⟩
theorem wp_Prop {g : FD} : R (fProp c g fe env S) P ↔ R (fe env S) fun d S1 => (∃ q, insOf c d S1 = some q) ∧ R (g [d] S1) P := by
  unfold fProp
  simp only [R_bind]
  refine ⟨fun ⟨d, S1, e, q⟩ => ⟨d, S1, e, ?_⟩, fun ⟨d, S1, e, q⟩ => ⟨d, S1, e, ?_⟩⟩
  · obtain ⟨y, S3, e3, p⟩ := q
    obtain ⟨q1, h1, h2⟩ := bind_some e3
    exact ⟨⟨q1, h1⟩, y, S3, h2, p⟩
  · obtain ⟨⟨q1, h1⟩, y, S3, h2, p⟩ := q
    exact ⟨y, S3, by rw [h1]; exact h2, p⟩
/-! ## isinstance with an own class: an object of it -/
def fIsC (c : Str) (fe : FE) : FE := fun env S => (fe env S).bind fun p => (insOf c p.1 p.2).map fun _ => (.bl true, p.2)
theorem se_isC {p q : Pos} (kc : Klass X.K ct c C) (ic : C8.InsC X.K C) (hg : Gl X "isinstance") (hm : X.mg "isinstance" = none) (he : SE ct X e fe) (hg2 : Gl X x) (hm2 : X.mg x = some (.ref C)) (hd2 : (x == ("__debug__" : Str)) = false := by decide)
    (hs : starEach [e, .Name x q] X.env = (false, eval e X.env) :: starEach [.Name x q] X.env := by rfl) (hs2 : starEach [.Name x q] X.env = (false, eval (.Name x q) X.env) :: starEach [] X.env := by rfl)
    (hpl : (backTo pos (starEach [.Name x q] X.env)).any (·.1) = false := by rfl) : SE ct X (.Call (.Name "isinstance" p) [e, .Name x q] [] pos) (fIsC c fe) := by
  obtain ⟨ta, pa, ra⟩ := he
  refine ⟨_, pe_callB (id := "isinstance") (C8.call_isC ic) hg hm (by decide +kernel) (pa_cons pa (pa_cons (pe_glob (v := .ref C) hg2 hm2 rfl hd2) pa_nil hs2) hs) (by decide) (by decide) hs hpl, fun m F S σ H env d S' Q s en h p => ?_⟩
  obtain ⟨⟨z, S1⟩, h1, h⟩ := bind_some h
  obtain ⟨⟨fs, ds⟩, h2, h3⟩ := map_some h
  cases h3
  refine ra m F S σ H env z S1 _ s en h1 fun m1 F1 v1 H1 x1 s1 r1 => ?_
  obtain ⟨q, dx, vs, e1, e2, e3, e4⟩ := insOf_rep kc s1 r1 h2
  subst e1
  exact ⟨q, dx, _, rfl, e2, (p.ext x1).now s1 rfl⟩
theorem wp_IsC : R (fIsC c fe env S) P ↔ R (fe env S) fun d S1 => (∃ q, insOf c d S1 = some q) ∧ P (.bl true) S1 := by
  unfold fIsC
  simp only [R_bind]
  refine ⟨fun ⟨d, S1, e, q⟩ => ⟨d, S1, e, ?_⟩, fun ⟨d, S1, e, q⟩ => ⟨d, S1, e, ?_⟩⟩
  · obtain ⟨y, S3, e3, p⟩ := q
    obtain ⟨q1, h1, h2⟩ := map_some e3
    cases h2
    exact ⟨⟨q1, h1⟩, p⟩
  · obtain ⟨⟨q1, h1⟩, p⟩ := q
    exact ⟨_, _, by rw [h1]; rfl, p⟩
/-! ## d.get(k), k in d of a dict at hand -/
def fDGet1 (fd fk : FE) : FE := fun env S => (fd env S).bind fun p => (kvsOf p.1 p.2).bind fun _ => (fk env p.2).bind fun q => (kvsOf p.1 q.2).bind fun kvs => (toKey q.1).map fun x => ((valA kvs x).getD .non, q.2)
theorem se_dget1 (hr : RoomG n X.A) (ho : SE ct X o fo) (hk : SE ct X k fk) (m : M1 X o "get" apos k cpos) : SE ct X (.Call (.Attribute o "get" apos) [k] [] cpos) (fDGet1 fo fk) := by
  obtain ⟨ta, pa, ra⟩ := ho
  obtain ⟨tb, pb, rb⟩ := hk
  refine ⟨_, pe_dget1 (hu_of hr.room) pa pb m, fun m F S σ H env d S' Q s en h p => ?_⟩
  obtain ⟨⟨z, S1⟩, h1, h⟩ := bind_some h
  obtain ⟨kvs0, h0, h⟩ := bind_some h
  obtain ⟨⟨y, S2⟩, h2, h⟩ := bind_some h
  obtain ⟨kvs, h4, h⟩ := bind_some h
  obtain ⟨key, h5, h6⟩ := map_some h
  cases h6
  refine ra m F S σ H env z S1 _ s en h1 fun m1 F1 v1 H1 x1 s1 r1 => ?_
  obtain ⟨w, us0, e1, e2, _⟩ := kvs_at s1 r1 h0
  refine ⟨w, e1, .inl ⟨us0, .inl e2⟩, ?_⟩
  refine rb m1 F1 S1 σ H1 env y S2 _ s1 (en.mono x1) h2 fun m2 F2 v2 H2 x2 s2 r2 => ?_
  obtain ⟨w', us, e1', e2', pr⟩ := kvs_at s2 (r1.mono x2) h4
  subst e1
  cases e1'
  have ek := r2.key h5
  subst ek
  refine ⟨_, DGet.k e2', ?_⟩
  have p2 := (p.ext x1).ext x2
  cases hv : valA kvs key with
  | none =>
    rw [hv] at p2
    rw [(PR.val pr key).2 hv]
    exact p2.now s2 rfl
  | some dv =>
    rw [hv] at p2
    obtain ⟨v, q1, q2⟩ := (PR.val pr key).1 dv hv
    rw [q1]
    exact p2.now s2 q2
def fDIn (neg : Bool) (fk fd : FE) : FE := fun env S => (fk env S).bind fun p => (fd env p.2).bind fun q => (kvsOf q.1 q.2).bind fun kvs => (toKey p.1).map fun x => (.bl (if neg then !(valA kvs x).isSome else (valA kvs x).isSome), q.2)
theorem din_run {m : List Addr} {F H : Hp} {S S' : Sto} {env : DEnv} {d : D} {σ : L2.St} {neg : Bool} {ta tb : TE} {Q : VK}
    (ra : ∀ m F S σ H env d S' Q, Sim X.K ct m F S H → EnvR X.K ct m F env σ → fk env S = some (d, S') → PostE ct X.K m F H S' d Q → ta σ H Q)
    (rb : ∀ m F S σ H env d S' Q, Sim X.K ct m F S H → EnvR X.K ct m F env σ → fo env S = some (d, S') → PostE ct X.K m F H S' d Q → tb σ H Q)
    (s : Sim X.K ct m F S H) (en : EnvR X.K ct m F env σ) (h : fDIn neg fk fo env S = some (d, S')) (p : PostE ct X.K m F H S' d Q) : ta σ H fun y H1 => tb σ H1 fun x H2 => ∃ a o, x = .ref a ∧ DGet H2 a y o ∧ Q (.bl (if neg then !o.isSome else o.isSome)) H2 := by
  obtain ⟨⟨y, S1⟩, h1, h⟩ := bind_some h
  obtain ⟨⟨z, S2⟩, h2, h⟩ := bind_some h
  obtain ⟨kvs, h4, h⟩ := bind_some h
  obtain ⟨key, h5, h6⟩ := map_some h
  cases h6
  refine ra m F S σ H env y S1 _ s en h1 fun m1 F1 v1 H1 x1 s1 r1 => ?_
  refine rb m1 F1 S1 σ H1 env z S2 _ s1 (en.mono x1) h2 fun m2 F2 v2 H2 x2 s2 r2 => ?_
  obtain ⟨w, us, e1, e2, pr⟩ := kvs_at s2 r2 h4
  have ek := (r1.mono x2).key h5
  subst ek
  refine ⟨w, _, e1, DGet.k e2, ?_⟩
  have p2 := (p.ext x1).ext x2
  cases hv : valA kvs key with
  | none =>
    rw [hv] at p2
    rw [(PR.val pr key).2 hv]
    exact p2.now s2 rfl
  | some dv =>
    rw [hv] at p2
    obtain ⟨v, q1, q2⟩ := (PR.val pr key).1 dv hv
    rw [q1]
    exact p2.now s2 rfl
theorem se_din (hr : RoomG n X.A) (hk : SE ct X k fk) (ho : SE ct X o fo) (h1 : behindInMarks .In o = false) : SE ct X (.Compare k [.In] [o] pos) (fDIn false fk fo) := by
  obtain ⟨ta, pa, ra⟩ := hk
  obtain ⟨tb, pb, rb⟩ := ho
  exact ⟨_, pe_cmp (pc_din (hu_of hr.room) pa pb) h1, fun m F S σ H env d S' Q s en h p => din_run (neg := false) ra rb s en h p⟩
theorem st_din (hr : RoomG n X.A) (hk : SE ct X k fk) (ho : SE ct X o fo) (h1 : behindInMarks .In o = false) : ST ct X (.Compare k [.In] [o] pos) (fTest (fDIn false fk fo)) := by
  obtain ⟨ta, pa, ra⟩ := hk
  obtain ⟨tb, pb, rb⟩ := ho
  refine ⟨_, pt_cmp (pc_din (hu_of hr.room) pa pb) h1, fun m F S σ H env d S' Q s en h p => ?_⟩
  obtain ⟨⟨x, S1⟩, q1, h⟩ := bind_some h
  show tDIn ta tb σ H fun v H1 => ∃ z, v = .bl z ∧ Q z H1
  refine din_run (neg := false) (Q := fun v H1 => ∃ z, v = .bl z ∧ Q z H1) ra rb s en q1 fun m1 F1 v1 H1 x1 s1 r1 => ?_
  cases x with
  | bl z =>
    have r1 : v1 = .bl z := r1
    cases h
    exact ⟨_, r1, p m1 F1 H1 x1 s1⟩
  | _ => cases h
theorem wp_DGet1 : R (fDGet1 fo fk env S) P ↔ R (fo env S) fun x S1 => (∃ q, kvsOf x S1 = some q) ∧ R (fk env S1) fun y S2 => ∃ kvs, kvsOf x S2 = some kvs ∧ ∃ key, toKey y = some key ∧ P ((valA kvs key).getD .non) S2 := by
  unfold fDGet1
  simp only [R_bind]
  refine ⟨fun ⟨x, S1, e, q⟩ => ⟨x, S1, e, ?_⟩, fun ⟨x, S1, e, q⟩ => ⟨x, S1, e, ?_⟩⟩
  · obtain ⟨d, S3, e3, p⟩ := q
    obtain ⟨k0, h0, h⟩ := bind_some e3
    obtain ⟨⟨y, S2⟩, h1, h⟩ := bind_some h
    obtain ⟨kvs, h2, h⟩ := bind_some h
    obtain ⟨key, h3, h4⟩ := map_some h
    cases h4
    exact ⟨⟨k0, h0⟩, y, _, h1, kvs, h2, key, h3, p⟩
  · obtain ⟨⟨k0, h0⟩, y, S2, h1, kvs, h2, key, h3, p⟩ := q
    exact ⟨_, S2, by rw [h0]; show ((fk env S1).bind _) = _; rw [h1]; show ((kvsOf x S2).bind _) = _; rw [h2]; show ((toKey y).map _) = _; rw [h3]; rfl, p⟩
theorem wp_DIn {neg : Bool} : R (fDIn neg fk fo env S) P ↔ R (fk env S) fun y S1 => R (fo env S1) fun x S2 => ∃ kvs, kvsOf x S2 = some kvs ∧ ∃ key, toKey y = some key ∧ P (.bl (if neg then !(valA kvs key).isSome else (valA kvs key).isSome)) S2 := by
  unfold fDIn
  simp only [R_bind]
  refine ⟨fun ⟨x, S1, e, y, S2, e2, q⟩ => ⟨x, S1, e, y, S2, e2, ?_⟩, fun ⟨x, S1, e, y, S2, e2, q⟩ => ⟨x, S1, e, y, S2, e2, ?_⟩⟩
  · obtain ⟨d, S3, e3, p⟩ := q
    obtain ⟨kvs, h1, h⟩ := bind_some e3
    obtain ⟨key, h2, h3⟩ := map_some h
    cases h3
    exact ⟨kvs, h1, key, h2, p⟩
  · obtain ⟨kvs, h1, key, h2, p⟩ := q
    exact ⟨_, S2, by rw [h1]; show ((toKey x).map _) = _; rw [h2]; rfl, p⟩
/-! ## a, b, .. = a list -/
def gUnlD (n : Nat) (gs : FGs) : FG := fun d env S => match d with
  | .lst ds => if ds.length = n then gs ds env S else none
  | _ => none
theorem sg_unl {ts : List Expr} {k n : Nat} {gs : FGs} (hc : X.calm = true) (h : SGs ct X ts gs) (hn : (assignEach ts X.env).length = n := by rfl) (hst : (assignEach ts X.env).findIdx? (·.1) = none := by rfl) : SG ct X (.Tuple ts k pos) (gUnlD n gs) := by
  obtain ⟨ta, pa, ra⟩ := h
  refine ⟨_, pg_unl hc pa hn hst, fun m F S σ H env d v env' S' Q s en r h q => ?_⟩
  cases d with
  | lst ds =>
    obtain ⟨w, vs, e1, e2, e3⟩ := r
    by_cases hl : ds.length = n
    · have h : (if ds.length = n then gs ds env S else none) = some (env', S') := h
      rw [if_pos hl] at h
      exact ⟨w, vs, e1, SqL.of (s.same _ _ e2), by rw [← e3.length]; exact hl, ra m F S σ H env ds vs env' S' Q s en e3 h q⟩
    · have h : (if ds.length = n then gs ds env S else none) = some (env', S') := h
      rw [if_neg hl] at h
      cases h
  | _ => cases h
theorem wp_gUnl {n : Nat} {gs : FGs} {ds : List D} {PG : DEnv → Sto → Prop} : R (gUnlD n gs (.lst ds) env S) PG ↔ ds.length = n ∧ R (gs ds env S) PG := by
  show R (if ds.length = n then gs ds env S else none) PG ↔ _
  by_cases h : ds.length = n
  · rw [if_pos h]; exact ⟨fun p => ⟨h, p⟩, fun p => p.2⟩
  · rw [if_neg h, R_none]; exact ⟨False.elim, fun p => h p.1⟩
/-! ## dict(a written dict of texts and whole numbers) -/
def TK (w : World) (K : PySem.W.Frag) (mg : Str → Option Value) (n : Str) (tab : List (Str × Int)) : Prop := ∃ (g : Addr) (es : Array DictEntry) (c : Nat), mg n = some (.ref g) ∧ K.lookup g = some ⟨.type "dict", none, .dict es c, #[]⟩ ∧ TabOk w.params tab es.toList ∧ (g == sysModules) = false
def tabV (tab : List (Str × Int)) : List (Key × V) := tab.map fun p => (Sum.inr p.1, V.int p.2)
def tabD (tab : List (Str × Int)) : List (Key × D) := tab.map fun p => (Sum.inr p.1, D.int p.2)
theorem tab_pairs {Pr : Program} {w : World} : ∀ {tab : List (Str × Int)} {l : List DictEntry}, TabOk w.params tab l → ∃ vs : List (Key × Value), KV (tabV tab) vs ∧ Pairs (mixKind Pr w) l vs ∧ (∀ e ∈ l, ∃ k, (mixKind Pr w).is k e.key = true ∧ e.hash = (mixKind Pr w).hash k) ∧ vs.map (·.1) = tab.map fun p => Sum.inr p.1
  | [], [], _ => ⟨[], .nil, .nil, fun e h => (by cases h), rfl⟩
  | p :: tab, e :: l, h => by
    obtain ⟨⟨t, t', h1, h2, h3⟩, h4⟩ := h
    obtain ⟨vs, a, b, c, d⟩ := tab_pairs (Pr := Pr) h4
    have ik : (mixKind Pr w).is (Sum.inr p.1) e.key = true := by rw [h1]; exact keyIs_str p.1 t
    refine ⟨(Sum.inr p.1, .int p.2 t') :: vs, .cons ⟨rfl, ⟨_, rfl⟩⟩ a, .cons ik h3 b, fun z hz => ?_, by rw [List.map_cons, List.map_cons, d]⟩
    rcases List.mem_cons.mp hz with rfl | hz
    · exact ⟨Sum.inr p.1, ik, h2⟩
    · exact c z hz
  | [], _ :: _, h => h.elim
  | _ :: _, [], h => h.elim
theorem tab_PR {K : PySem.W.Frag} {m : List Addr} {F : Hp} : ∀ tab : List (Str × Int), PR K ct m F (tabD tab) (tabV tab)
  | [] => .nil
  | p :: tab => .cons ⟨rfl, rfl⟩ (tab_PR tab)
def rDictK (K : PySem.W.Frag) (w : World) (tab : List (Str × Int)) : List V → Hp → VK → Prop := fun xs H Q => ∃ (g : Addr) (es : Array DictEntry) (c : Nat), xs = [.ref g] ∧ K.lookup g = some ⟨.type "dict", none, .dict es c, #[]⟩ ∧ TabOk w.params tab es.toList ∧ (g == sysModules) = false ∧ tab.length ≤ 1000 ∧ (tab.map (·.1)).Nodup ∧
  ∀ p, H p = none → Q (.ref p) (upd H p (.dK (tabV tab)))
theorem call_dictK {tab : List (Str × Int)} : CallR X (.type "dict") (rDictK X.K X.w tab) := by
  intro pins s σ H xs us Q I r h
  obtain ⟨g, es, c, rfl, lk, tb, lo, hl, hn, q⟩ := h
  obtain ⟨u, rfl, ru⟩ := vals1 r
  have ru : u = Value.ref g := ru
  subst ru
  obtain ⟨vs, a1, a2, a3, a4⟩ := tab_pairs (Pr := X.prog) tb
  have hz : vs.length ≤ sizeLine := by
    have : vs.length = tab.length := by
      have := congrArg List.length a4
      simpa using this
    rw [this]
    exact Nat.le_trans hl (by decide)
  have dd : s.heap.DictOf (mixKind X.prog X.w) g vs := ⟨_, es, c, I.kIn g _ lk, ⟨rfl, rfl, rfl⟩, rfl, fun e he => a3 e (Array.mem_toList_iff.mpr he), a2, by
    rw [a4]
    rw [show (tab.map fun p => (Sum.inr p.1 : Key)) = (tab.map (·.1)).map Sum.inr by rw [List.map_map]; rfl]
    exact nodup_inr hn⟩
  refine kt_call_dict lo dd hz fun h' d' hs => ?_
  have hm : (s.heap.objs.size == sysModules) = false := beq_eq_false_iff_ne.mpr (Nat.ne_of_gt I.big)
  exact ⟨.ref s.heap.objs.size, upd H s.heap.objs.size (.dK (tabV tab)), I.laid (t' := s.toks) (fun b u e => (hs.2 b (Nat.ne_of_lt (Heap.lt_size e))).trans (Heap.get?_push_of_some _ e)) (Nat.le_refl _)
    (show ObjOk X.prog X.w _ _ _ (.dK (tabV tab)) from ⟨by rw [a1.length]; exact hz, hm, vs, a1, d'⟩), rfl, q _ (I.hok.fresh (Nat.le_refl _))⟩
def fDictK (tab : List (Str × Int)) : FE := fun _ S => some (.ref S.length, S ++ [.dct (tabD tab)])
theorem se_dictK {tab : List (Str × Int)} {p q : Pos} (T : TK X.w X.K X.mg x tab) (hg : Gl X "dict") (hm : X.mg "dict" = none) (hg2 : Gl X x) (hl : tab.length ≤ 1000) (hn : (tab.map (·.1)).Nodup) (hd : (x == ("__debug__" : Str)) = false := by decide)
    (hs : starEach [.Name x q] X.env = (false, eval (.Name x q) X.env) :: starEach [] X.env := by rfl) (hpl : (backTo pos (starEach [] X.env)).any (·.1) = false := by rfl) : SE ct X (.Call (.Name "dict" p) [.Name x q] [] pos) (fDictK tab) := by
  obtain ⟨g, es, c, hmg, lk, tb, lo⟩ := T
  refine ⟨_, pe_callTy (call_dictK (tab := tab)) hg hm (by decide +kernel) (pa_cons (pe_glob (v := .ref g) hg2 hmg rfl hd) pa_nil hs) (by decide) (by decide) hs hpl, fun m F S σ H env d S' Q s en h p => ?_⟩
  cases h
  refine ⟨g, es, c, rfl, lk, tb, lo, hl, hn, fun q hq => ?_⟩
  obtain ⟨s2, x2⟩ := s.fresh hq (o := .dK (tabV tab)) (c := .dct (tabD tab)) ⟨_, rfl, tab_PR tab⟩
  exact p _ _ (.ref q) _ x2 s2 ⟨q, by rw [← s.len]; simp, rfl⟩
theorem wp_DictK {tab : List (Str × Int)} : R (fDictK tab env S) P ↔ P (.ref S.length) (S ++ [.dct (tabD tab)]) := R_some
end
end DL

namespace DL
open PySem PySem.Spec PyProof.Rows L2
/-! ## a list, so many times, as a cell -/
def gRepM : D → D → Sto → Option (D × Sto)
  | .lst ds, .int k, S => if 0 ≤ k ∧ k ≤ 1000 ∧ ds.length ≤ 1000 then some (.ref S.length, S ++ [.lst (List.replicate k.toNat ds).flatten]) else none
  | _, _, _ => none
theorem od_repM {ct : CT} {K : PySem.W.Frag} : OpD ct K rRep gRepM := by
  intro m F S H x y dx dy d S' Q s rx ry h p
  unfold gRepM at h
  split at h
  · rename_i es k
    split at h
    · rename_i hc
      cases h
      obtain ⟨a, vs, e1, e2, e3⟩ := rx
      refine ⟨a, k, vs, e1, ry, s.same _ _ e2, by omega, by omega, ?_, fun q hq => ?_⟩
      · rw [line_eq, ← e3.length]
        have h1 : k.toNat ≤ 1000 := by omega
        exact Nat.le_trans (Nat.mul_le_mul hc.2.2 h1) (by decide)
      · obtain ⟨s2, x2⟩ := s.fresh hq (o := .lst (List.replicate k.toNat vs).flatten) (c := .lst (List.replicate k.toNat es).flatten) ⟨_, rfl, reps_rep e3 _⟩
        exact p _ _ (.ref q) _ x2 s2 ⟨q, by rw [← s.len]; simp, rfl⟩
    · cases h
  · cases h
theorem wp_repM {ds : List D} {k : Int} {S : Sto} {P : D → Sto → Prop} : R (gRepM (.lst ds) (.int k) S) P ↔ (0 ≤ k ∧ k ≤ 1000 ∧ ds.length ≤ 1000) ∧ P (.ref S.length) (S ++ [.lst (List.replicate k.toNat ds).flatten]) := R_cond
/-! ## list + cell -/
def gAddC : D → D → Sto → Option (D × Sto)
  | .lst a, .ref k, S => match S[k]? with
    | some (.lst b) => if a.length + b.length ≤ 16777216 then some (.lst (a ++ b), S) else none
    | _ => none
  | _, _, _ => none
theorem od_addC {ct : CT} {K : PySem.W.Frag} : OpD ct K rCat gAddC := by
  intro m F S H x y dx dy d S' Q s rx ry h p
  unfold gAddC at h
  split at h
  · rename_i as k
    split at h
    · rename_i bs hk
      split at h
      · rename_i hl
        cases h
        obtain ⟨a, vs, e1, e2, e3⟩ := rx
        obtain ⟨b, f0, f1⟩ := ry
        obtain ⟨us, f2, f3⟩ := s.cell k b _ f0 hk
        refine ⟨a, b, vs, us, e1, f1, s.same _ _ e2, f2, by rw [line_eq, ← e3.length, ← f3.length]; exact hl, fun q hq => ?_⟩
        obtain ⟨s2, x2⟩ := s.frozen hq (.lst (vs ++ us))
        exact p m _ (.ref q) _ x2 s2 ⟨q, _, rfl, upd_same, (e3.append f3).mono x2⟩
      · cases h
    · cases h
  · cases h
/-! ## max of a list of whole numbers -/
def intsOf : List D → Option (List Int)
  | [] => some []
  | .int i :: ds => (intsOf ds).map fun r => i :: r
  | _ :: _ => none
def maxI : List Int → Int
  | [] => 0
  | [a] => a
  | a :: l => if maxI l < a then a else maxI l
theorem maxI_ok : ∀ {l : List Int}, 0 < l.length → maxI l ∈ l ∧ ∀ y ∈ l, y ≤ maxI l
  | [], h => by cases h
  | [a], _ => ⟨List.mem_singleton.mpr rfl, fun y h => by rw [List.mem_singleton.mp h]; exact Int.le_refl _⟩
  | a :: b :: l, _ => by
    obtain ⟨h1, h2⟩ := maxI_ok (l := b :: l) (by simp)
    show (if maxI (b :: l) < a then a else maxI (b :: l)) ∈ _ ∧ ∀ y ∈ _, y ≤ (if maxI (b :: l) < a then a else maxI (b :: l))
    split
    · rename_i h
      refine ⟨List.mem_cons_self .., fun y hy => ?_⟩
      rcases List.mem_cons.mp hy with rfl | q
      · exact Int.le_refl _
      · have := h2 y q; omega
    · rename_i h
      refine ⟨List.mem_cons_of_mem _ h1, fun y hy => ?_⟩
      rcases List.mem_cons.mp hy with rfl | q
      · omega
      · exact h2 y q
def cMaxL : FD
  | [.lst ds], S => (intsOf ds).bind fun ns => if 0 < ns.length then some (.int (maxI ns), S) else none
  | _, _ => none
theorem ints_vals {ct : CT} {K : PySem.W.Frag} {m : List Addr} {F : Hp} : ∀ {ds : List D} {vs : List V} {ns : List Int}, Reps K ct m F ds vs → intsOf ds = some ns → vs = ns.map V.int
  | [], vs, ns, r, h => by cases h; exact r
  | d :: ds, vs, ns, r, h => by
    cases d <;> first | (cases h; done) | skip
    rename_i i
    obtain ⟨l, h1, h2⟩ := map_some h
    subst h2
    obtain ⟨v, us, e1, e2, e3⟩ := r
    have e2 : v = .int i := e2
    subst e2 e1
    rw [ints_vals e3 h1]
    rfl
theorem cd_maxL {ct : CT} {K : PySem.W.Frag} : CallD ct K (rMax K) cMaxL := by
  intro m F S H xs ds d S' Q s r h p
  unfold cMaxL at h
  split at h
  · rename_i es
    obtain ⟨ns, h1, h⟩ := bind_some h
    split at h
    · rename_i hne
      cases h
      obtain ⟨v, e1, a, vs, e2, e3, e4⟩ := reps1 r
      subst e2
      have hv := ints_vals e4 h1
      subst hv
      refine ⟨a, ns, e1, SqL.of (s.same _ _ e3), hne, fun M m1 m2 => ?_⟩
      obtain ⟨g1, g2⟩ := maxI_ok hne
      have hM : M = maxI ns := Int.le_antisymm (g2 _ m1) (m2 _ g1)
      rw [hM]
      exact p.now s rfl
    · cases h
  · cases h
theorem intsOf_map (ns : List Int) : intsOf (ns.map D.int) = some ns := by
  induction ns with
  | nil => rfl
  | cons a l ih => show (intsOf (l.map D.int)).map _ = _; rw [ih]; rfl
end DL

namespace DL
open PySem PySem.Spec PyProof.Rows L2
/-! # Errors of own classes -/
/-! ## the bases -/
def refsB (tl : List Value) : List Value → Bool
  | .ref _ :: r => refsB tl r
  | l => l == tl
theorem refsB_or {tl : List Value} : ∀ l : List Value, refsB tl l = true → (∃ c r, l = .ref c :: r ∧ refsB tl r = true) ∨ l = tl
  | [], h => .inr (beq_iff_eq.mp h)
  | v :: r, h => by
    cases v <;> first | exact .inl ⟨_, r, rfl, h⟩ | exact .inr (beq_iff_eq.mp h)
structure BaseX (B newId initId : String) (tl : List Value) : Prop where
  facts : ExcBaseFacts B newId initId tl
  pass : ∀ self, refuseLoop self "__setattr__" tl = pure ()
  obj : tl.contains (.type "object") = true
theorem base_VE : BaseX "ValueError" "ValueError.__new__" "ValueError.__init__" [.type "ValueError", .type "Exception", .type "BaseException", .type "object"] := ⟨F.excBase_ValueError, F.store_ValueError.passes, by decide +kernel⟩
theorem base_AE : BaseX "ArithmeticError" "ArithmeticError.__new__" "ArithmeticError.__init__" [.type "ArithmeticError", .type "Exception", .type "BaseException", .type "object"] := ⟨F.excBase_ArithmeticError, F.store_ArithmeticError.passes, by decide +kernel⟩
section
variable {B newId initId : String} {tl : List Value}
theorem BaseX.ne (b : BaseX B newId initId tl) : tl ≠ [] := fun e => by
  have h := b.obj
  rw [e] at h
  cases h
theorem BaseX.passes (b : BaseX B newId initId tl) (self : Value) : ∀ l : List Value, refsB tl l = true → refuseLoop self "__setattr__" l = pure () := by
  intro l
  induction l with
  | nil =>
    intro h
    rcases refsB_or _ h with ⟨c, r, q, _⟩ | q
    · cases q
    · exact absurd q.symm b.ne
  | cons v r ih =>
    intro h
    rcases refsB_or _ h with ⟨c, r', q, h'⟩ | q
    · cases q
      rw [refuseLoop_ref]
      exact ih h'
    · rw [q]
      exact b.pass self
theorem refsB_has (X : String) : ∀ l : List Value, refsB tl l = true → tl ≠ [] → l.contains (.type X) = tl.contains (.type X) := by
  intro l
  induction l with
  | nil =>
    intro h ne
    rcases refsB_or _ h with ⟨c, r, q, _⟩ | q
    · cases q
    · exact absurd q.symm ne
  | cons v r ih =>
    intro h ne
    rcases refsB_or _ h with ⟨c, r', q, h'⟩ | q
    · cases q
      rw [List.contains_cons, ih h' ne]
      rfl
    · rw [q]
end
/-- what is written of such a class -/
structure OexB (K : PySem.W.Frag) (C : Addr) : Prop where
  cls : ∃ B newId initId tl nm q N bs bm sn sub ab col dd k0 k1 k2 k3 k5, BaseX B newId initId tl ∧ K.lookup C = some (excClassObj nm q C N bs bm true sn sub ab col dd k0 k1 k2 k3 k5 newId) ∧ refsB tl bm = true
  sa : PySem.W.findIn K (.ref C) "__setattr__" = some (some (.builtin "object.__setattr__"))
  exC : PySem.W.subIn K (.ref C) (.type "BaseException") = some true
  tyC : PySem.W.typeIn K (.ref C) = some (.type "type")
  kC : PySem.W.keepIn K (.ref C) = true
/-! ## self.f = v -/
section
open Builtin Builtin.ObjectAttr
variable {prog : Program} {w : World} {A : Around} {R : Result → Shared → Prop} {hp : Heap} {g : Array GenState} {d : Drawn} {t : Nat} {os : OsState}
variable {K : PySem.W.Frag} {name : Str} {tk : Tok} {v : Value} {x C : Addr} {fv : Array Value} {cd : ClassData} {od : Option Addr} {oo : Option Obj}
/-- ahead of the store itself -/
theorem xset_pre (kin : K.In hp) (I : PySem.W.InstAt hp x { cls := .ref C, dict := od, data := .fields fv } C oo) (hcd : PySem.W.clsIn K C = some cd) (hne : cd.mro.isEmpty = false) (hob : cd.mro.contains (.type "object") = true)
    (hpass : ∀ self, refuseLoop self "__setattr__" cd.mro = pure ()) (ha : PySem.W.findIn K (.ref C) name = some none)
    (h : wpAny (model prog w) A.in1 (storeInOwnDict (.ref x) (.ref C) (.str name tk) name v false) (fun fin s' => match fin with | .done fl => R (.ok fl) s' | .again c => c.quiet = true ∧ codeAny (model prog w) A c R s') (fun e s' => R (.error e) s') ⟨hp, g, d, t, os⟩) :
    codeAny (model prog w) A (.call (.builtin "object.__setattr__") ⟨[.ref x, .str name tk, v], []⟩) R ⟨hp, g, d, t, os⟩ := by
  have so := F.store_object
  have isO : PySem.W.Looks (model prog w) hp (isInstance (.ref x) (.type "object")) true := I.type.andThen (PySem.W.looks_mroIn kin (by unfold PySem.W.mroIn; rw [hcd, Option.bind_some, if_neg (by rw [hne]; decide), hob]))
  have order : PySem.W.Looks (model prog w) hp (mroOf (.ref C)) cd.mro := (PySem.W.looks_clsIn kin hcd).andThen .now
  have none_ : PySem.W.Looks (model prog w) hp (storeTaker? none) none := .now
  refine codeAny_call_builtin so.slot.plain so.entry (@PySem.W.check_slot (model prog w) _ _ ⟨hp, g, d, t, os⟩ "object.__setattr__" "object" "__setattr__" (.ref x) [.str name tk, v] [] _ so.kind so.split isO (so.args (.ref x) (.str name tk) v) ?_)
  rw [PySem.W.osa_eq, refuse_eq]
  refine wpAny_bind (wpAny_bind (I.type.at (wpAny_bind (order.at ?_))))
  rw [hpass]
  exact wpAny_pure (wpAny_bind (I.type.at (wpAny_bind ((PySem.W.looks_findIn kin ha).at (wpAny_bind (none_.at h))))))
/-- the first field -/
theorem xset_new (kin : K.In hp) (hx : hp.get? x = some { cls := .ref C, data := .fields fv }) (hcd : PySem.W.clsIn K C = some cd) (hne : cd.mro.isEmpty = false) (hob : cd.mro.contains (.type "object") = true)
    (hpass : ∀ self, refuseLoop self "__setattr__" cd.mro = pure ()) (hh : cd.hasDict = true) (ha : PySem.W.findIn K (.ref C) name = some none)
    (hq : ∀ h' tk' dx, (∀ b o, b ≠ x → hp.get? b = some o → h'.get? b = some o) → hp.objs.size ≤ dx → dx ≠ x → h'.get? x = some { cls := .ref C, dict := some dx, data := .fields fv } →
      h'.Ns1 dx (fun y => if y = name then some v else none) → R (.ok (.ret .none)) ⟨h', g, d, tk', os⟩) :
    codeAny (model prog w) A (.call (.builtin "object.__setattr__") ⟨[.ref x, .str name tk, v], []⟩) R ⟨hp, g, d, t, os⟩ := by
  refine xset_pre (oo := none) kin ⟨hx, rfl, rfl, trivial⟩ hcd hne hob hpass ha ?_
  have look : PySem.W.Looks (model prog w) hp (classData C) cd := PySem.W.looks_clsIn kin hcd
  have xs : x ≠ hp.objs.size := Nat.ne_of_lt (Heap.lt_size hx)
  obtain ⟨c1, c2, c3, c4, c5, c6, c7, c8, c9, c10, c11⟩ := cd
  dsimp only at hh
  subst hh
  unfold storeInOwnDict ownDictForStores
  repeat (first | with_reducible refine HandSPX.store_in_new ?_ ?_ | with_reducible refine wpAny_loadPart_at hx ?_ | with_reducible refine look.at ?_ | wp_step)
  · exact ⟨_, #[], _, (Heap.get?_update_ne _ _ _ _ xs.symm).trans (Heap.get?_push_at rfl rfl), rfl, fun e he => absurd he (by simp), fun _ => rfl⟩
  · intro h' tk' ns same
    have there : (hp.push { cls := .type "dict", data := .dict #[] }).get? x = some { cls := .ref C, data := .fields fv } := Heap.get?_push_of_some _ hx
    exact hq h' tk' hp.objs.size (fun b o nb e => (same.2 b (Nat.ne_of_lt (Heap.lt_size e))).trans ((Heap.get?_update_ne _ _ _ _ nb).trans (Heap.get?_push_of_some _ e))) (Nat.le_refl _) xs.symm ((same.2 x xs).trans (Heap.get?_update_self _ there rfl)) ns
/-- a further one -/
theorem xset_old {dx : Addr} {m0 : Str → Option Value} {nl : List Str} (kin : K.In hp) (hx : hp.get? x = some { cls := .ref C, dict := some dx, data := .fields fv }) (hns : hp.Ns1 dx m0) (hw : Within m0 nl) (hz : nl.length ≤ 1000) (hcd : PySem.W.clsIn K C = some cd) (hne : cd.mro.isEmpty = false)
    (hob : cd.mro.contains (.type "object") = true) (hpass : ∀ self, refuseLoop self "__setattr__" cd.mro = pure ()) (hh : cd.hasDict = true) (ha : PySem.W.findIn K (.ref C) name = some none)
    (hq : ∀ h' tk', (∀ b o, b ≠ dx → hp.get? b = some o → h'.get? b = some o) → h'.Ns1 dx (fun y => if y = name then some v else m0 y) → R (.ok (.ret .none)) ⟨h', g, d, tk', os⟩) :
    codeAny (model prog w) A (.call (.builtin "object.__setattr__") ⟨[.ref x, .str name tk, v], []⟩) R ⟨hp, g, d, t, os⟩ := by
  obtain ⟨oD, _, _, there, _, _⟩ := hns.count hw
  refine xset_pre (oo := some oD) kin ⟨hx, rfl, rfl, there⟩ hcd hne hob hpass ha ?_
  have look : PySem.W.Looks (model prog w) hp (classData C) cd := PySem.W.looks_clsIn kin hcd
  obtain ⟨c1, c2, c3, c4, c5, c6, c7, c8, c9, c10, c11⟩ := cd
  dsimp only at hh
  subst hh
  unfold storeInOwnDict ownDictForStores
  repeat (first | with_reducible refine PySem.OEX.store_in_old hns hw hz ?_ | with_reducible refine wpAny_loadPart_at hx ?_ | with_reducible refine look.at ?_ | wp_step)
  intro h' tk' ns same
  exact hq h' tk' (fun b o nb e => (same.2 b nb).trans e) ns
end
/-! ## the same, of an error that is being made -/
section
variable {X : Cx} {pins : List (Addr × Obj)} {σ : L2.St} {H : Hp} {s : Shared} {a C dx : Addr} {f : Str} {y : V} {u : Value} {fs : List (Str × V)} {Q : Unit → Shared → Prop} {E : Value → Shared → Prop} {A : Around}
theorem xs_new (T : OexB X.K C) (I : Inv X pins σ H s) (e : H a = some (exo a C none)) (hno : PySem.W.findIn X.K (.ref C) f = some none) (ry : RelV y u)
    (h : ∀ dx s', H dx = none → dx ≠ a → Inv X pins σ (upd (upd H dx (exd dx [(f, y)])) a (exo a C (some dx))) s' → Q () s') : wpAny (model X.prog X.w) A (setAttr (.ref a) f u) Q E s := by
  obtain ⟨B, nI, iI, tl, nm, q, N, bs, bm, sn, sub, ab, col, dd, k0, k1, k2, k3, k5, hB, hC, hbm⟩ := T.cls
  have mro : refsB tl (.ref C :: bm) = true := hbm
  obtain ⟨t1, at_⟩ := exo_at I.hok e
  obtain ⟨hp, gn, dr, tk, os⟩ := s
  refine PySem.W.set_plain I.kIn (od := none) ⟨at_, rfl, rfl, trivial⟩ T.sa ?_
  refine xset_new (cd := { name := nm, bases := bs, mro := .ref C :: bm, ns := N, qualname := q, hasDict := true, slotNames := sn, subclasses := sub, abstract := ab, collection := col, hasDel := false }) I.kIn at_ (by unfold PySem.W.clsIn; rw [hC] <;> rfl) rfl
    ((refsB_has _ _ mro hB.ne).trans hB.obj) (fun self => hB.passes self _ mro) rfl hno fun h' tk' dx kept big ne hx ns => ?_
  have off : H dx = none := I.hok.fresh big
  have ndx : ∀ {b : Addr} {o : Obj}, hp.get? b = some o → b ≠ dx := fun {b o} z => Nat.ne_of_lt (Nat.lt_of_lt_of_le (Heap.lt_size z) big)
  have nea : ∀ {b : Addr}, H b = none → b ≠ a := fun {b} n z => by
    rw [z, e] at n
    cases n
  have U : Un X.fs [] H (upd (upd H dx (exd dx [(f, y)])) a (exo a C (some dx))) hp h' := ⟨fun b o z n _ _ => kept b o (nea n) z, fun b o z n _ _ => ⟨o.slots, kept b o (nea n) z⟩, fun b o z n _ => by rw [upd_ne (nea n), upd_ne (ndx z)]; exact n,
    fun b o z _ => by
      by_cases hb : b = a
      · exact ⟨_, by rw [hb]; exact hx⟩
      · exact ⟨o, kept b o hb z⟩,
    fun b xs z => by rw [upd_ne (at_ne e z exo_tup), upd_ne (ne_of_none z off)]; exact z, fun b o v z => by rw [upd_ne (at_ne e z exo_frz), upd_ne (ne_of_none z off)]; exact z,
    fun b ps z => ⟨#[], by rw [upd_ne (at_ne e z exo_tbl), upd_ne (ne_of_none z off), z]; simp⟩⟩
  refine h dx _ off ne (I.un (t' := tk') U fun b o z => ?_)
  by_cases hb : b = a
  · subst hb
    rw [upd_same] at z
    cases z
    exact exo_ok hx
  · rw [upd_ne hb] at z
    by_cases hd : b = dx
    · subst hd
      rw [upd_same] at z
      cases z
      exact exd_ok ns (relO_put (fs := []) ry fun _ => trivial)
    · rw [upd_ne hd] at z
      exact (I.hok b o z).stay (fun c v hc y => kept c v (hc.elim (fun q => q ▸ hb) fun q => at_ne e q exo_own) y)
        (fun c hc => by rw [upd_ne (at_ne e hc exo_own), upd_ne (ne_of_none hc off)]; exact hc) fun c xs hc => by rw [upd_ne (at_ne e hc exo_tup), upd_ne (ne_of_none hc off)]; exact hc
theorem xs_old (T : OexB X.K C) (I : Inv X pins σ H s) (e : H a = some (exo a C (some dx))) (ed : H dx = some (exd dx fs)) (hl : fs.length ≤ 900) (hno : PySem.W.findIn X.K (.ref C) f = some none) (ry : RelV y u)
    (h : ∀ s', Inv X pins σ (upd H dx (exd dx ((f, y) :: fs))) s' → Q () s') : wpAny (model X.prog X.w) A (setAttr (.ref a) f u) Q E s := by
  obtain ⟨B, nI, iI, tl, nm, q, N, bs, bm, sn, sub, ab, col, dd, k0, k1, k2, k3, k5, hB, hC, hbm⟩ := T.cls
  have mro : refsB tl (.ref C :: bm) = true := hbm
  obtain ⟨t1, at_⟩ := exo_at I.hok e
  obtain ⟨mA, ns, rel⟩ := exd_at I.hok ed
  have wi := within_of rel
  obtain ⟨hp, gn, dr, tk, os⟩ := s
  obtain ⟨oD, _, _, there, _, _⟩ := ns.count wi
  refine PySem.W.set_plain I.kIn (od := some oD) ⟨at_, rfl, rfl, there⟩ T.sa ?_
  refine xset_old (cd := { name := nm, bases := bs, mro := .ref C :: bm, ns := N, qualname := q, hasDict := true, slotNames := sn, subclasses := sub, abstract := ab, collection := col, hasDel := false }) I.kIn at_ ns wi (by rw [List.length_map]; omega)
    (by unfold PySem.W.clsIn; rw [hC] <;> rfl) rfl ((refsB_has _ _ mro hB.ne).trans hB.obj) (fun self => hB.passes self _ mro) rfl hno fun h' tk' kept ns' => ?_
  have some_ : ∃ o, h'.get? dx = some o := let ⟨o, _, _, z, _⟩ := ns'; ⟨o, z⟩
  exact h _ (I.write (t' := tk') (x := dx) (e := dx) (o := exd dx ((f, y) :: fs)) (by rw [ed]; trivial) (.inl rfl) kept some_ (exd_ok ns' (relO_put ry rel)))
end
/-- self.f = e as a statement -/
def tXs (K : PySem.W.Frag) (f : Str) (to te : TE) : TS := fun D σ H => te σ H fun y H1 => to σ H1 fun x H2 => ∃ a C : Addr, x = .ref a ∧ OexB K C ∧ PySem.W.findIn K (.ref C) f = some none ∧
  ((H2 a = some (exo a C none) ∧ ∀ dx, H2 dx = none → dx ≠ a → D.nx σ (upd (upd H2 dx (exd dx [(f, y)])) a (exo a C (some dx)))) ∨
    ∃ (dx : Addr) (fs : List (Str × V)), H2 a = some (exo a C (some dx)) ∧ H2 dx = some (exd dx fs) ∧ fs.length ≤ 900 ∧ D.nx σ (upd H2 dx (exd dx ((f, y) :: fs))))
theorem ps_xs {X : Cx} {o e : Expr} {to te : TE} {f : Str} {p' pos : Pos} (ho : PE X o to) (he : PE X e te) (hs : swapsWith e (some (.Attribute o f p')) pos.line X.env = pure false := by rfl) : PS X (.Assign [.Attribute o f p'] e pos) (tXs X.K f to te) := by
  refine ⟨fun pins s σ H D I h => plainObj_wpAny_Assign_Attribute (thn (he.run pins s σ H _ I h) fun v s1 ⟨y, H1, I1, r1, q1⟩ => thn (ho.run pins s1 σ H1 _ I1 q1) fun u s2 ⟨x, H2, I2, r2, a, C, ex, T, hno, q⟩ => ?_) hs⟩
  subst ex
  have r2 : u = Value.ref a := r2
  subst r2
  rcases q with ⟨ea, q⟩ | ⟨dx, fs, ea, ed, hl, q⟩
  · exact xs_new T I2 ea hno r1 fun dx s' n ne J => ⟨σ, _, J, q dx n ne⟩
  · exact xs_old T I2 ea ed hl hno r1 fun s' J => ⟨σ, _, J, q⟩
/-! ## __init__ of such a class: one field or two -/
def spI1 (K : PySem.W.Frag) (f : Str) : Sp := fun vs H Q _ => ∃ a C x, vs = [.ref a, x] ∧ OexB K C ∧ PySem.W.findIn K (.ref C) f = some none ∧ H a = some (exo a C none) ∧ ∀ dx, H dx = none → dx ≠ a → Q .non (upd (upd H dx (exd dx [(f, x)])) a (exo a C (some dx)))
def spI2 (K : PySem.W.Frag) (f g : Str) : Sp := fun vs H Q _ => ∃ a C x y, vs = [.ref a, x, y] ∧ OexB K C ∧ PySem.W.findIn K (.ref C) f = some none ∧ PySem.W.findIn K (.ref C) g = some none ∧ H a = some (exo a C none) ∧
  ∀ dx, H dx = none → dx ≠ a → Q .non (upd (upd (upd H dx (exd dx [(f, x)])) a (exo a C (some dx))) dx (exd dx [(g, y), (f, x)]))
section
variable {P : Program} {w : World} {K : PySem.W.Frag} {mg : Str → Option Value} {base : Heap}
theorem init1_ok {x qual self f : Str} {st : Stmt} {fa : Addr} {fd : FuncData} {k : Nat} {p1 p2 p3 p4 : Pos} (F : Fun K x qual st fa fd) (S : FnScope [self, f] [self, f] (defScope st)) (hb : defBody st = [.Assign [.Attribute (.Name self p1) f p2] (.Name f p3) p4])
    (v1 : Vis (defScope st) self) (v2 : Vis (defScope st) f) (d1 : (self == ("__debug__" : Str)) = false := by decide) (d2 : (f == ("__debug__" : Str)) = false := by decide) (d3 : (self == ("__classdict__" : Str)) = false := by decide) (d4 : (f == ("__classdict__" : Str)) = false := by decide) :
    FnG P w K mg base (k + 1) fa fd [self, f] (spI1 K f) := by
  refine funG F S (fun vs H Q E h => ?_) (fun cdv A outer s H vs Q E hr h => ?_)
  · obtain ⟨a, C, z, rfl, _⟩ := h
    rfl
  · obtain ⟨a, C, z, rfl, T, hno, ea, q⟩ := h
    rw [hb]
    refine ⟨_, pss_one (ps_xs (pe_var (i := 0) rfl v1 d1 d3) (pe_var (i := 1) rfl v2 d2 d4)), ?_⟩
    exact ⟨z, rfl, .ref a, rfl, a, C, rfl, T, hno, .inl ⟨ea, q⟩⟩
theorem init2_ok {x qual self f g : Str} {st : Stmt} {fa : Addr} {fd : FuncData} {k : Nat} {p1 p2 p3 p4 p5 p6 p7 p8 : Pos} (F : Fun K x qual st fa fd) (S : FnScope [self, f, g] [self, f, g] (defScope st))
    (hb : defBody st = [.Assign [.Attribute (.Name self p1) f p2] (.Name f p3) p4, .Assign [.Attribute (.Name self p5) g p6] (.Name g p7) p8])
    (v1 : Vis (defScope st) self) (v2 : Vis (defScope st) f) (v3 : Vis (defScope st) g) (d1 : (self == ("__debug__" : Str)) = false := by decide) (d2 : (f == ("__debug__" : Str)) = false := by decide) (d3 : (self == ("__classdict__" : Str)) = false := by decide) (d4 : (f == ("__classdict__" : Str)) = false := by decide)
    (d5 : (g == ("__debug__" : Str)) = false := by decide) (d6 : (g == ("__classdict__" : Str)) = false := by decide) : FnG P w K mg base (k + 1) fa fd [self, f, g] (spI2 K f g) := by
  refine funG F S (fun vs H Q E h => ?_) (fun cdv A outer s H vs Q E hr h => ?_)
  · obtain ⟨a, C, z, y, rfl, _⟩ := h
    rfl
  · obtain ⟨a, C, z, y, rfl, T, hno, hno2, ea, q⟩ := h
    rw [hb]
    refine ⟨_, pss_cons (ps_xs (pe_var (i := 0) rfl v1 d1 d3) (pe_var (i := 1) rfl v2 d2 d4)) (pss_one (ps_xs (pe_var (i := 0) rfl v1 d1 d3) (pe_var (i := 2) rfl v3 d5 d6))), ?_⟩
    refine ⟨z, rfl, .ref a, rfl, a, C, rfl, T, hno, .inl ⟨ea, fun dx off ne => ?_⟩⟩
    exact ⟨y, rfl, .ref a, rfl, a, C, rfl, T, hno2, .inr ⟨dx, [(f, z)], upd_same, by rw [upd_ne ne, upd_same], Nat.le_of_ble_eq_true rfl, q dx off ne⟩⟩
end
end DL

namespace DL
open PySem PySem.Spec PyProof.Rows L2
/-! # What is raised -/
abbrev Er := Str × List Str × List D
abbrev FX := DEnv → Sto → Option (Er × Sto)
abbrev XD := List D → Sto → Option (Er × Sto)
def ErrR (K : PySem.W.Frag) (ct : CT) (m : List Addr) (F : Hp) (er : Er) (cls : Value) (d : Option Addr) : Prop :=
  ∃ C vs, ct er.1 = some C ∧ cls = .ref C ∧ ((d = none ∧ er.2.1 = []) ∨ ∃ dx, d = some dx ∧ F dx = some (.xd (er.2.1.zip vs))) ∧ er.2.1.length = vs.length ∧ Reps K ct m F er.2.2 vs
def PostX (ct : CT) (K : PySem.W.Frag) (m : List Addr) (F H : Hp) (S' : Sto) (er : Er) (E : XK) : Prop := ∀ m' F' H' cls d, Ext m F H m' F' H' → Sim K ct m' F' S' H' → ErrR K ct m' F' er cls d → E cls d H'
theorem PostX.ext {ct : CT} {K : PySem.W.Frag} {m m1 : List Addr} {F F1 H H1 : Hp} {S' : Sto} {er : Er} {E : XK} (p : PostX ct K m F H S' er E) (e : Ext m F H m1 F1 H1) : PostX ct K m1 F1 H1 S' er E := fun m' F' H' c d x s r => p m' F' H' c d (e.trans x) s r
/-- the context lets such errors out -/
abbrev Lets (X : Cx) (E : XK) : Prop := Takes X fun cls d _ H => E cls d H
section
variable (ct : CT) (X : Cx) (E : XK)
def XE1 (e : Expr) (g : FX) : Prop := ∃ t, PE X e t ∧ ∀ m F S σ H env er S' Q, Sim X.K ct m F S H → EnvR X.K ct m F env σ → g env S = some (er, S') → PostX ct X.K m F H S' er E → t σ H Q
def XA1 (es : List Expr) (g : FX) : Prop := ∃ t, PA X es t ∧ ∀ m F S σ H env er S' Q, Sim X.K ct m F S H → EnvR X.K ct m F env σ → g env S = some (er, S') → PostX ct X.K m F H S' er E → t σ H Q
def XS1 (st : Stmt) (g : FX) : Prop := ∃ t, PS X st t ∧ ∀ m F S σ H env er S' D, Sim X.K ct m F S H → EnvR X.K ct m F env σ → g env S = some (er, S') → PostX ct X.K m F H S' er E → t D σ H
def XSs (sts : List Stmt) (g : FX) : Prop := ∃ t, PSs X sts t ∧ ∀ m F S σ H env er S' D, Sim X.K ct m F S H → EnvR X.K ct m F env σ → g env S = some (er, S') → PostX ct X.K m F H S' er E → t D σ H
end
/-! ## two readings of one thing -/
theorem pe_or {X : Cx} {e : Expr} {t u : TE} (h : PE X e t) (k : PE X e u) : PE X e fun σ H Q => t σ H Q ∨ u σ H Q := ⟨fun pins s σ H Q I q => q.elim (h.run pins s σ H Q I) (k.run pins s σ H Q I)⟩
theorem pa_or {X : Cx} {es : List Expr} {t u : TA} (h : PA X es t) (k : PA X es u) : PA X es fun σ H Q => t σ H Q ∨ u σ H Q := ⟨fun pos pins s σ H Q I q => q.elim (h.run pos pins s σ H Q I) (k.run pos pins s σ H Q I)⟩
theorem ps_or {X : Cx} {st : Stmt} {t u : TS} (h : PS X st t) (k : PS X st u) : PS X st fun D σ H => t D σ H ∨ u D σ H := ⟨fun pins s σ H D I q => q.elim (h.run pins s σ H D I) (k.run pins s σ H D I)⟩
theorem pss_or {X : Cx} {sts : List Stmt} {t u : TS} (h : PSs X sts t) (k : PSs X sts u) : PSs X sts fun D σ H => t D σ H ∨ u D σ H := ⟨fun pins s σ H D I q => q.elim (h.run pins s σ H D I) (k.run pins s σ H D I)⟩
theorem pe_no {X : Cx} {e : Expr} : PE X e fun _ _ _ => False := ⟨fun _ _ _ _ _ _ h => h.elim⟩
theorem pa_no {X : Cx} {es : List Expr} : PA X es fun _ _ _ => False := ⟨fun _ _ _ _ _ _ _ h => h.elim⟩
/-! ## promises of defs that raise -/
structure FnX (P : Program) (w : World) (K : PySem.W.Frag) (mg : Str → Option Value) (base : Heap) (k : Nat) (f : Addr) (fd : FuncData) (ps : List Str) (sp : List V → Hp → XK → Prop) : Prop where
  len : ∀ vs H E, sp vs H E → vs.length = ps.length
  run : ∀ (A : Around) (outer : List Env) (s : Shared) (H : Hp) (args : Args) (us : List Value) (vs : List V) (E : XK), RoomG k A → Env0 P w K mg base A outer s H →
    BindsTo s fd args (ps.zip us) → Vals vs us → sp vs H E → codeAny (model P w) A (.call (.ref f) args) (CR (L2.CX P w) outer P w H s (fun _ _ => False) E) s
theorem FnX.mono {P : Program} {w : World} {K : PySem.W.Frag} {mg : Str → Option Value} {base : Heap} {j k : Nat} {f : Addr} {fd : FuncData} {ps : List Str} {sp : List V → Hp → XK → Prop} (F : FnX P w K mg base j f fd ps sp) (h : j ≤ k) : FnX P w K mg base k f fd ps sp := ⟨F.len, fun A o s H ar us vs E r => F.run A o s H ar us vs E (r.mono h)⟩
def spX (K : PySem.W.Frag) (ct : CT) (n : Nat) (g : XD) : List V → Hp → XK → Prop := fun vs H E => vs.length = n ∧ ∃ m F S ds er S', Sim K ct m F S H ∧ Reps K ct m F ds vs ∧ g ds S = some (er, S') ∧ PostX ct K m F H S' er E
def runX (n : Nat) (g : FX) : XD := fun ds S => g (ds.map some ++ List.replicate (n - ds.length) none) S
section
variable {P : Program} {w : World} {K : PySem.W.Frag} {mg : Str → Option Value} {base : Heap} {ct : CT}
theorem start_env {N : List Str} {m : List Addr} {F : Hp} {ds : List D} {vs : List V} (reps : Reps K ct m F ds vs) : EnvR K ct m F (ds.map some ++ List.replicate (N.length - ds.length) none) (L2.start N vs) := by
  have hl2 := reps.length
  refine ⟨by simp [L2.start, hl2], fun i e he => ?_⟩
  by_cases hi : i < ds.length
  · rw [List.getElem?_append_left (by simpa using hi)] at he
    simp at he
    obtain ⟨v, q1, q2⟩ := reps.get (i := i) (d := e) (by simpa using he)
    refine ⟨v, ?_, q2⟩
    unfold L2.start
    rw [List.getElem?_append_left (by simpa [← hl2] using hi)]
    simp [q1]
  · rw [List.getElem?_append_right (by simpa using hi)] at he
    have := List.mem_of_getElem? he
    simp at this
theorem defX_ok {x qual : Str} {st : Stmt} {f : Addr} {fd : FuncData} {N ps : List Str} {k : Nat} {g : FX} (F : Fun K x qual st f fd) (S : FnScope N ps (defScope st))
    (hbody : ∀ (cdv : Value) (A : Around) (outer : List Env) (s : Shared) (H : Hp) (E : XK), RoomG k (A.deeper (envOfC qual (defScope st) s.heap.objs.size f cdv)) →
      XSs ct (cxOf (L2.CX P w) P w K mg base N qual (defScope st) f cdv A outer s H E) E (defBody st) g) : FnX P w K mg base (k + 1) f fd ps (spX K ct ps.length (runX N.length g)) := by
  obtain ⟨oc, od, kV, doc, pm, an, cdv, ctv, osl, rfl, lk, hcd⟩ := F.ex
  refine ⟨fun vs H E h => h.1, fun A outer s H ar us vs E hr e0 hb rv hsp => ?_⟩
  obtain ⟨hl, m, F', S0, ds, er, S', sim, reps, hg, post⟩ := hsp
  have old := fun b o e => (e0.bs b o e).1
  have kin : K.In s.heap := e0.mod.kin.keeps old
  refine codeAny_call_function hr.room.depth (kin _ _ lk) rfl S.co S.gen rfl (PySem.W.codeRec_of kin hcd) (hb _ _ _ _ (wpAny_newFunctionEnv_cells S.kind (fun y hy => ?_) fun env he s1 nw => ?_))
  · rcases S.par y.1 (List.of_mem_zip (b := y.2) hy).1 with q | q
    · exact .inl q
    · exact .inr ⟨q, PySem.W.cellsFrom_some _ _ _ (.inl q)⟩
  · subst he
    refine ⟨(e0.mod.nolimit.keeps old).keeps nw.toInCall.keep, codeAny_func ?_⟩
    obtain ⟨t, ht, hq⟩ := hbody cdv A outer s H E (hr.deeper _)
    refine wpAny_mono (ht.run [] s1 (start N vs) H { nx := fun _ _ => False, rt := fun _ _ => False } (inv_start S hr.room.hd e0 hl rv nw) (hq m F' S0 _ H _ er S' _ sim (start_env reps) hg post)) (fun fl s' z => ?_) fun _ _ z => z
    cases fl with
    | ret u => obtain ⟨v, _, G, J, ru, q⟩ := z; exact q.elim
    | next => obtain ⟨_, G, J, q⟩ := z; exact q.elim
    | brk => obtain ⟨_, _, _, q⟩ := z; exact q.elim
    | cont => obtain ⟨_, _, _, q⟩ := z; exact q.elim
end
/-! ## calls of them -/
section
variable {X : Cx} {k : Nat} {f C : Addr} {fd : FuncData} {ps : List Str} {sp : List V → Hp → XK → Prop} {E : XK} {x m : Str} {p pos apos : Pos} {e o : Expr} {es : List Expr} {ta : TE} {t tk : TA} {kws : List Keyword} {ks : List Str} {n : Nat} {g : List Value → List Value → List Value} {gV : List V → List V → List V} {dvs : List V} {ds : List Value}
theorem out_of {pins : List (Addr × Obj)} {σ : L2.St} {H : Hp} {s s' : Shared} {Q : VK} {r : Except Value Flow} (tk : Lets X E) (I : Inv X pins σ H s) (h : CR (L2.CX X.prog X.w) X.stack X.prog X.w H s (fun _ _ => False) E r s') : ∃ er, r = .error er ∧ X.xe er s' := by
  cases r with
  | error er => exact ⟨er, rfl, passes_call tk (fun _ _ _ _ z => z) pins σ H s er s' I h⟩
  | ok fl =>
    cases fl with
    | ret u => obtain ⟨_, _, _, _, _, _, _, q⟩ := h; exact q.elim
    | next => exact h.elim
    | brk => exact h.elim
    | cont => exact h.elim
theorem runXb {pins : List (Addr × Obj)} {σ : L2.St} {H : Hp} {s : Shared} {Q : VK} {ar : Args} {us : List Value} {vs : List V} (F : FnX X.prog X.w X.K X.mg X.base k f fd ps sp) (hr : RoomG k X.A) (tk : Lets X E) (I : Inv X pins σ H s)
    (hb : BindsTo s fd ar (ps.zip us)) (rv : Vals vs us) (h : sp vs H E) : wpAny (model X.prog X.w) X.A (call (.ref f) ar.pos ar.kw) (EP X pins σ Q) X.xe s := by
  refine wpAny_call (codeAny_mono (F.run X.A X.stack s H ar us vs E hr I.env0 hb rv h) fun r s' q => ?_)
  obtain ⟨er, rfl, z⟩ := out_of (Q := Q) tk I q
  exact z
theorem runXp {pins : List (Addr × Obj)} {σ : L2.St} {H : Hp} {s : Shared} {Q : VK} {us : List Value} {vs : List V} (F : FnX X.prog X.w X.K X.mg X.base k f fd ps sp) (hr : RoomG k X.A) (tk : Lets X E) (hb : Binds X.K fd ps ds) (hd : Vals dvs ds)
    (I : Inv X pins σ H s) (rv : Vals vs us) (h : sp (vs ++ dvs) H E) : wpAny (model X.prog X.w) X.A (call (.ref f) us) (EP X pins σ Q) X.xe s :=
  runXb (ar := ⟨us, []⟩) F hr tk I (hb s us I.kIn (by rw [← (rv.append hd).length]; exact F.len _ _ _ h)) (rv.append hd) h
theorem runXk {pins : List (Addr × Obj)} {σ : L2.St} {H : Hp} {s : Shared} {Q : VK} {us ws : List Value} {vs zs : List V} (F : FnX X.prog X.w X.K X.mg X.base k f fd ps sp) (hr : RoomG k X.A) (tk : Lets X E) (hb : KBn X.K fd ps n ks g gV)
    (I : Inv X pins σ H s) (rv : Vals vs us) (rz : Vals zs ws) (l1 : vs.length = n) (l2 : zs.length = ks.length) (h : sp (gV vs zs) H E) : wpAny (model X.prog X.w) X.A (call (.ref f) us (ks.zip ws)) (EP X pins σ Q) X.xe s :=
  runXb (ar := ⟨us, ks.zip ws⟩) F hr tk I (hb.to s us ws I.kIn (rv.length.symm.trans l1) (rz.length.symm.trans l2)) (hb.rel rv rz) h
theorem pe_callX (F : FnX X.prog X.w X.K X.mg X.base k f fd ps sp) (hr : RoomG k X.A) (tk : Lets X E) (hg : Gl X x) (hm : X.mg x = some (.ref f)) (hk : PySem.W.keepIn X.K (.ref f) = true) (hb : Binds X.K fd ps ds) (hd : Vals dvs ds)
    (ha : PA X (e :: es) t) (hdb : (x == ("__debug__" : Str)) = false := by decide) (hst : starEach (e :: es) X.env = (false, eval e X.env) :: starEach es X.env := by rfl) (hpl : (backTo pos (starEach es X.env)).any (·.1) = false := by rfl) :
    PE X (.Call (.Name x p) (e :: es) [] pos) (fun σ H _ => t σ H fun vs H1 => sp (vs ++ dvs) H1 E) :=
  ⟨fun pins s σ H Q I h => wpAny_Call_Name_kw (ld_glob I hg hm (PySem.W.callWith_K (h₀ := X.base) I.ok.mod.kin hk
    (thn (ha.run pos pins s σ H _ I h) fun us s1 ⟨vs, H1, I1, rv, q⟩ => ⟨I1.kIn, runXp F hr tk hb hd I1 rv q⟩) hst hpl) hdb)⟩
theorem pe_callXK (F : FnX X.prog X.w X.K X.mg X.base k f fd ps sp) (hr : RoomG k X.A) (lt : Lets X E) (hg : Gl X x) (hm : X.mg x = some (.ref f)) (hk : PySem.W.keepIn X.K (.ref f) = true) (hb : KBn X.K fd ps 0 ks g gV) (hkw : PK X kws tk)
    (hall : (backToKw pos (keywordEach kws X.env)).all (·.1.isSome) = true := by rfl) (hks : (backToKw pos (keywordEach kws X.env)).filterMap (·.1) = ks := by rfl) (hdb : (x == ("__debug__" : Str)) = false := by decide)
    (hpl : ((backTo pos (starEach [] X.env)).any (·.1) || (backToKw pos (keywordEach kws X.env)).any (·.1.isNone)) = false := by rfl) : PE X (.Call (.Name x p) [] kws pos) (fun σ H _ => tk σ H fun zs H2 => zs.length = ks.length ∧ sp (gV [] zs) H2 E) := by
  refine ⟨fun pins s σ H Q I h => wpAny_Call_Name_kw (ld_glob I hg hm (PySem.W.callWith_KW0 (h₀ := X.base) I.ok.mod.kin hk hall (thn (hkw.run pos pins s σ H _ I h) fun ws s2 ⟨zs, H2, I2, rz, lz, q2⟩ => ⟨I2.kIn, ?_⟩) hpl) hdb)⟩
  rw [hks]
  exact runXk (us := []) (vs := []) F hr lt hb I2 .nil rz rfl lz q2
theorem pe_methX {pl : Sem Bool} (he : PE X o ta) (c : Cls X.K C) (hm : Meth X.K C m f) (F : FnX X.prog X.w X.K X.mg X.base k f fd ps sp) (hr : RoomG k X.A) (tk : Lets X E) (hb : Binds X.K fd ps ds) (hd : Vals dvs ds) (ha : PA X (e :: es) t)
    (hst : starEach (e :: es) X.env = (false, eval e X.env) :: starEach es X.env := by rfl) (hpl : (backTo pos (starEach es X.env)).any (·.1) = false := by rfl)
    (ht : eval (.Call (.Attribute o m apos) (e :: es) [] pos) X.env = (eval o X.env >>= fun ov => standAt apos.atName >>= fun _ => holding [ov] (getMethod ov m pl) >>= fun q =>
      callWith pos q.1 q.2 (backTo pos (starEach (e :: es) X.env)) (backToKw pos (keywordEach [] X.env))) := by rfl) :
    PE X (.Call (.Attribute o m apos) (e :: es) [] pos) (fun σ H _ => ta σ H fun x H1 => ∃ a dx fs, x = .ref a ∧ H1 a = some (.ins C dx fs) ∧ fs.lookup m = none ∧ t σ H1 fun vs H2 => sp (x :: (vs ++ dvs)) H2 E) := by
  refine ⟨fun pins s σ H Q I h => PySem.W.methodCall_KW (pl := pl) (thn (he.run pins s σ H _ I h) fun u s1 ⟨y, H1, I1, ry, a, dx, fs, ex, ea, l, q⟩ => ?_) ht⟩
  subst ex
  have ry : u = Value.ref a := ry
  subst ry
  exact getmeth_ok I1 ea c hm l (PySem.W.callWith_K (first := [.ref a]) (h₀ := X.base) I.ok.mod.kin hm.kp (thn (ha.run pos pins s1 σ H1 _ I1 q)
    fun us s2 ⟨vs, H2, I2, rv, q2⟩ => ⟨I2.kIn, runXp (us := .ref a :: us) (vs := .ref a :: vs) F hr tk hb hd I2 (.cons rfl rv) q2⟩) hst hpl)
theorem pe_methXK {pl : Sem Bool} (he : PE X o ta) (c : Cls X.K C) (hm : Meth X.K C m f) (F : FnX X.prog X.w X.K X.mg X.base k f fd ps sp) (hr : RoomG k X.A) (lt : Lets X E) (hb : KBn X.K fd ps 1 ks g gV) (hkw : PK X kws tk)
    (hall : (backToKw pos (keywordEach kws X.env)).all (·.1.isSome) = true := by rfl) (hks : (backToKw pos (keywordEach kws X.env)).filterMap (·.1) = ks := by rfl)
    (hpl : ((backTo pos (starEach [] X.env)).any (·.1) || (backToKw pos (keywordEach kws X.env)).any (·.1.isNone)) = false := by rfl)
    (ht : eval (.Call (.Attribute o m apos) [] kws pos) X.env = (eval o X.env >>= fun ov => standAt apos.atName >>= fun _ => holding [ov] (getMethod ov m pl) >>= fun q =>
      callWith pos q.1 q.2 (backTo pos (starEach [] X.env)) (backToKw pos (keywordEach kws X.env))) := by rfl) : PE X (.Call (.Attribute o m apos) [] kws pos) (fun σ H _ => ta σ H fun x H1 => ∃ a dx fs, x = .ref a ∧ H1 a = some (.ins C dx fs) ∧ fs.lookup m = none ∧
        tk σ H1 fun zs H2 => zs.length = ks.length ∧ sp (gV [x] zs) H2 E) := by
  refine ⟨fun pins s σ H Q I h => PySem.W.methodCall_KW (pl := pl) (thn (he.run pins s σ H _ I h) fun u s1 ⟨y, H1, I1, ry, a, dx, fs, ex, ea, l, q⟩ => ?_) ht⟩
  subst ex
  have ry : u = Value.ref a := ry
  subst ry
  refine getmeth_ok I1 ea c hm l (PySem.W.callWith_KW0 (first := [.ref a]) (h₀ := X.base) I.ok.mod.kin hm.kp hall (thn (hkw.run pos pins s1 σ H1 _ I1 q) fun ws s2 ⟨zs, H2, I2, rz, lz, q2⟩ => ⟨I2.kIn, ?_⟩) hpl)
  rw [hks]
  exact runXk (us := [.ref a]) (vs := [.ref a]) F hr lt hb I2 (.cons rfl .nil) rz rfl lz q2
end
end DL

namespace DL
open PySem PySem.Spec PyProof.Rows L2
/-! ## raise C(..) -/
def tMkX (C : Addr) (sp : Sp) (ta : TA) : L2.St → Hp → XK → Prop := fun σ H Q => ta σ H fun vs H1 => vs.length ≤ 1000 ∧ ∀ a, H1 a = none → sp (.ref a :: vs) (upd H1 a (exo a C none))
  (fun v H2 => v = .non ∧ ∃ (d : Addr) (fs : List (Str × V)), H2 a = some (exo a C (some d)) ∧ H2 d = some (exd d fs) ∧ H1 d = none ∧ Q (.ref C) (some d) (upd (del H2 a) d (.xd fs))) (fun _ _ _ => False)
section
variable {X : Cx} {k : Nat} {x : Str} {C fI : Addr} {fd : FuncData} {ps : List Str} {sp : Sp} {e : Expr} {es : List Expr} {ta : TA} {p pos : Pos}
theorem mk_run {pins : List (Addr × Obj)} {σ : L2.St} {H1 : Hp} {s1 : Shared} {us : List Value} {vs : List V} {Q : Value → Shared → Prop} {Ev : Value → Shared → Prop} {RR : Addr → Hp → Prop} (T : OexB X.K C) (iC : PySem.W.findIn X.K (.ref C) "__init__" = some (some (.ref fI))) (tI : PySem.W.typeIn X.K (.ref fI) = some (.type "function"))
    (F1 : FnG X.prog X.w X.K X.mg X.base k fI fd ps sp) (hr : RoomG (k + 1) X.A) (hb : Binds X.K fd ps []) (I1 : Inv X pins σ H1 s1) (rv : Vals vs us) (hl : vs.length ≤ 1000)
    (hq : ∀ a, H1 a = none → sp (.ref a :: vs) (upd H1 a (exo a C none)) (fun v H2 => v = .non ∧ RR a H2) (fun _ _ _ => False))
    (fin : ∀ a H2 hp2 (s' : Shared), s1.heap.objs.size ≤ a → (∀ b o, s1.heap.get? b = some o → hp2.get? b = some o) → Un (frs X.stack) [] (upd H1 a (exo a C none)) H2 hp2 s'.heap → HOk X.prog X.w H2 s'.heap → s'.os = s1.os → AllBare s'.gens → RR a H2 → Q (.ref a) s') :
    wpAny (model X.prog X.w) X.A (call (.ref C) us) Q Ev s1 := by
  obtain ⟨B, nI, iI, tl, nm, q, N, bs, bm, sn, sub, ab, col, dd, k0, k1, k2, k3, k5, hB, hC, hbm⟩ := T.cls
  obtain ⟨hp, gn, dr, tk, os⟩ := s1
  have big : hp.objs.size ≤ hp.objs.size + 1 := Nat.le_succ _
  have call_ := hq (hp.objs.size + 1) (I1.hok.fresh big)
  have grow : ∀ b o, hp.get? b = some o → ((hp.push (PySem.W.kdv_tup us)).push (PySem.HandSPX.excO C hp.objs.size)).get? b = some o := fun b o z => Heap.get?_push_of_some _ (Heap.get?_push_of_some _ z)
  have new_ : ((hp.push (PySem.W.kdv_tup us)).push (PySem.HandSPX.excO C hp.objs.size)).get? (hp.objs.size + 1) = some (PySem.HandSPX.excO C hp.objs.size) := by heap_get
  have I2 : Inv X pins σ (upd H1 (hp.objs.size + 1) (exo (hp.objs.size + 1) C none)) ⟨(hp.push (PySem.W.kdv_tup us)).push (PySem.HandSPX.excO C hp.objs.size), gn, dr, tk, os⟩ := I1.laid (t' := tk) grow big (exo_ok new_)
  have r2 : Vals (V.ref (hp.objs.size + 1) :: vs) (Value.ref (hp.objs.size + 1) :: us) := .cons rfl rv
  have len2 : (Value.ref (hp.objs.size + 1) :: us).length = ps.length := by rw [← r2.length]; exact F1.len _ _ _ _ call_
  have fits : us.length ≤ sizeLine := by
    rw [← rv.length, sizeLine_eq]
    omega
  have bind_ := hb ⟨(hp.push (PySem.W.kdv_tup us)).push (PySem.HandSPX.excO C hp.objs.size), gn, dr, tk, os⟩ (Value.ref (hp.objs.size + 1) :: us) I2.kIn (by rw [List.append_nil]; exact len2)
  rw [List.append_nil] at bind_
  refine wpAny_call (PySem.HandSPX.call_own hB.facts (fun Y => refsB_has Y bm hbm hB.ne) (I1.kIn _ _ hC) (PySem.W.looks_findIn I1.kIn iC) (fun self => PySem.W.bind_fn I1.kIn self tI) fits
    (codeAny_mono (F1.run _ X.stack _ _ ⟨Value.ref (hp.objs.size + 1) :: us, []⟩ _ _ _ _ (hr.make C us []) (I2.env0.make C us []) bind_ r2 call_) fun r s' z => ?_))
  cases r with
  | error er => exact False.elim z
  | ok fl =>
    cases fl <;> first | exact False.elim z | skip
    obtain ⟨v, H2, os2, bare2, un2, hok2, ru, ev, q2⟩ := z
    subst ev
    exact ⟨ru, fin _ H2 _ s' big grow un2 hok2 os2 bare2 q2⟩
theorem pmk_X (T : OexB X.K C) (iC : PySem.W.findIn X.K (.ref C) "__init__" = some (some (.ref fI))) (tI : PySem.W.typeIn X.K (.ref fI) = some (.type "function"))
    (F1 : FnG X.prog X.w X.K X.mg X.base k fI fd ps sp) (hr : RoomG (k + 1) X.A) (hb : Binds X.K fd ps []) (hg : Gl X x) (hm : X.mg x = some (.ref C)) (ha : PA X (e :: es) ta) (hdb : (x == ("__debug__" : Str)) = false := by decide)
    (hst : starEach (e :: es) X.env = (false, eval e X.env) :: starEach es X.env := by rfl) (hpl : (backTo pos (starEach es X.env)).any (·.1) = false := by rfl) : PMk X (.Call (.Name x p) (e :: es) [] pos) (tMkX C sp ta) := by
  intro pins s σ H Q I h
  refine wpAny_Call_Name_kw (ld_glob I hg hm (PySem.W.callWith_K (h₀ := X.base) I.ok.mod.kin T.kC (thn (ha.run pos pins s σ H _ I h) fun us s1 ⟨vs, H1, I1, r1, hz, q1⟩ => ⟨I1.kIn, ?_⟩) hst hpl) hdb)
  obtain ⟨hp, gn, dr, tk, os⟩ := s1
  refine mk_run T iC tI F1 hr hb I1 r1 hz q1 fun a H2 hp2 s' big grow un2 hok2 os2 bare2 ⟨d, fs, ea, ed, hd1, q2⟩ => ?_
  obtain ⟨h2, g2, d2, t2, os'⟩ := s'
  exact mk_end (raises_own T.exC T.tyC) I1 big grow un2 hok2 os2 bare2 ea ed hd1 q2
end
theorem del_upd2 {H : Hp} {a d : Addr} {o u w : HO} (h : H a = none) (hd : d ≠ a) : upd (del (upd (upd H d o) a u) a) d w = upd H d w := by
  funext b
  by_cases hb : b = d
  · rw [hb, upd_same, upd_same]
  · rw [upd_ne hb, upd_ne hb]
    by_cases ha : b = a
    · rw [ha, del_same, h]
    · rw [del_ne ha, upd_ne ha, upd_ne hb]
theorem del_upd3 {H : Hp} {a d : Addr} {o u v w : HO} (h : H a = none) (hd : d ≠ a) : upd (del (upd (upd (upd H d o) a u) d v) a) d w = upd H d w := by
  funext b
  by_cases hb : b = d
  · rw [hb, upd_same, upd_same]
  · rw [upd_ne hb, upd_ne hb]
    by_cases ha : b = a
    · rw [ha, del_same, h]
    · rw [del_ne ha, upd_ne hb, upd_ne ha, upd_ne hb]
/-- what is known of a class of errors whose __init__ keeps its arguments -/
def Raiser (P : Program) (w : World) (K : PySem.W.Frag) (mg : Str → Option Value) (base : Heap) (ct : CT) (k : Nat) (c : Str) (fs : List Str) : Prop :=
  ∃ (C fI : Addr) (fd : FuncData) (ps : List Str), mg c = some (.ref C) ∧ ct c = some C ∧ OexB K C ∧ PySem.W.findIn K (.ref C) "__init__" = some (some (.ref fI)) ∧ PySem.W.typeIn K (.ref fI) = some (.type "function") ∧ Binds K fd ps [] ∧
    ((∃ f, fs = [f] ∧ PySem.W.findIn K (.ref C) f = some none ∧ FnG P w K mg base k fI fd ps (spI1 K f)) ∨ ∃ f g, fs = [g, f] ∧ PySem.W.findIn K (.ref C) f = some none ∧ PySem.W.findIn K (.ref C) g = some none ∧ FnG P w K mg base k fI fd ps (spI2 K f g))
theorem Raiser.mono {P : Program} {w : World} {K : PySem.W.Frag} {mg : Str → Option Value} {base : Heap} {ct : CT} {j k : Nat} {c : Str} {fs : List Str} (r : Raiser P w K mg base ct j c fs) (h : j ≤ k) : Raiser P w K mg base ct k c fs := by
  obtain ⟨C, fI, fd, ps, h1, h2, h3, h4, h5, h6, h7⟩ := r
  refine ⟨C, fI, fd, ps, h1, h2, h3, h4, h5, h6, ?_⟩
  rcases h7 with ⟨f, a, b, c⟩ | ⟨f, g, a, b, c, d⟩
  · exact .inl ⟨f, a, b, c.mono h⟩
  · exact .inr ⟨f, g, a, b, c, d.mono h⟩
def xRaise (c : Str) (fs : List Str) (fas : FA) : FX := fun env S => (fas env S).bind fun p => if p.1.length = fs.length then some ((c, fs, p.1.reverse), p.2) else none
section
variable {ct : CT} {X : Cx} {E : XK} {k : Nat} {c : Str} {fs : List Str} {e : Expr} {es : List Expr} {fas : FA} {p pos pos' : Pos}
theorem xs_raise (R : Raiser X.prog X.w X.K X.mg X.base ct k c fs) (hc : X.calm = true) (tk : Lets X E) (hr : RoomG (k + 1) X.A) (hg : Gl X c) (ha : SA ct X (e :: es) fas) (hdb : (c == ("__debug__" : Str)) = false := by decide)
    (hst : starEach (e :: es) X.env = (false, eval e X.env) :: starEach es X.env := by rfl) (hpl : (backTo pos (starEach es X.env)).any (·.1) = false := by rfl) : XS1 ct X E (.Raise (some (.Call (.Name c p) (e :: es) [] pos)) none pos') (xRaise c fs fas) := by
  obtain ⟨C, fI, fd, ps, h1, h2, h3, h4, h5, h6, h7⟩ := R
  obtain ⟨ta, pa, ra⟩ := ha
  rcases h7 with ⟨f, rfl, b1, b2⟩ | ⟨f, g, rfl, b1, b2, b3⟩
  · refine ⟨_, ps_raise hc tk (pmk_X h3 h4 h5 b2 hr h6 hg h1 pa hdb hst hpl), fun m F S σ H env er S' D s en h post => ?_⟩
    obtain ⟨⟨xs, S1⟩, q1, h⟩ := bind_some h
    dsimp only at h
    split at h
    case isFalse => cases h
    rename_i hl
    cases h
    refine ra m F S σ H env xs _ _ s en q1 fun m1 F1 vs H1 x1 s1 r1 => ?_
    match xs, hl, r1 with
    | [d], _, r1 =>
      obtain ⟨v, e1, e2⟩ := reps1 r1
      subst e1
      refine ⟨Nat.le_of_ble_eq_true rfl, fun a na => ⟨a, C, v, rfl, h3, b1, upd_same, fun dx ndx ne => ⟨rfl, dx, [(f, v)], upd_same, by rw [upd_ne ne, upd_same], by rw [upd_ne ne] at ndx; exact ndx, ?_⟩⟩⟩
      have ndx : H1 dx = none := by rw [upd_ne ne] at ndx; exact ndx
      have eq1 : upd (del (upd (upd (upd H1 a (exo a C none)) dx (exd dx [(f, v)])) a (exo a C (some dx))) a) dx (.xd [(f, v)]) = upd H1 dx (.xd [(f, v)]) := by
        funext b
        by_cases hb : b = dx
        · rw [hb, upd_same, upd_same]
        · rw [upd_ne hb, upd_ne hb]
          by_cases ha : b = a
          · rw [ha, del_same, na]
          · rw [del_ne ha, upd_ne ha, upd_ne hb, upd_ne ha]
      rw [eq1]
      obtain ⟨s2, x2⟩ := s1.frozen ndx (.xd [(f, v)])
      exact post m1 _ _ _ _ (x1.trans x2) s2 ⟨C, [v], h2, rfl, .inr ⟨dx, rfl, upd_same⟩, rfl, r1.mono x2⟩
  · refine ⟨_, ps_raise hc tk (pmk_X h3 h4 h5 b3 hr h6 hg h1 pa hdb hst hpl), fun m F S σ H env er S' D s en h post => ?_⟩
    obtain ⟨⟨xs, S1⟩, q1, h⟩ := bind_some h
    dsimp only at h
    split at h
    case isFalse => cases h
    rename_i hl
    cases h
    refine ra m F S σ H env xs _ _ s en q1 fun m1 F1 vs H1 x1 s1 r1 => ?_
    match xs, hl, r1 with
    | [d, d'], _, r1 =>
      obtain ⟨v, r', e1, e2, v', r'', e3, e4, e5⟩ := r1
      have e5 : r'' = [] := e5
      subst e5 e3 e1
      refine ⟨Nat.le_of_ble_eq_true rfl, fun a na => ⟨a, C, v, v', rfl, h3, b1, b2, upd_same, fun dx ndx ne => ⟨rfl, dx, [(g, v'), (f, v)], by rw [upd_ne (fun z => ne z.symm), upd_same], upd_same, by rw [upd_ne ne] at ndx; exact ndx, ?_⟩⟩⟩
      have ndx : H1 dx = none := by rw [upd_ne ne] at ndx; exact ndx
      have eq1 : upd (del (upd (upd (upd (upd H1 a (exo a C none)) dx (exd dx [(f, v)])) a (exo a C (some dx))) dx (exd dx [(g, v'), (f, v)])) a) dx (.xd [(g, v'), (f, v)]) = upd H1 dx (.xd [(g, v'), (f, v)]) := by
        funext b
        by_cases hb : b = dx
        · rw [hb, upd_same, upd_same]
        · rw [upd_ne hb, upd_ne hb]
          by_cases ha : b = a
          · rw [ha, del_same, na]
          · rw [del_ne ha, upd_ne hb, upd_ne ha, upd_ne hb, upd_ne ha]
      rw [eq1]
      obtain ⟨s2, x2⟩ := s1.frozen ndx (.xd [(g, v'), (f, v)])
      exact post m1 _ _ _ _ (x1.trans x2) s2 ⟨C, [v', v], h2, rfl, .inr ⟨dx, rfl, upd_same⟩, rfl, ⟨v', [v], rfl, e4.mono x2, v, [], rfl, e2.mono x2, rfl⟩⟩
end
end DL

namespace DL
open PySem PySem.Spec PyProof.Rows L2
/-! # Errors on their way -/
def xNo : FX := fun _ _ => none
def orX (a b : Option (Er × Sto)) : Option (Er × Sto) := match a with
  | some r => some r
  | none => b
theorem orX_some {a b : Option (Er × Sto)} {r : Er × Sto} (h : orX a b = some r) : a = some r ∨ b = some r := by
  cases a with
  | none => exact .inr h
  | some z => exact .inl h
section
variable {ct : CT} {X : Cx} {E : XK} {a b c e o : Expr} {es : List Expr} {fa fb fc f fo : FE} {fas : FA} {ga gb : FT} {pos apos p : Pos} {st : Stmt} {rest as bs : List Stmt} {f1 f2 : FS} {g g1 g2 : FX}
theorem xe_no : XE1 ct X E e xNo := ⟨_, pe_no, fun m F S σ H env er S' Q s en h post => by cases h⟩
theorem xs_no : XS1 ct X E st xNo := ⟨_, ps_never, fun m F S σ H env er S' Q s en h post => by cases h⟩
theorem xss_no {sts : List Stmt} : XSs ct X E sts xNo := ⟨_, pss_never, fun m F S σ H env er S' Q s en h post => by cases h⟩
/-! ## statements -/
def xSeq (f1 : FS) (g1 g2 : FX) : FX := fun env S => orX (g1 env S) ((f1 env S).bind fun p => match p.1 with
  | .nx env' => g2 env' p.2
  | _ => none)
theorem xss_cons (h1 : SS ct X st f1) (k1 : XS1 ct X E st g1) (k2 : XSs ct X E rest g2) : XSs ct X E (st :: rest) (xSeq f1 g1 g2) := by
  obtain ⟨ta, pa, ra⟩ := h1
  obtain ⟨tb, pb, rb⟩ := k1
  obtain ⟨tc, pc, rc⟩ := k2
  refine ⟨_, pss_cons (ps_or pa pb) pc, fun m F S σ H env er S' D s en h post => ?_⟩
  rcases orX_some h with h | h
  · exact .inr (rb m F S σ H env er S' _ s en h post)
  · obtain ⟨⟨x, S1⟩, h1, h⟩ := bind_some h
    cases x with
    | nx env1 => exact .inl (ra m F S σ H env _ S1 _ s en h1 fun m1 F1 σ1 H1 x1 s1 r1 => rc m1 F1 S1 σ1 H1 env1 er S' D s1 r1 h (post.ext x1))
    | rt d => cases h
    | bk env1 => cases h
    | ct env1 => cases h
theorem xss_one (k1 : XS1 ct X E st g1) : XSs ct X E [st] g1 := by
  obtain ⟨tb, pb, rb⟩ := k1
  exact ⟨_, pss_one pb, rb⟩
theorem xs_expr (k : XE1 ct X E e g) (hs : swapsWith e none pos.line X.env = pure false := by rfl) : XS1 ct X E (.Expr e pos) g := by
  obtain ⟨ta, pa, ra⟩ := k
  exact ⟨_, ps_expr pa hs, fun m F S σ H env er S' D s en h post => ra m F S σ H env er S' _ s en h post⟩
theorem xs_ret (k : XE1 ct X E e g) : XS1 ct X E (.Return (some e) pos) g := by
  obtain ⟨ta, pa, ra⟩ := k
  exact ⟨_, ps_ret pa, fun m F S σ H env er S' D s en h post => ra m F S σ H env er S' _ s en h post⟩
theorem xs_set {i : Nat} {x : Str} {pos' : Pos} (hN : X.N.Nodup) (hi : X.N[i]? = some x) (hx : Loc X.env.scope x) (k : XE1 ct X E e g) (hs : swapsWith e (some (.Name x pos')) pos.line X.env = pure false := by rfl) (hf : X.fn x = true ∨ X.env.scope.names.lookup x = some .local := by first | exact .inl rfl | exact .inr rfl | assumption) :
    XS1 ct X E (.Assign [.Name x pos'] e pos) g := by
  obtain ⟨ta, pa, ra⟩ := k
  exact ⟨_, ps_set hN hi hx pa hs hf, fun m F S σ H env er S' D s en h post => ra m F S σ H env er S' _ s en h post⟩
def xIf (t : FT) (g1 g2 : FX) : FX := fun env S => (t env S).bind fun p => if p.1 = true then g1 env p.2 else g2 env p.2
theorem xs_if (hc : ST ct X c ga) (k1 : XSs ct X E as g1) (k2 : XSs ct X E bs g2) : XS1 ct X E (.If c as bs pos) (xIf ga g1 g2) := by
  obtain ⟨tc, pc, rc⟩ := hc
  obtain ⟨ta, pa, ra⟩ := k1
  obtain ⟨tb, pb, rb⟩ := k2
  refine ⟨_, ps_if pc pa pb, fun m F S σ H env er S' D s en h post => ?_⟩
  obtain ⟨⟨x, S1⟩, h1, h⟩ := bind_some h
  refine rc m F S σ H env x S1 _ s en h1 fun m1 F1 H1 x1 s1 => ?_
  cases x with
  | true => exact iteT (ra m1 F1 S1 σ H1 env er S' _ s1 (en.mono x1) h (post.ext x1))
  | false => exact iteF (rb m1 F1 S1 σ H1 env er S' _ s1 (en.mono x1) h (post.ext x1))
/-! ## expressions -/
theorem xe_if (hc : ST ct X c ga) (k1 : XE1 ct X E a g1) (k2 : XE1 ct X E b g2) : XE1 ct X E (.IfExp c a b pos) (xIf ga g1 g2) := by
  obtain ⟨tc, pc, rc⟩ := hc
  obtain ⟨ta, pa, ra⟩ := k1
  obtain ⟨tb, pb, rb⟩ := k2
  refine ⟨_, pe_ifExp pc pa pb, fun m F S σ H env er S' Q s en h post => ?_⟩
  obtain ⟨⟨x, S1⟩, h1, h⟩ := bind_some h
  refine rc m F S σ H env x S1 _ s en h1 fun m1 F1 H1 x1 s1 => ?_
  cases x with
  | true => exact iteT (ra m1 F1 S1 σ H1 env er S' _ s1 (en.mono x1) h (post.ext x1))
  | false => exact iteF (rb m1 F1 S1 σ H1 env er S' _ s1 (en.mono x1) h (post.ext x1))
/-- an argument raises -/
def xCons (f : FE) (g gs : FX) : FX := fun env S => orX (g env S) ((f env S).bind fun p => gs env p.2)
theorem xa_nil : XA1 ct X E [] xNo := ⟨_, pa_nil, fun m F S σ H env er S' Q s en h post => by cases h⟩
theorem xa_cons (ha : SE ct X e f) (k1 : XE1 ct X E e g1) (k2 : XA1 ct X E es g2) (hs : starEach (e :: es) X.env = (false, eval e X.env) :: starEach es X.env := by rfl) : XA1 ct X E (e :: es) (xCons f g1 g2) := by
  obtain ⟨ta, pa, ra⟩ := ha
  obtain ⟨tb, pb, rb⟩ := k1
  obtain ⟨tc, pc, rc⟩ := k2
  refine ⟨_, pa_cons (pe_or pa pb) pc hs, fun m F S σ H env er S' Q s en h post => ?_⟩
  rcases orX_some h with h | h
  · exact .inr (rb m F S σ H env er S' _ s en h post)
  · obtain ⟨⟨x, S1⟩, h1, h⟩ := bind_some h
    exact .inl (ra m F S σ H env x S1 _ s en h1 fun m1 F1 v1 H1 x1 s1 r1 => rc m1 F1 S1 σ H1 env er S' _ s1 (en.mono x1) h (post.ext x1))
theorem xe_callTy {T : String} {x : Str} {r : List V → Hp → VK → Prop} (hc : CallR X (.type T) r) (hg : Gl X x) (hm : X.mg x = none) (hv : bootBuiltins x = some (.type T)) (k : XA1 ct X E (e :: es) g)
    (hn : x ≠ "__name__" := by decide) (hdb : (x == ("__debug__" : Str)) = false := by decide) (he : starEach (e :: es) X.env = (false, eval e X.env) :: starEach es X.env := by rfl) (hpl : (backTo pos (starEach es X.env)).any (·.1) = false := by rfl) :
    XE1 ct X E (.Call (.Name x p) (e :: es) [] pos) g := by
  obtain ⟨ta, pa, ra⟩ := k
  exact ⟨_, pe_callTy hc hg hm hv pa hn hdb he hpl, fun m F S σ H env er S' Q s en h post => ra m F S σ H env er S' _ s en h post⟩
end
/-! ## calls of what raises -/
section
variable {P : Program} {w : World} {K : PySem.W.Frag} {mg : Str → Option Value} {base : Heap} {ct : CT}
def CalleeX (P : Program) (w : World) (K : PySem.W.Frag) (mg : Str → Option Value) (base : Heap) (ct : CT) (k : Nat) (x : Str) (n : Nat) (g : XD) (kwb : KWB := []) : Prop :=
  ∃ (f : Addr) (fd : FuncData) (ps : List Str), mg x = some (.ref f) ∧ PySem.W.keepIn K (.ref f) = true ∧ (Binds K fd ps [] ∧ KwOk K fd ps 0 kwb) ∧ FnX P w K mg base k f fd ps (spX K ct n g)
theorem CalleeX.mono {j k n : Nat} {x : Str} {g : XD} {kwb : KWB} (c : CalleeX P w K mg base ct j x n g kwb) (h : j ≤ k) : CalleeX P w K mg base ct k x n g kwb := by
  obtain ⟨f, fd, ps, h1, h2, h3, h4⟩ := c
  exact ⟨f, fd, ps, h1, h2, h3, h4.mono h⟩
theorem calleeX_of {x : Str} {st : Stmt} {N ps : List Str} {k : Nat} {g : FX} {kwb : KWB} (d : DefAt K mg x st ps kwb) (S : FnScope N ps (defScope st))
    (hbody : ∀ (f : Addr) (cdv : Value) (A : Around) (outer : List Env) (s : Shared) (H : Hp) (E : XK), RoomG k (A.deeper (envOfC x (defScope st) s.heap.objs.size f cdv)) →
      XSs ct (cxOf (L2.CX P w) P w K mg base N x (defScope st) f cdv A outer s H E) E (defBody st) g) : CalleeX P w K mg base ct (k + 1) x ps.length (runX N.length g) kwb := by
  obtain ⟨f, fd, F, h1, h3⟩ := d
  exact ⟨f, fd, ps, h1, F.kp, h3, defX_ok F S (hbody f)⟩
def CalleeMX (P : Program) (w : World) (K : PySem.W.Frag) (mg : Str → Option Value) (base : Heap) (ct : CT) (k : Nat) (C : Addr) (x : Str) (n : Nat) (g : XD) (kwb : KWB := []) : Prop :=
  ∃ (f : Addr) (fd : FuncData) (ps : List Str), Meth K C x f ∧ (Binds K fd ps [] ∧ KwOk K fd ps 1 kwb) ∧ FnX P w K mg base k f fd ps (spX K ct n g)
theorem CalleeMX.mono {C : Addr} {j k n : Nat} {x : Str} {g : XD} {kwb : KWB} (c : CalleeMX P w K mg base ct j C x n g kwb) (h : j ≤ k) : CalleeMX P w K mg base ct k C x n g kwb := by
  obtain ⟨f, fd, ps, h1, h3, h4⟩ := c
  exact ⟨f, fd, ps, h1, h3, h4.mono h⟩
theorem calleeMX_of {C : Addr} {x qual : Str} {st : Stmt} {N ps : List Str} {k : Nat} {g : FX} {kwb : KWB} (d : MethAt K C x qual st ps kwb) (S : FnScope N ps (defScope st))
    (hbody : ∀ (f : Addr) (cdv : Value) (A : Around) (outer : List Env) (s : Shared) (H : Hp) (E : XK), RoomG k (A.deeper (envOfC qual (defScope st) s.heap.objs.size f cdv)) →
      XSs ct (cxOf (L2.CX P w) P w K mg base N qual (defScope st) f cdv A outer s H E) E (defBody st) g) : CalleeMX P w K mg base ct (k + 1) C x ps.length (runX N.length g) kwb := by
  obtain ⟨f, fd, F, h1, h3⟩ := d
  exact ⟨f, fd, ps, h1, h3, defX_ok F S (hbody f)⟩
end
/-- the context of a def's body lets out what is wished -/
theorem lets_def {P : Program} {w : World} {K : PySem.W.Frag} {mg : Str → Option Value} {base : Heap} {N : List Str} {qual : Str} {scope : Scope} {f : Addr} {cdv : Value} {A : Around} {outer : List Env} {s : Shared} {H : Hp} {E : XK} : Lets (cxOf (L2.CX P w) P w K mg base N qual scope f cdv A outer s H E) E := takes_of rfl rfl rfl rfl
theorem passes_def {P : Program} {w : World} {K : PySem.W.Frag} {mg : Str → Option Value} {base : Heap} {N : List Str} {qual : Str} {scope : Scope} {f : Addr} {cdv : Value} {A : Around} {outer : List Env} {s : Shared} {H : Hp} {E : XK} :
    PassesOwn (model P w) (cxOf (L2.CX P w) P w K mg base N qual scope f cdv A outer s H E).A (cxOf (L2.CX P w) P w K mg base N qual scope f cdv A outer s H E).env (cxOf (L2.CX P w) P w K mg base N qual scope f cdv A outer s H E).xe := passes_of (X := cxOf (L2.CX P w) P w K mg base N qual scope f cdv A outer s H E) rfl
section
variable {ct : CT} {X : Cx} {E : XK} {C : Addr} {c x : Str} {e o : Expr} {es : List Expr} {fo : FE} {fas : FA} {kws : List Keyword} {pos apos p : Pos} {k n : Nat} {g : XD} {kwb : KWB} {ks : List Str} {idx : List Nat}
def xCall (g : XD) (fas : FA) : FX := fun env S => (fas env S).bind fun p => g p.1 p.2
theorem xe_fn (M : CalleeX X.prog X.w X.K X.mg X.base ct k x n g kwb) (hr : RoomG k X.A) (tk : Lets X E) (hg : Gl X x) (ha : SA ct X (e :: es) fas) (hn : ∀ env S ds S', fas env S = some (ds, S') → ds.length = n) (hdb : (x == ("__debug__" : Str)) = false := by decide)
    (he : starEach (e :: es) X.env = (false, eval e X.env) :: starEach es X.env := by rfl) (hpl : (backTo pos (starEach es X.env)).any (·.1) = false := by rfl) : XE1 ct X E (.Call (.Name x p) (e :: es) [] pos) (xCall g fas) := by
  obtain ⟨f, fd, ps, h1, h2, h3, h4⟩ := M
  obtain ⟨tb, pb, rb⟩ := ha
  refine ⟨_, pe_callX h4 hr tk hg h1 h2 h3.1 .nil pb hdb he hpl, fun m F S σ H env er S' Q s en h post => ?_⟩
  obtain ⟨⟨xs, S1⟩, q1, h⟩ := bind_some h
  refine rb m F S σ H env xs S1 _ s en q1 fun m1 F1 vs H1 x1 s1 r1 => ?_
  rw [List.append_nil]
  exact ⟨by rw [← r1.length]; exact hn _ _ _ _ q1, m1, F1, S1, xs, er, S', s1, r1, h, post.ext x1⟩
def xCallK (g : XD) (idx : List Nat) (fks : FA) : FX := fun env S => (fks env S).bind fun r => g (kwG idx [] r.1) r.2
theorem xe_fnK (M : CalleeX X.prog X.w X.K X.mg X.base ct k x n g kwb) (hmem : (ks, idx) ∈ kwb) (hr : RoomG k X.A) (tk : Lets X E) (hg : Gl X x) (ha : SK ct X kws fas) (hn : ∀ env S ds S', fas env S = some (ds, S') → ds.length = ks.length)
    (hlen : ∀ zs : List V, zs.length = ks.length → (kwG idx [] zs).length = n) (hall : (backToKw pos (keywordEach kws X.env)).all (·.1.isSome) = true := by rfl) (hks : (backToKw pos (keywordEach kws X.env)).filterMap (·.1) = ks := by rfl) (hdb : (x == ("__debug__" : Str)) = false := by decide)
    (hpl : ((backTo pos (starEach [] X.env)).any (·.1) || (backToKw pos (keywordEach kws X.env)).any (·.1.isNone)) = false := by rfl) : XE1 ct X E (.Call (.Name x p) [] kws pos) (xCallK g idx fas) := by
  obtain ⟨f, fd, ps, h1, h2, bi, fn⟩ := M
  obtain ⟨tb, pb, rb⟩ := ha
  refine ⟨_, pe_callXK fn hr tk hg h1 h2 (bi.2 _ hmem) pb hall hks hdb hpl, fun m F S σ H env er S' Q s en h post => ?_⟩
  obtain ⟨⟨xs, S2⟩, h3, h⟩ := bind_some h
  refine rb m F S σ H env xs S2 _ s en h3 fun m2 F2 us H2 x2 s2 r2 => ?_
  have hl : us.length = ks.length := by rw [← r2.length, hn _ _ _ _ h3]
  exact ⟨hl, hlen us hl, m2, F2, S2, kwG idx [] xs, er, S', s2, Reps.kwG rfl r2, h, post.ext x2⟩
def xMeth (c x : Str) (g : XD) (fo : FE) (fas : FA) : FX := fun env S => (fo env S).bind fun p => (insOf c p.1 p.2).bind fun q => if hasF q.1 x = false then (fas env p.2).bind fun r => g (p.1 :: r.1) r.2 else none
theorem xe_meth {pl : Sem Bool} (kc : Klass X.K ct c C) (M : CalleeMX X.prog X.w X.K X.mg X.base ct k C x (n + 1) g kwb) (hr : RoomG k X.A) (tk : Lets X E) (ho : SE ct X o fo) (ha : SA ct X (e :: es) fas) (hn : ∀ env S ds S', fas env S = some (ds, S') → ds.length = n)
    (hst : starEach (e :: es) X.env = (false, eval e X.env) :: starEach es X.env := by rfl) (hpl : (backTo pos (starEach es X.env)).any (·.1) = false := by rfl)
    (ht : eval (.Call (.Attribute o x apos) (e :: es) [] pos) X.env = (eval o X.env >>= fun ov => standAt apos.atName >>= fun _ => holding [ov] (getMethod ov x pl) >>= fun q =>
      callWith pos q.1 q.2 (backTo pos (starEach (e :: es) X.env)) (backToKw pos (keywordEach [] X.env))) := by rfl) : XE1 ct X E (.Call (.Attribute o x apos) (e :: es) [] pos) (xMeth c x g fo fas) := by
  obtain ⟨f, fd, ps, me, bi, fn⟩ := M
  obtain ⟨ta, pa, ra⟩ := ho
  obtain ⟨tb, pb, rb⟩ := ha
  refine ⟨_, pe_methX pa kc.cls me fn hr tk bi.1 .nil pb hst hpl ht, fun m F S σ H env er S' Q s en h post => ?_⟩
  obtain ⟨⟨z, S1⟩, h1, h⟩ := bind_some h
  obtain ⟨⟨fs, ds⟩, h2, h⟩ := bind_some h
  dsimp only at h
  split at h
  case isFalse => cases h
  rename_i hh
  obtain ⟨⟨xs, S2⟩, h3, h⟩ := bind_some h
  refine ra m F S σ H env z S1 _ s en h1 fun m1 F1 v1 H1 x1 s1 r1 => ?_
  obtain ⟨a, dx, vs, e1, e2, e3, e4⟩ := insOf_rep kc s1 r1 h2
  refine ⟨a, dx, _, e1, e2, hasF_none hh, ?_⟩
  refine rb m1 F1 S1 σ H1 env xs S2 _ s1 (en.mono x1) h3 fun m2 F2 us H2 x2 s2 r2 => ?_
  rw [List.append_nil]
  exact ⟨by rw [List.length_cons, ← r2.length, hn _ _ _ _ h3], m2, F2, S2, z :: xs, er, S', s2, ⟨v1, us, rfl, r1.mono x2, r2⟩, h, post.ext (x1.trans x2)⟩
def xMethK (c x : Str) (g : XD) (idx : List Nat) (fo : FE) (fks : FA) : FX := fun env S => (fo env S).bind fun p => (insOf c p.1 p.2).bind fun q => if hasF q.1 x = false then (fks env p.2).bind fun r => g (kwG idx [p.1] r.1) r.2 else none
theorem xe_methK {pl : Sem Bool} (kc : Klass X.K ct c C) (M : CalleeMX X.prog X.w X.K X.mg X.base ct k C x n g kwb) (hmem : (ks, idx) ∈ kwb) (hr : RoomG k X.A) (tk : Lets X E) (ho : SE ct X o fo) (ha : SK ct X kws fas) (hn : ∀ env S ds S', fas env S = some (ds, S') → ds.length = ks.length)
    (hlen : ∀ (v : V) (zs : List V), zs.length = ks.length → (kwG idx [v] zs).length = n) (hall : (backToKw pos (keywordEach kws X.env)).all (·.1.isSome) = true := by rfl) (hks : (backToKw pos (keywordEach kws X.env)).filterMap (·.1) = ks := by rfl)
    (hpl : ((backTo pos (starEach [] X.env)).any (·.1) || (backToKw pos (keywordEach kws X.env)).any (·.1.isNone)) = false := by rfl)
    (ht : eval (.Call (.Attribute o x apos) [] kws pos) X.env = (eval o X.env >>= fun ov => standAt apos.atName >>= fun _ => holding [ov] (getMethod ov x pl) >>= fun q =>
      callWith pos q.1 q.2 (backTo pos (starEach [] X.env)) (backToKw pos (keywordEach kws X.env))) := by rfl) : XE1 ct X E (.Call (.Attribute o x apos) [] kws pos) (xMethK c x g idx fo fas) := by
  obtain ⟨f, fd, ps, me, bi, fn⟩ := M
  obtain ⟨ta, pa, ra⟩ := ho
  obtain ⟨tb, pb, rb⟩ := ha
  refine ⟨_, pe_methXK pa kc.cls me fn hr tk (bi.2 _ hmem) pb hall hks hpl ht, fun m F S σ H env er S' Q s en h post => ?_⟩
  obtain ⟨⟨z, S1⟩, h1, h⟩ := bind_some h
  obtain ⟨⟨fs, ds⟩, h2, h⟩ := bind_some h
  dsimp only at h
  split at h
  case isFalse => cases h
  rename_i hh
  obtain ⟨⟨xs, S2⟩, h3, h⟩ := bind_some h
  refine ra m F S σ H env z S1 _ s en h1 fun m1 F1 v1 H1 x1 s1 r1 => ?_
  obtain ⟨a, dx, vs, e1, e2, e3, e4⟩ := insOf_rep kc s1 r1 h2
  refine ⟨a, dx, _, e1, e2, hasF_none hh, ?_⟩
  refine rb m1 F1 S1 σ H1 env xs S2 _ s1 (en.mono x1) h3 fun m2 F2 us H2 x2 s2 r2 => ?_
  have hl : us.length = ks.length := by rw [← r2.length, hn _ _ _ _ h3]
  exact ⟨hl, hlen v1 us hl, m2, F2, S2, kwG idx [z] xs, er, S', s2, Reps.kwG (Reps.mk1 (r1.mono x2)) r2, h, post.ext (x1.trans x2)⟩
end
/-! ## steps -/
section
variable {env : DEnv} {S : Sto} {P : Er → Sto → Prop} {t : FT} {g g1 g2 : FX} {f1 : FS}
theorem wx_If : R (xIf t g1 g2 env S) P ↔ R (t env S) fun b S1 => (b = true → R (g1 env S1) P) ∧ (b = false → R (g2 env S1) P) := by
  unfold xIf
  simp only [R_bind]
  refine ⟨fun ⟨b, S1, e, q⟩ => ⟨b, S1, e, ?_⟩, fun ⟨b, S1, e, q⟩ => ⟨b, S1, e, ?_⟩⟩
  · cases b with
    | false => exact ⟨fun z => (by cases z), fun _ => (by simpa using q)⟩
    | true => exact ⟨fun _ => (by simpa using q), fun z => (by cases z)⟩
  · cases b
    · simpa using q.2 rfl
    · simpa using q.1 rfl
theorem wx_seqR {env' : DEnv} {S1 : Sto} (h : f1 env S = some (.nx env', S1)) (hn : g1 env S = none) : R (xSeq f1 g1 g2 env S) P ↔ R (g2 env' S1) P := by
  unfold xSeq orX
  rw [hn, h]
  rfl
theorem wx_seqL (h : R (g1 env S) P) : R (xSeq f1 g1 g2 env S) P := by
  obtain ⟨a, S1, e, q⟩ := h
  refine ⟨a, S1, ?_, q⟩
  unfold xSeq orX
  rw [e]
theorem wx_seqN : R (xSeq f1 xNo g2 env S) P ↔ R (f1 env S) fun fl S1 => match fl with
  | .nx env' => R (g2 env' S1) P
  | _ => False := by
  show R ((f1 env S).bind _) P ↔ _
  simp only [R_bind]
  refine ⟨fun ⟨b, S1, e, q⟩ => ⟨b, S1, e, ?_⟩, fun ⟨b, S1, e, q⟩ => ⟨b, S1, e, ?_⟩⟩
  · cases b <;> first | exact q | exact (R_none.mp q)
  · cases b <;> first | exact q | exact q.elim
theorem wx_Call {g : XD} {fas : FA} : R (xCall g fas env S) P ↔ R (fas env S) fun ds S1 => R (g ds S1) P := by unfold xCall; simp only [R_bind]
theorem wx_Raise {c : Str} {fs : List Str} {fas : FA} : R (xRaise c fs fas env S) P ↔ R (fas env S) fun ds S1 => ds.length = fs.length ∧ P (c, fs, ds.reverse) S1 := by
  unfold xRaise
  simp only [R_bind]
  refine ⟨fun ⟨b, S1, e, q⟩ => ⟨b, S1, e, ?_⟩, fun ⟨b, S1, e, q⟩ => ⟨b, S1, e, ?_⟩⟩
  · dsimp only at q ⊢
    by_cases h : b.length = fs.length
    · rw [if_pos h] at q
      exact ⟨h, R_some.mp q⟩
    · rw [if_neg h] at q
      exact (R_none.mp q).elim
  · dsimp only at q ⊢
    rw [if_pos q.1]
    exact R_some.mpr q.2
theorem wx_Run {n : Nat} {ds : List D} : R (runX n g ds S) P ↔ R (g (ds.map some ++ List.replicate (n - ds.length) none) S) P := Iff.rfl
end
end DL

namespace DL
open PySem PySem.Spec PyProof.Rows L2
/-! # Errors at hand: isinstance, fields -/
section
open PySem.W PySem.Calls
variable {prog : Program} {w : World} {A : Around} {Ev : Value → Shared → Prop} {s : Shared} {K : PySem.W.Frag} {x D : Addr} {ox : Obj} {od : Option Obj}
theorem ex_class {Q : Option Value → Shared → Prop} (C : ExcC K D) (kin : K.In s.heap) (I : PySem.W.InstAt s.heap x ox D od) (h : Q (some (.ref D)) { s with toks := s.toks + 1 }) : wpAny (model prog w) A (getAttr? (.ref x) "__class__") Q Ev s := by
  have isC : (clsIn K D).isSome = true := by
    obtain ⟨cd, hc, _⟩ := any_some C.hd
    rw [hc]
    rfl
  have found : findObj K D od "__class__" = some (.bind (.builtin "getset_descriptor.__get__") (.builtin "object.__class__")) := by
    cases od with
    | none => exact findObj_dataN isC C.ha C.hn C.ht
    | some o => exact findObj_data isC C.ha C.hn C.ht
  obtain ⟨hp, gn, dr, tk, os⟩ := s
  have ty := I.type (M := model prog w)
  have exc_ : Looks (model prog w) hp (isInstance (.ref x) (.type "BaseException")) true := ty.andThen (looks_subIn kin C.hs)
  have other : (onTheHeap (Value.ref D) && Value.builtin "BaseException.__getattribute__" == Value.builtin "object.__getattribute__") = false := by
    rw [show (Value.builtin "BaseException.__getattribute__" == Value.builtin "object.__getattribute__") = false from by decide +kernel]
    rfl
  unfold getAttr? getAttrBy? getAttrBy
  refine wpAny_bind (wpAny_mkText (wpAny_bind (wpAny_attempt (wpAny_holding (wpAny_bind (ty.at (wpAny_bind ((looks_findIn kin C.hg).at ?_))))))))
  show wpAny _ _ (if (onTheHeap (Value.ref D) && Value.builtin "BaseException.__getattribute__" == Value.builtin "object.__getattribute__") = true then _ else _) _ _ _
  rw [other, if_neg Bool.false_ne_true]
  unfold getAttrByItsOwn hookBefore
  refine wpAny_bind ?_
  rw [if_pos (show onTheHeap (Value.ref D) = true from rfl)]
  refine (looks_findIn kin C.hk).at (wpAny_bind (wpAny_attempt (wpAny_holding ?_)))
  unfold callGetattribute
  rw [show (false && onTheHeap (Value.builtin "BaseException.__getattribute__")) = false from rfl, if_neg Bool.false_ne_true]
  unfold boundAndCalled
  rw [PySem.F.excAttr_ValueError.ga.bind (.ref x)]
  refine wpAny_bind (wpAny_pure ?_)
  show wpAny _ _ (call (.builtin "BaseException.__getattribute__") [.ref x, .str "__class__" tk]) _ _ _
  refine wpAny_call (codeAny_call_builtin PySem.F.excAttr_ValueError.ga.plain PySem.F.entry_bexc_ga ?_)
  refine @check_slot (model prog w) _ _ ⟨hp, gn, dr, tk + 1, os⟩ "BaseException.__getattribute__" "BaseException" "__getattribute__" (.ref x) [.str "__class__" tk] [] _ (by decide +kernel) (by decide +kernel) exc_ (PySem.F.args_bexc_ga (.ref x) (.str "__class__" tk)) ?_
  unfold Builtin.«object.__getattribute__»
  refine wpAny_bind (wpAny_of_eq (a := ((Value.ref x : Value), [Value.str "__class__" tk])) (by first | rfl | (simp only [slotArgs]; rfl)) ?_)
  refine wpAny_bind (wpAny_pure (wpAny_bind (ty.at (wpAny_bind ((looks_find kin I found).at ?_)))))
  show wpAny _ _ (holding [Value.builtin "object.__class__"] (call (.builtin "getset_descriptor.__get__") [.builtin "object.__class__", .ref x, .ref D]) >>= ret) _ _ _
  refine wpAny_bind (wpAny_holding (wpAny_call (class_get (s := ⟨hp, gn, dr, tk + 1, os⟩) kin I C.hm (wpAny_pure ?_))))
  show wpAny _ _ (handedOut (.ref D)) _ _ _
  rw [handedOut_of (v := .ref D) rfl]
  first
    | exact wpAny_pure (wpAny_pure h)
    | exact wpAny_pure h
    | exact wpAny_pure (wpAny_bind (wpAny_pure (wpAny_pure h)))
theorem ex_kit (C : ExcC K D) : KitX K (.ref x) (.ref D) (fun h => ∃ ox od, PySem.W.InstAt h x ox D od) where
  ty := fun _ _ _ ⟨_, _, I⟩ => I.type
  it := fun _ _ kin _ => by
    obtain ⟨cd, hc, _⟩ := any_some C.hd
    unfold clsIn at hc
    split at hc
    · rename_i _ _ _ _ lk
      intro A' Q' E' s' k q
      unfold isType loadHead
      exact wpAny_bind (wpAny_loadPart (k _ _ (kin _ _ lk)) (wpAny_pure q))
    · cases hc
  ne := fun h tp dd its n sl kin htp => by
    obtain ⟨cd, hc, _⟩ := any_some C.hd
    refine Bool.eq_false_iff.mpr fun q => ?_
    have e : D = tp := Value.ref.inj (beq_iff_eq.mp q)
    rw [← e] at htp
    unfold clsIn at hc
    split at hc
    · rename_i _ _ _ _ lk
      have z := (kin _ _ lk).symm.trans htp
      cases z
    · cases hc
  ca := fun kin ⟨_, _, I⟩ k => ex_class C kin I k
end
/-- an error as it stands -/
def ExAt (H : Hp) (a D : Addr) (dx : Option Addr) : Prop := H a = some (exk a D dx) ∧ (dx = none ∨ ∃ d fs, dx = some d ∧ H d = some (.xd fs))
theorem exk_at {P : Program} {w : World} {H : Hp} {h : Heap} {a D : Addr} {dx : Option Addr} (hok : HOk P w H h) (e : ExAt H a D dx) : ∃ ox od, PySem.W.InstAt h a ox D od := by
  have x : ObjOk P w H h a (.ext fun h => ∃ o vs, h.get? a = some o ∧ o.cls = .ref D ∧ o.dict = dx ∧ o.data = .fields vs) := hok a _ e.1
  obtain ⟨⟨o, vs, h1, h2, h3, h4⟩, _⟩ := x
  have no : PySem.W.notCls o = true := by unfold PySem.W.notCls; rw [h4]
  rcases e.2 with z | ⟨d, fs, z, hd⟩
  · exact ⟨o, none, h1, h2, no, by rw [h3, z]; trivial⟩
  · have y : ObjOk P w H h d (.xd fs) := hok d _ hd
    obtain ⟨mA, ⟨od, _, _, q, _⟩, _⟩ := y
    exact ⟨o, some od, h1, h2, no, by rw [h3, z]; exact q⟩
/-- isinstance of an error at hand -/
def rIsX (K : PySem.W.Frag) : List V → Hp → VK → Prop := fun xs H Q => ∃ (a D : Addr) (dx : Option Addr) (c : V) (cv : Value) (b : Bool), xs = [.ref a, c] ∧ ExAt H a D dx ∧ ExcC K D ∧ (∀ u, RelV c u → u = cv) ∧ PySem.W.kitOne K (.ref D) cv = some b ∧ Q (.bl b) H
theorem call_isX {X : Cx} : CallR X (.builtin "isinstance") (rIsX X.K) := by
  intro pins s σ H xs us Q I r h
  obtain ⟨a, D, dx, c, cv, b, rfl, ea, C, hcv, e, q⟩ := h
  cases r with
  | cons rx rr =>
    cases rr with
    | cons rt rr =>
      cases rr
      cases rx
      have ec := hcv _ rt
      subst ec
      exact PySem.W.kia_one (ex_kit C) I.kIn (exk_at I.hok ea) e (fun z => nomatch z) fun tk => ⟨.bl b, H, I.kept (t' := tk) fun _ _ z => z, rfl, q⟩
/-- e.f -/
def tXfk (K : PySem.W.Frag) (f : Str) (te : TE) : TE := fun σ H Q => te σ H fun x H1 => ∃ (a D d : Addr) (fs : List (Str × V)) (v : V), x = .ref a ∧ H1 a = some (exk a D (some d)) ∧ H1 d = some (.xd fs) ∧ XfC K D ∧ PySem.W.findIn K (.ref D) f = some none ∧ fs.lookup f = some v ∧ Q v H1
theorem pe_xfk {X : Cx} {e : Expr} {te : TE} {pos : Pos} {f : Str} (he : PE X e te) (hb : attributeBase e f X.env (eval e X.env) = eval e X.env := by rfl) : PE X (.Attribute e f pos) (tXfk X.K f te) := by
  refine ⟨fun pins s σ H Q I h => attr_of hb (thn (he.run pins s σ H _ I h) fun u s1 ⟨x, H1, I1, rx, a, D, d, fs, v, ex, ea, ed, T, hno, l, q⟩ => ?_)⟩
  subst ex
  have rx : u = Value.ref a := rx
  subst rx
  have x1 : ObjOk X.prog X.w H1 s1.heap a (.ext fun h => ∃ o vs, h.get? a = some o ∧ o.cls = .ref D ∧ o.dict = some d ∧ o.data = .fields vs) := I1.hok a _ ea
  obtain ⟨⟨o, vs, h1, h2, h3, h4⟩, _⟩ := x1
  have x2 : ObjOk X.prog X.w H1 s1.heap d (.xd fs) := I1.hok d _ ed
  obtain ⟨mA, hns, hr⟩ := x2
  obtain ⟨od, ho, hl⟩ := lookIn_ns hns
  obtain ⟨u2, hu, ru⟩ := RelO.some_of (v := v) (o := mA f) (by rw [← l]; exact hr f)
  have J : PySem.W.InstAt s1.heap a o D (some od) := ⟨h1, h2, by unfold PySem.W.notCls; rw [h4], by rw [h3]; exact ho⟩
  exact HandSPX.exc_get I1.kIn J T.ga T.gg T.exC (PySem.W.findObj_own T.hdC hno rfl (by rw [hl, hu])) (handed_of ru) ⟨v, H1, I1.tok _, ru, q⟩
end DL

namespace DL
open PySem PySem.Spec PyProof.Rows L2
/-! # Data rules for errors at hand -/
/-- to which of the errors' classes in tab the class named x belongs -/
def IsTab (K : PySem.W.Frag) (mg : Str → Option Value) (ct : CT) (x : Str) (tab : List (Str × Bool)) : Prop := ∃ D, mg x = some (.ref D) ∧ ∀ p ∈ tab, ∃ C, ct p.1 = some C ∧ ExcC K C ∧ PySem.W.kitOne K (.ref C) (.ref D) = some p.2
def fIsX (tab : List (Str × Bool)) (fe : FE) : FE := fun env S => (fe env S).bind fun p => match p.1 with
  | .exc c _ _ => (tab.lookup c).map fun b => (.bl b, p.2)
  | _ => none
theorem lookup_mem' {α : Type} {c : Str} {b : α} : ∀ {l : List (Str × α)}, l.lookup c = some b → (c, b) ∈ l
  | (k, v) :: r, h => by
    unfold List.lookup at h
    by_cases e : c == k
    · rw [e] at h
      cases h
      rw [beq_iff_eq.mp e]
      exact List.mem_cons_self ..
    · have e' : (c == k) = false := by simpa using e
      rw [e'] at h
      exact List.mem_cons_of_mem _ (lookup_mem' h)
section
variable {ct : CT} {X : Cx} {c x f : Str} {a b e o k : Expr} {fe fo fa fb : FE} {fas : FA} {pos apos cpos p q : Pos} {n : Nat} {env : DEnv} {S : Sto} {P : D → Sto → Prop} {tab : List (Str × Bool)}
theorem exAt_rep {m : List Addr} {F H : Hp} {S : Sto} {c : Str} {fs : List Str} {ds : List D} {v : V} (s : Sim X.K ct m F S H) (r : Rep X.K ct m F (.exc c fs ds) v) : ∃ a C dx, v = .ref a ∧ ct c = some C ∧ ExAt H a C dx := by
  obtain ⟨a, C, dx, vs, e1, e2, e3, e4, e5, e6⟩ := r
  refine ⟨a, C, dx, e1, e2, s.same _ _ e3, ?_⟩
  rcases e4 with ⟨z, _⟩ | ⟨d, z, zd⟩
  · exact .inl z
  · exact .inr ⟨d, _, z, s.same _ _ zd⟩
theorem se_isX (T : IsTab X.K X.mg ct x tab) (hg : Gl X "isinstance") (hm : X.mg "isinstance" = none) (he : SE ct X e fe) (hg2 : Gl X x) (hd2 : (x == ("__debug__" : Str)) = false := by decide)
    (hs : starEach [e, .Name x q] X.env = (false, eval e X.env) :: starEach [.Name x q] X.env := by rfl) (hs2 : starEach [.Name x q] X.env = (false, eval (.Name x q) X.env) :: starEach [] X.env := by rfl)
    (hpl : (backTo pos (starEach [.Name x q] X.env)).any (·.1) = false := by rfl) : SE ct X (.Call (.Name "isinstance" p) [e, .Name x q] [] pos) (fIsX tab fe) := by
  obtain ⟨D, hm2, all⟩ := T
  obtain ⟨ta, pa, ra⟩ := he
  refine ⟨_, pe_callB (id := "isinstance") call_isX hg hm (by decide +kernel) (pa_cons pa (pa_cons (pe_glob (v := .ref D) hg2 hm2 rfl hd2) pa_nil hs2) hs) (by decide) (by decide) hs hpl, fun m F S σ H env d S' Q s en h p => ?_⟩
  obtain ⟨⟨z, S1⟩, h1, h⟩ := bind_some h
  cases z with
  | exc c fs ds =>
    obtain ⟨b, h2, h3⟩ := map_some (show (tab.lookup c).map _ = _ from h)
    cases h3
    refine ra m F S σ H env _ S1 _ s en h1 fun m1 F1 v1 H1 x1 s1 r1 => ?_
    obtain ⟨a, C, dx, e1, e2, e3⟩ := exAt_rep s1 r1
    obtain ⟨C', q1, q2, q3⟩ := all _ (lookup_mem' h2)
    rw [e2] at q1
    cases q1
    exact ⟨a, C, dx, .ref D, .ref D, b, by rw [e1], e3, q2, fun u r => r, q3, (p.ext x1).now s1 rfl⟩
  | _ => cases h
/-- the field f of an error -/
def XfTab (K : PySem.W.Frag) (ct : CT) (f : Str) (cs : List Str) : Prop := ∀ c ∈ cs, ∃ C, ct c = some C ∧ XfC K C ∧ PySem.W.findIn K (.ref C) f = some none
def fXf (cs : List Str) (f : Str) (fe : FE) : FE := fun env S => (fe env S).bind fun p => match p.1 with
  | .exc c fs ds => if c ∈ cs ∧ fs.length = ds.length then (getF fs ds f).map fun d => (d, p.2) else none
  | _ => none
theorem se_xf {cs : List Str} (T : XfTab X.K ct f cs) (he : SE ct X e fe) (hb : attributeBase e f X.env (eval e X.env) = eval e X.env := by rfl) : SE ct X (.Attribute e f pos) (fXf cs f fe) := by
  obtain ⟨ta, pa, ra⟩ := he
  refine ⟨_, pe_xfk pa hb, fun m F S σ H env d S' Q s en h p => ?_⟩
  obtain ⟨⟨z, S1⟩, h1, h⟩ := bind_some h
  cases z with
  | exc c fs ds =>
    dsimp only at h
    split at h
    case isFalse => cases h
    rename_i hc
    obtain ⟨y, h2, h3⟩ := map_some h
    cases h3
    refine ra m F S σ H env _ _ _ s en h1 fun m1 F1 v1 H1 x1 s1 r1 => ?_
    obtain ⟨a, C, dx, vs, e1, e2, e3, e4, e5, e6⟩ := r1
    obtain ⟨C', q1, q2, q3⟩ := T c hc.1
    rw [e2] at q1
    cases q1
    obtain ⟨v, q4, q5⟩ := getF_rep e6 h2
    rcases e4 with ⟨_, z⟩ | ⟨dd, z, zd⟩
    · subst z
      cases h2
    · subst z
      exact ⟨a, C, dd, _, v, e1, s1.same _ _ e3, s1.same _ _ zd, q2, q3, q4, (p.ext x1).now s1 q5⟩
  | _ => cases h
/-! ## xs.count(v), xs.index(v) of flat items -/
def rCntF (K : PySem.W.Frag) : V → List V → Hp → VK → Prop := fun x xs H Q => ∃ (l : Addr) (ys : List V) (y : V), x = .ref l ∧ xs = [y] ∧ SqL K H l ys ∧ flatV y = true ∧ ys.all flatV = true ∧ Q (.int (ys.countP fun z => eqV z y : Nat)) H
theorem countP_eqU {y : V} : ∀ {ys : List V} {us : List Value}, Vals ys us → ys.all flatV = true → us.countP (eqU y) = ys.countP fun z => eqV z y
  | _, _, .nil, _ => rfl
  | _, _, .cons r t, f => by
    simp only [List.all_cons, Bool.and_eq_true] at f
    rw [List.countP_cons, List.countP_cons, countP_eqU t f.2, eqU_of r f.1]
theorem mt_countF : MtR X "list.count" (rCntF X.K) := by
  intro pins s σ H x xs v us Q I rx rxs h
  obtain ⟨l, ys, y, rfl, rfl, hs, fy, fys, q⟩ := h
  cases rx
  obtain ⟨u, rfl, ru⟩ := vals1 rxs
  obtain ⟨its, rv, ⟨⟨cls, dd, data, sl⟩, k, ho, hc, hdn, hd⟩, hlen⟩ := I.list hs
  simp only at hc hd
  subst hc hd
  refine call_meets PySem.F.slot_list_count ⟨_, ho, rfl⟩ PySem.F.entry_list_count (PySem.F.args_list_count_2 _ _) (SeqAt.list_countAt l its.toArray k dd sl u (eqU y)) ⟨ho, fun z hz => mem_eqAt ru fy rv fys z (by simpa using hz), ?_⟩
  refine ⟨.int (ys.countP fun z => eqV z y : Nat), H, I.tok _, ⟨s.toks, ?_⟩, q⟩
  show Value.int ((its.toArray.toList.countP (eqU y) : Nat) : Int) s.toks = _
  rw [show its.toArray.toList = its from rfl, countP_eqU rv fys]
def fCount (fo fe : FE) : FE := fun env S => (fo env S).bind fun p => match p.1 with
  | .lst ds => (fe env p.2).bind fun q => if flatD q.1 = true ∧ ds.all flatD = true then some (.int (ds.countP fun z => eqF z q.1 : Nat), q.2) else none
  | _ => none
theorem countP_vOf {y : D} (hy : flatD y = true) : ∀ {ds : List D}, ds.all flatD = true → (ds.map vOf).countP (fun z => eqV z (vOf y)) = ds.countP fun z => eqF z y
  | [], _ => rfl
  | d :: ds, h => by
    simp only [List.all_cons, Bool.and_eq_true] at h
    rw [List.map_cons, List.countP_cons, List.countP_cons, countP_vOf hy h.2, eqV_eqF h.1 hy]
theorem se_count (ho : SE ct X o fo) (he : SE ct X e fe) (hbase : attributeBase o "count" X.env (eval o X.env) = eval o X.env := by rfl)
    (hfew : ((backTo cpos (starEach [e] X.env)).all (fun x => !x.1) && (backToKw cpos (keywordEach [] X.env)).all (fun x => x.1.isSome) && decide (([e] : List Expr).length + ([] : List Keyword).length + (if ([] : List Keyword).isEmpty then 0 else 1) < 30)) = true := by rfl)
    (hline : (apos.endLine == cpos.line) = true := by rfl) (hs : starEach [e] X.env = (false, eval e X.env) :: starEach [] X.env := by rfl) (hplain : (backTo cpos (starEach [] X.env)).any (·.1) = false := by rfl) : SE ct X (.Call (.Attribute o "count" apos) [e] [] cpos) (fCount fo fe) := by
  obtain ⟨ta, pa, ra⟩ := ho
  obtain ⟨tb, pb, rb⟩ := he
  refine ⟨_, pe_bm PySem.F.plainAttrs_list PySem.F.slot_list_count PySem.F.type_list_count mt_countF pa (pa_cons pb pa_nil hs) hbase hfew hline hs hplain, fun m F S σ H env d S' Q s en h p => ?_⟩
  obtain ⟨⟨z, S1⟩, h1, h⟩ := bind_some h
  cases z with
  | lst ds =>
    obtain ⟨⟨y, S2⟩, h2, h⟩ := bind_some h
    dsimp only at h
    split at h
    case isFalse => cases h
    rename_i hf
    cases h
    refine ra m F S σ H env _ S1 _ s en h1 fun m1 F1 v1 H1 x1 s1 r1 => ?_
    obtain ⟨w, vs, e1, e2, e3⟩ := r1
    subst e1
    refine ⟨.inl ⟨rfl, _, SqL.of (s1.same _ _ e2)⟩, ?_⟩
    refine rb m1 F1 S1 σ H1 env y _ _ s1 (en.mono x1) h2 fun m2 F2 v2 H2 x2 s2 r2 => ?_
    obtain ⟨q1, q2⟩ := r2.flat hf.1
    obtain ⟨q3, q4⟩ := e3.flat hf.2
    refine ⟨w, vs, v2, rfl, rfl, SqL.of (s2.same _ _ (x2.same _ _ e2)), q2, q4, ?_⟩
    rw [q1, q3, countP_vOf hf.1 hf.2]
    exact (p.ext (x1.trans x2)).now s2 rfl
  | _ => cases h
def fIndex (fo fe : FE) : FE := fun env S => (fo env S).bind fun p => match p.1 with
  | .lst ds => (fe env p.2).bind fun q => if flatD q.1 = true ∧ ds.all flatD = true then (ds.findIdx? fun z => eqF z q.1).map fun j => (.int (j : Nat), q.2) else none
  | _ => none
theorem se_index (ho : SE ct X o fo) (he : SE ct X e fe) (hbase : attributeBase o "index" X.env (eval o X.env) = eval o X.env := by rfl)
    (hfew : ((backTo cpos (starEach [e] X.env)).all (fun x => !x.1) && (backToKw cpos (keywordEach [] X.env)).all (fun x => x.1.isSome) && decide (([e] : List Expr).length + ([] : List Keyword).length + (if ([] : List Keyword).isEmpty then 0 else 1) < 30)) = true := by rfl)
    (hline : (apos.endLine == cpos.line) = true := by rfl) (hs : starEach [e] X.env = (false, eval e X.env) :: starEach [] X.env := by rfl) (hplain : (backTo cpos (starEach [] X.env)).any (·.1) = false := by rfl) : SE ct X (.Call (.Attribute o "index" apos) [e] [] cpos) (fIndex fo fe) := by
  obtain ⟨ta, pa, ra⟩ := ho
  obtain ⟨tb, pb, rb⟩ := he
  refine ⟨_, pe_bm PySem.F.plainAttrs_list PySem.F.slot_list_index PySem.F.type_list_index mt_index pa (pa_cons pb pa_nil hs) hbase hfew hline hs hplain, fun m F S σ H env d S' Q s en h p => ?_⟩
  obtain ⟨⟨z, S1⟩, h1, h⟩ := bind_some h
  cases z with
  | lst ds =>
    obtain ⟨⟨y, S2⟩, h2, h⟩ := bind_some h
    dsimp only at h
    split at h
    case isFalse => cases h
    rename_i hf
    obtain ⟨j, h3, h4⟩ := map_some h
    cases h4
    refine ra m F S σ H env _ S1 _ s en h1 fun m1 F1 v1 H1 x1 s1 r1 => ?_
    obtain ⟨w, vs, e1, e2, e3⟩ := r1
    subst e1
    refine ⟨.inl ⟨rfl, _, SqL.of (s1.same _ _ e2)⟩, ?_⟩
    refine rb m1 F1 S1 σ H1 env y _ _ s1 (en.mono x1) h2 fun m2 F2 v2 H2 x2 s2 r2 => ?_
    obtain ⟨q1, q2⟩ := r2.flat hf.1
    obtain ⟨q3, q4⟩ := e3.flat hf.2
    obtain ⟨hj, hyes, hno⟩ := List.findIdx?_eq_some_iff_getElem.mp h3
    have fl : ∀ (i : Nat) (hi : i < ds.length), eqV (vOf ds[i]) v2 = eqF ds[i] y := fun i hi => by
      rw [q1]
      exact eqV_eqF (List.all_eq_true.mp hf.2 _ (List.getElem_mem hi)) hf.1
    refine ⟨w, vs, v2, j, vOf ds[j], rfl, rfl, SqL.of (s2.same _ _ (x2.same _ _ e2)), q2, q4, by rw [q3]; simp [hj], by rw [fl j hj]; exact hyes, fun i z' hi hz => ?_, (p.ext (x1.trans x2)).now s2 rfl⟩
    have hil : i < ds.length := Nat.lt_trans hi hj
    rw [q3, List.getElem?_map, List.getElem?_eq_getElem hil] at hz
    cases hz
    rw [fl i hil]
    have := hno i hi
    simpa using this
  | _ => cases h
end
/-! # Defs that may be called while an error is being handled -/
structure RoomQ (k : Nat) (A : Around) : Prop where
  dp : A.depth + 3 * k + 5 < recursionLimit
  un : A.units + 16 * k + 200 < cLine
  gd : A.guards = some []
theorem RoomQ.mono {j k : Nat} {A : Around} (r : RoomQ k A) (h : j ≤ k) : RoomQ j A := ⟨by have := r.dp; omega, by have := r.un; omega, r.gd⟩
theorem RoomQ.deeper {k : Nat} {A : Around} (r : RoomQ (k + 1) A) (env : Env) : RoomQ k (A.deeper env) := ⟨by have := r.dp; show A.depth + 1 + 3 * k + 5 < _; omega, by have := r.un; show A.units + 3 + 16 * k + 200 < _; omega, r.gd⟩
theorem RoomQ.units {k : Nat} {A : Around} (r : RoomQ k A) : A.units + 64 < cLine := by have := r.un; omega
theorem RoomG.q {k : Nat} {A : Around} (r : RoomG k A) : RoomQ k A := ⟨r.room.dp, r.room.un, r.gd⟩
theorem RoomQ.mark {k : Nat} {A : Around} (r : RoomQ k A) (o : Option Value) : RoomQ k (A.mark o) := ⟨r.dp, r.un, r.gd⟩
structure FnQ (P : Program) (w : World) (K : PySem.W.Frag) (mg : Str → Option Value) (base : Heap) (k : Nat) (f : Addr) (fd : FuncData) (ps : List Str) (sp : Sp) : Prop where
  len : ∀ vs H Q E, sp vs H Q E → vs.length = ps.length
  run : ∀ (A : Around) (outer : List Env) (s : Shared) (H : Hp) (args : Args) (us : List Value) (vs : List V) (Q : VK) (E : XK), RoomQ k A → Env0 P w K mg base A outer s H →
    BindsTo s fd args (ps.zip us) → Vals vs us → sp vs H Q E → codeAny (model P w) A (.call (.ref f) args) (CR CX0 outer P w H s Q E) s
abbrev cxQ (P : Program) (w : World) (K : PySem.W.Frag) (mg : Str → Option Value) (base : Heap) (N : List Str) (qual : Str) (scope : Scope) (f : Addr) (cd : Value) (A : Around) (outer : List Env) (s : Shared) (H : Hp) (E : XK) : Cx :=
  { (cxOf CX0 P w K mg base N qual scope f cd A outer s H E).nox with calm := false }
theorem inv_startQ {P : Program} {w : World} {K : PySem.W.Frag} {mg : Str → Option Value} {base : Heap} {N ps : List Str} {qual : Str} {scope : Scope} {f : Addr} {cd : Value} {A : Around} {outer : List Env} {s s1 : Shared} {H : Hp} {E : XK} {us : List Value} {vs : List V}
    (S : FnScope N ps scope) (e0 : Env0 P w K mg base A outer s H) (hl : vs.length = ps.length) (r : Vals vs us)
    (x : InCallC s s.heap.objs.size (bindL (envOfC qual scope s.heap.objs.size f cd).kindOf (ps.zip us) fun _ => none) (cellsFrom (s.heap.objs.size + 1) scope.names []) (bindC (envOfC qual scope s.heap.objs.size f cd).kindOf (ps.zip us) fun _ => none) s1) :
    Inv (cxQ P w K mg base N qual scope f cd A outer s H E) [] (start N vs) H s1 := by
  have e1 : Env0 P w K mg base { A with handled := none } outer s H := ⟨e0.frames, e0.mod, e0.bs, e0.bsz, e0.funs, e0.frf, e0.hok, e0.bare⟩
  have I : Inv (cxOf CX0 P w K mg base N qual scope f cd { A with handled := none } outer s H E) [] (start N vs) H s1 := inv_start S rfl e1 hl r x
  exact ⟨⟨I.ok.mod, I.ok.kind, I.ok.glob, I.ok.blt, I.ok.above, I.ok.inj, I.ok.has, I.ok.cab, fun z => (nomatch (show false = true from z)), Around.frames_deeper e0.frames, I.ok.stk, I.ok.exf, I.ok.bs, I.ok.bsz, I.ok.noex, I.ok.exfs, I.ok.funs, I.ok.frf⟩,
    I.os, I.bare, I.base, I.loc, I.cell, I.free, I.freeC, I.pin, I.hok, I.len⟩
section
variable {P : Program} {w : World} {K : PySem.W.Frag} {mg : Str → Option Value} {base : Heap} {ct : CT}
theorem defQ_ok {x qual : Str} {st : Stmt} {f : Addr} {fd : FuncData} {N ps : List Str} {k : Nat} {g : FS} (F : Fun K x qual st f fd) (S : FnScope N ps (defScope st))
    (hbody : ∀ (cdv : Value) (A : Around) (outer : List Env) (s : Shared) (H : Hp) (E : XK), RoomQ k (A.deeper (envOfC qual (defScope st) s.heap.objs.size f cdv)) →
      SSs ct (cxQ P w K mg base N qual (defScope st) f cdv A outer s H E) (defBody st) g) : FnQ P w K mg base (k + 1) f fd ps (spD K ct ps.length (runD N.length g)) := by
  obtain ⟨oc, od, kV, doc, pm, an, cdv, ctv, osl, rfl, lk, hcd⟩ := F.ex
  refine ⟨fun vs H Q E h => h.1, fun A outer s H ar us vs Q E hr e0 hb rv hsp => ?_⟩
  obtain ⟨hl, m, F', S0, ds, d, S', sim, reps, hg, post⟩ := hsp
  have old := fun b o e => (e0.bs b o e).1
  have kin : K.In s.heap := e0.mod.kin.keeps old
  refine codeAny_call_function (by have := hr.dp; omega) (kin _ _ lk) rfl S.co S.gen rfl (PySem.W.codeRec_of kin hcd) (hb _ _ _ _ (wpAny_newFunctionEnv_cells S.kind (fun y hy => ?_) fun env he s1 nw => ?_))
  · rcases S.par y.1 (List.of_mem_zip (b := y.2) hy).1 with q | q
    · exact .inl q
    · exact .inr ⟨q, PySem.W.cellsFrom_some _ _ _ (.inl q)⟩
  · subst he
    refine ⟨(e0.mod.nolimit.keeps old).keeps nw.toInCall.keep, codeAny_func ?_⟩
    obtain ⟨t, ht, hq⟩ := hbody cdv A outer s H E (hr.deeper _)
    obtain ⟨⟨fl, S1⟩, h1, h2⟩ := bind_some hg
    refine wpAny_mono (ht.run [] s1 (start N vs) H { nx := fun _ H' => Q .non H', rt := Q } (inv_startQ S e0 hl rv nw) (hq m F' S0 _ H _ fl S1 _ sim (start_env reps) h1 ?_)) (fun fl s' z => ?_) fun _ _ z => (False.elim z)
    · cases fl with
      | rt d1 => cases h2; exact fun m' F1 v H' x1 s1 r1 => post m' F1 v H' x1 s1 r1
      | nx env1 => cases h2; exact fun m' F1 σ1 H' x1 s1 r1 => post m' F1 .non H' x1 s1 rfl
      | bk env1 => cases h2
      | ct env1 => cases h2
    · cases fl with
      | ret u => obtain ⟨v, _, G, J, ru, q⟩ := z; exact ⟨v, G, J.os, J.bare, J.base, J.hok, ru, q⟩
      | next => obtain ⟨_, G, J, q⟩ := z; exact ⟨.non, G, J.os, J.bare, J.base, J.hok, rfl, q⟩
      | brk => obtain ⟨_, _, _, q⟩ := z; exact q.elim
      | cont => obtain ⟨_, _, _, q⟩ := z; exact q.elim
def CalleeQ (P : Program) (w : World) (K : PySem.W.Frag) (mg : Str → Option Value) (base : Heap) (ct : CT) (k : Nat) (x : Str) (n : Nat) (g : FD) : Prop :=
  ∃ (f : Addr) (fd : FuncData) (ps : List Str), mg x = some (.ref f) ∧ PySem.W.keepIn K (.ref f) = true ∧ Binds K fd ps [] ∧ FnQ P w K mg base k f fd ps (spD K ct n g)
theorem calleeQ_of {x : Str} {st : Stmt} {N ps : List Str} {k : Nat} {g : FS} {kwb : KWB} (d : DefAt K mg x st ps kwb) (S : FnScope N ps (defScope st))
    (hbody : ∀ (f : Addr) (cdv : Value) (A : Around) (outer : List Env) (s : Shared) (H : Hp) (E : XK), RoomQ k (A.deeper (envOfC x (defScope st) s.heap.objs.size f cdv)) →
      SSs ct (cxQ P w K mg base N x (defScope st) f cdv A outer s H E) (defBody st) g) : CalleeQ P w K mg base ct (k + 1) x ps.length (runD N.length g) := by
  obtain ⟨f, fd, F, h1, h3⟩ := d
  exact ⟨f, fd, ps, h1, F.kp, h3.1, defQ_ok F S (hbody f)⟩
end
section
variable {ct : CT} {X : Cx} {e : Expr} {es : List Expr} {fas : FA} {x : Str} {p pos : Pos} {k n : Nat} {g : FD}
theorem se_fnQ (M : CalleeQ X.prog X.w X.K X.mg X.base ct k x n g) (hr : RoomQ k X.A) (hg : Gl X x) (ha : SA ct X (e :: es) fas) (hn : ∀ env S ds S', fas env S = some (ds, S') → ds.length = n) (hdb : (x == ("__debug__" : Str)) = false := by decide)
    (hst : starEach (e :: es) X.env = (false, eval e X.env) :: starEach es X.env := by rfl) (hpl : (backTo pos (starEach es X.env)).any (·.1) = false := by rfl) : SE ct X (.Call (.Name x p) (e :: es) [] pos) (fCall g fas) := by
  obtain ⟨f, fd, ps, hm, hk, hb, fn⟩ := M
  obtain ⟨ta, pa, ra⟩ := ha
  refine ⟨fun σ H Q => ta σ H fun vs H1 => spD X.K ct n g vs H1 Q (fun _ _ _ => False), ⟨fun pins s σ H Q I h => wpAny_Call_Name_kw (ld_glob I hg hm (PySem.W.callWith_K (h₀ := X.base) I.ok.mod.kin hk (thn (pa.run pos pins s σ H _ I h) fun us s1 ⟨vs, H1, I1, rv, q⟩ => ⟨I1.kIn, ?_⟩) hst hpl) hdb)⟩, fun m F S σ H env d S' Q s en h p => ?_⟩
  · have bi := hb s1 us I1.kIn (by rw [List.append_nil, ← rv.length]; exact fn.len _ _ _ _ q)
    rw [List.append_nil] at bi
    refine wpAny_call (codeAny_mono (fn.run X.A X.stack s1 H1 ⟨us, []⟩ us vs Q _ hr I1.env0 bi rv q) fun r s' z => ?_)
    obtain ⟨u, rfl, y⟩ := behind I1 z
    exact y
  · obtain ⟨⟨xs, S1⟩, h1, h⟩ := bind_some h
    exact ra m F S σ H env xs S1 _ s en h1 fun m1 F1 vs H1 x1 s1 r1 => ⟨by rw [← r1.length]; exact hn _ _ _ _ h1, m1, F1, S1, xs, d, S', s1, r1, h, p.ext x1⟩
theorem op_eqQ {k : Nat} (hr : RoomQ k X.A) : OpR X (compareOp .Eq) (rEqAll X.K) := op_eq.or (op_eqD hr.units)
theorem op_neQ {k : Nat} (hr : RoomQ k X.A) : OpR X (compareOp .NotEq) (rNeAll X.K) := op_ne.or (op_neD hr.units)
end
end DL

namespace DL
open PySem PySem.Spec PyProof.Rows L2
/-! # try: .. except (A, B) as n: .. -/
/-- the context of the suite: the error stands tracked -/
abbrev Hot (X : Cx) (a : Addr) : Cx := { X with A := X.A.mark (some (.ref a)), calm := false, xe := fun _ _ => False }
section
variable {X : Cx} {pins : List (Addr × Obj)} {σ : L2.St} {H : Hp} {sI s' : Shared} {B : Heap} {s : Shared}
theorem hot_ok (ok : X.Ok) (a : Addr) : (Hot X a).Ok :=
  ⟨ok.mod, ok.kind, ok.glob, ok.blt, ok.above, ok.inj, ok.has, ok.cab, fun z => (nomatch (show false = true from z)), ok.frames, ok.stk, ok.exf, ok.bs, ok.bsz, ok.noex, ok.exfs, ok.funs, ok.frf⟩
theorem inv_hot (I : Inv X pins σ H s) (a : Addr) : Inv (Hot X a) pins σ H s := ⟨hot_ok I.ok a, I.os, I.bare, I.base, I.loc, I.cell, I.free, I.freeC, I.pin, I.hok, I.len⟩
theorem inv_unhot {a : Addr} (I : Inv (Hot X a) pins σ H s) (ok : X.Ok) : Inv X pins σ H s := ⟨ok, I.os, I.bare, I.base, I.loc, I.cell, I.free, I.freeC, I.pin, I.hok, I.len⟩
/-- back on the ground, the error tracked -/
theorem inv_caught (I : Inv X pins σ H sI) (nb : ∀ b o, sI.heap.get? b = some o → b ∉ frs X.stack → B.get? b = some o) (st : B.StaysIn s'.heap) (up : sI.heap.UpToSlots s'.heap) (os : s'.os = sI.os) (ag : AllBare s'.gens)
    {a C : Addr} {d : Option Addr} {o : Obj} {vs : Array Value} (hn : sI.heap.get? a = none) (na : H a = none) (ha : s'.heap.get? a = some o) (hc : o.cls = .ref C) (hd : o.dict = d) (hv : o.data = .fields vs) : Inv X pins σ (upd H a (exk a C d)) s' := by
  have fr : ∀ b ∈ frs X.stack, ∀ o, sI.heap.get? b = some o → ∃ sl, s'.heap.get? b = some { o with slots := sl } := fun b hb o e => by
    obtain ⟨_, o', e', nf⟩ := I.stack.mem hb
    rw [e] at e'
    cases e'
    exact up b o e nf
  have ne : ∀ {b : Addr} {o : Obj}, sI.heap.get? b = some o → b ≠ a := fun {b o} e z => by
    rw [z, hn] at e
    cases e
  have grounded := (I.inGround nb).kept st
  have J := I.call (ch := []) (h' := s'.heap) (g' := s'.gens) (t' := s'.toks) (d' := s'.drawn) (H' := upd H a (exk a C d))
    ⟨fun b o e _ hb _ => st b o (nb b o e hb), fun b o e _ hb _ => fr b hb o e, fun b o e n _ => by rw [upd_ne (ne e)]; exact n, fun b o e _ => by
      by_cases hb : b ∈ frs X.stack
      · obtain ⟨sl, q⟩ := fr b hb o e
        exact ⟨_, q⟩
      · exact ⟨o, st b o (nb b o e hb)⟩, fun b xs e => by rw [upd_ne (ne_of_none e na)]; exact e, fun b o u e => by rw [upd_ne (ne_of_none e na)]; exact e, fun b ps e => ⟨#[], by rw [upd_ne (ne_of_none e na), e]; simp⟩⟩
    (fun b u e => by
      by_cases hb : b = a
      · subst hb
        rw [upd_same] at e
        cases e
        exact ⟨⟨o, vs, ha, hc, hd, hv⟩, ⟨o, ha⟩, fun h1 h2 ⟨o, vs, z1, z2⟩ k => ⟨o, vs, k _ z1, z2⟩⟩
      · rw [upd_ne hb] at e
        exact (grounded b u e).stay (fun _ _ _ q => q) (fun c q => by rw [upd_ne (ne_of_none q na)]; exact q) fun c xs q => by rw [upd_ne (ne_of_none q na)]; exact q) ag (fun _ z => nomatch z)
  obtain ⟨a1, a2, a3, a4, a5⟩ := s'
  have e5 : a5 = sI.os := os
  subst e5
  exact J
end
theorem flyZ_keeps {base h h' : Heap} {l : List Env} {e : Addr} {Z : Obj → Prop} (fl : HandSPX.FlyingZ base l e Z h) (k : ∀ b o, h.get? b = some o → h'.get? b = some o) : HandSPX.FlyingZ base l e Z h' := by
  obtain ⟨h1, h2, h3, oe, vs, T, oT, ts, a1, a2, a3, a4, a5, a6, a7, a8⟩ := fl
  exact ⟨fun b o q => k b o (h1 b o q), h2, Heap.FunFrames.of_keeps (fun b o q _ => ⟨o, k b o q, rfl⟩) h3, oe, vs, T, oT, ts, k _ _ a1, a2, a3, a4, a5, a6, k _ _ a7, a8⟩
def wT (K : PySem.W.Frag) (c1 c2 : Addr) (i : Nat) (ts : Addr → TS) (D : Ends) : WX := fun cls d σ H => ∃ C, cls = .ref C ∧ PySem.W.exmAny K (.ref C) [.ref c1, .ref c2] = some true ∧
  ∀ a, H a = none → ts a { nx := fun σ' H' => D.nx (σ'.set i none) H', rt := D.rt, bk := fun σ' H' => D.bk (σ'.set i none) H', ct := fun σ' H' => D.ct (σ'.set i none) H' } (σ.set i (some (.ref a))) (upd H a (exk a C d))
section
variable {X : Cx} {x1 x2 n : Str} {c1 c2 : Addr} {i : Nat} {body suite : List Stmt} {b₀ : Stmt} {p1 p2 tp pos pos' : Pos} {kk : Nat} {tb : WX → TS} {ts : Addr → TS}
theorem ps_tryT (hs : X.stack = X.env :: X.outer) (hf : X.env.frame = some X.env.locals) (hN : X.N.Nodup) (hi : X.N[i]? = some n) (hln : X.env.kindOf n = some .local) (g1 : Gl X x1) (m1 : X.mg x1 = some (.ref c1)) (g2 : Gl X x2) (m2 : X.mg x2 = some (.ref c2))
    (d1 : (x1 == ("__debug__" : Str)) = false) (d2 : (x2 == ("__debug__" : Str)) = false)
    (hb : ∀ (W : WX) (pn : List (Addr × Obj)) (xe : Value → Shared → Prop), Takes (X.tr pn xe) W → PassesOwn (model X.prog X.w) X.A X.env xe → PSs (X.tr pn xe) body (tb W))
    (hsu : ∀ a : Addr, PSs (Hot X a) (b₀ :: suite) (ts a)) :
    PS X (.Try body [.ExceptHandler (some (.Tuple [.Name x1 p1, .Name x2 p2] kk tp)) (some n) (b₀ :: suite) pos'] [] [] pos) (fun D σ H => tb (wT X.K c1 c2 i ts D) D σ H) := by
  refine ⟨fun pins s σ H D I h => ?_⟩
  have ok := I.ok
  have frames : X.A.frames = some (X.env :: X.outer) := by rw [ok.frames, hs]
  refine wpAny_Try_except (wpAny_mono ((hb (wT X.K c1 c2 i ts D) (X.pn ++ pins) (fun e s₁ => wpAny (model X.prog X.w) X.A (noteFrame e X.env) (fun _ s₂ => wpAny (model X.prog X.w) X.A (setFlight e none) (fun _ s₃ =>
    wpAny (model X.prog X.w) X.A (handleBy e X.env [.ExceptHandler (some (.Tuple [.Name x1 p1, .Name x2 p2] kk tp)) (some n) (b₀ :: suite) pos']) (SP X pins D) X.xe s₃) X.xe s₂) X.xe s₁) (fun u s' xx => ?_) PassesOwn.looking).run [] s σ H D (I.toTry _) h) (fun f s1 q => ?_) fun e s1 q => q)
  · obtain ⟨a, B, sI, pins', σ', H', cls, d, rfl, J', nb, up, sky, na, os, ag, C, rfl, hit, go⟩ := xx
    have J : Inv X pins σ' H' sI := J'.ofTry ok
    rw [show (X.tr (X.pn ++ pins) _).stack = X.env :: X.outer from hs] at sky nb
    have nbX : ∀ b o, sI.heap.get? b = some o → b ∉ frs X.stack → B.get? b = some o := by rw [hs]; exact nb
    refine Sky.land Zc.steady frames hf sky fun h3 fl3 up3 => ?_
    obtain ⟨o3, v3, at3, z3, dt3⟩ := fl3.there
    have nfr : a ∉ frs (X.env :: X.outer) := fun hm => by
      obtain ⟨_, o', e', nf⟩ := fl3.2.2.1.mem hm
      rw [at3] at e'
      cases e'
      exact nf _ dt3
    have noI : sI.heap.get? a = none := by
      cases q : sI.heap.get? a with
      | none => rfl
      | some o =>
        have := nb a o q nfr
        rw [fl3.2.1] at this
        cases this
    have J3 : Inv X pins σ' (upd H' a (exk a C d)) { s' with heap := h3 } := inv_caught (s' := { s' with heap := h3 }) J nbX fl3.1 (up.trans up3) os ag noI na at3 z3.1 z3.2 dt3
    have hot3 := inv_hot J3 a
    refine wpAny_handleBy_cons (codeAny_handlers_test (wpAny_Tuple (wpAny_items_cons (ld_glob (X := Hot X a) hot3 g1 m1 (wpAny_items_cons (ld_glob (X := Hot X a) hot3 g2 m2 (wpAny_items_nil ⟨by size_fits, ?_⟩) d2)) d1)))) (by intro q; cases q)
    have kept : ∀ q o, h3.get? q = some o → (h3.push { cls := .type "tuple", data := .seq [Value.ref c1, Value.ref c2].toArray }).get? q = some o := fun _ _ z => Heap.get?_push_of_some _ z
    have LT : PySem.W.Looks (model X.prog X.w) h3 (typeOf (.ref a)) (.ref C) := fun A Q E s k q => wpAny_typeOf_ref (k _ _ at3) (by rw [z3.1]; exact q)
    refine (PySem.W.exm_tup2 (J3.kIn.keeps kept) (LT.keeps kept) (Heap.get?_push_size h3 rfl) hit).here ?_
    refine codeAny_handlers_suite_as (HandSPX.lands_againZ (flyZ_keeps fl3 kept) fun h4 fl4 up4 => ?_)
    obtain ⟨o4, v4, at4, z4, dt4⟩ := fl4.there
    have J4 : Inv X pins σ' (upd H' a (exk a C d)) { s' with heap := h4 } := inv_caught (s' := { s' with heap := h4 }) J nbX fl4.1 (((up.trans up3).trans (Heap.UpToSlots.of_keeps kept)).trans up4) os ag noI na at4 z4.1 z4.2 dt4
    refine store_ok (X := Hot X a) (v := .ref a) (inv_hot J4 a) hN hi (.inl hln) rfl (fun s5 S5 => ?_) (.inr hln)
    refine wpAny_mono ((hsu a).run pins s5 _ _ _ S5 (go a na)) (fun f s6 q => ?_) (fun _ _ z => False.elim z)
    have leave : ∀ {σ6 : L2.St} {H6 : Hp} {Q : Shared → Prop}, Inv (Hot X a) pins σ6 H6 s6 → (∀ s7, Inv X pins (σ6.set i none) H6 s7 → Q s7) →
        wpAny (model X.prog X.w) X.A (do bindName X.env n .none; unbindBehindTheSuite X.env n pos') (fun _ s7 => Q s7) X.xe s6 := fun {σ6 H6 Q} S6 hq => gone_ok (inv_unhot S6 ok) hN hi hln hq
    cases f with
    | next =>
      obtain ⟨σ6, H6, S6, q6⟩ := q
      exact leave S6 fun s7 J7 => ⟨_, _, J7, q6⟩
    | brk =>
      obtain ⟨σ6, H6, S6, q6⟩ := q
      exact leave S6 fun s7 J7 => ⟨_, _, J7, q6⟩
    | cont =>
      obtain ⟨σ6, H6, S6, q6⟩ := q
      exact leave S6 fun s7 J7 => ⟨_, _, J7, q6⟩
    | ret u =>
      obtain ⟨v6, σ6, H6, S6, r6, q6⟩ := q
      exact leave S6 fun s7 J7 => ⟨_, _, _, J7, r6, q6⟩
  · cases f with
    | next =>
      obtain ⟨σ', H', J', z⟩ := q
      exact wpAny_execs_nil ⟨σ', H', J'.ofTry ok, z⟩
    | brk =>
      obtain ⟨σ', H', J', z⟩ := q
      exact ⟨σ', H', J'.ofTry ok, z⟩
    | cont =>
      obtain ⟨σ', H', J', z⟩ := q
      exact ⟨σ', H', J'.ofTry ok, z⟩
    | ret u =>
      obtain ⟨v, σ', H', J', r, z⟩ := q
      exact ⟨v, σ', H', J'.ofTry ok, r, z⟩
end
end DL

namespace DL
open PySem PySem.Spec PyProof.Rows L2
/-! # lambda: .. handed to a def that tells what it does -/
section
variable {X : Cx} {pins : List (Addr × Obj)} {σ : L2.St} {H : Hp} {s : Shared}
theorem lam_made {c P : Addr} {ps : Array Value} {params : Arguments} {body : Expr} {scope : Scope} {pos : Pos} {E : Value → Shared → Prop} {Q : Value → Shared → Prop} (I : Inv X pins σ H s) (TB : LamX.TabB X.base X.mg c P) (hcode : X.env.code = .ref c)
    (hP : H P = some (.tbl ps)) (tr : TriplesOk ps.toList) (ha : ∀ (pos : Pos) (cv : Value), codeAmong pos ps.toList = some cv → ∃ c, cv = .ref c ∧ H c = some (LamX.CodeO c (X.env.qual ++ "<lambda>")))
    (hdef : defaultsOf params X.env = ([], [])) (hfree : ∀ y ∈ scope.names, y.2 = .free → ∃ c, X.env.cells.lookup y.1 = some c)
    (h : ∀ (f c' : Addr) (pm ctv : Value) (H1 : Hp) (s' : Shared), Inv X pins σ H1 s' → (H1 = H ∧ (∃ pos : Pos, codeAmong pos ps.toList = some (.ref c')) ∨ ∃ more : Array Value, H c' = none ∧ H1 = upd (upd H P (.tbl (ps ++ more))) c' (LamX.CodeO c' (X.env.qual ++ "<lambda>")) ∧
        TriplesOk (ps ++ more).toList ∧ ∀ (pos : Pos) (cv : Value), codeAmong pos (ps ++ more).toList = some cv → codeAmong pos ps.toList = some cv ∨ cv = .ref c') →
      s'.heap.get? f = some (PySem.W.kla_obj "<lambda>" (X.env.qual ++ "<lambda>") params body scope (cloFrom X.env.cells scope.names []) pm c' ctv) → H1 f = none → f ∉ frs X.stack → Q (.ref f) s') :
    wpAny (model X.prog X.w) X.A (eval (.Lambda params body scope pos) X.env) Q E s := by
  refine PySem.W.kla_eval hdef ?_
  have bm : s.heap.BuiltinsAt X.mg P := TB.bm.keeps I.bk
  have tab : s.heap.get? P = some { cls := .none, data := .fields ps } := I.hok P _ hP
  have nofr : ∀ f, s.heap.objs.size ≤ f → f ∉ frs X.stack := fun f hf z => by
    rcases List.mem_cons.mp (I.stkSub _ z) with e | e
    · have := I.lt
      rw [← e] at this
      exact absurd (Nat.lt_of_lt_of_le this hf) (Nat.lt_irrefl _)
    · exact I.nofs hf e
  cases hc : codeAmong pos ps.toList with
  | none =>
    refine PySem.W.kla_makeFunction (mg := X.mg) (c := c) (P := P) (ps := ps) (closure_ok hfree) I.ok.glob (I.mod.glob.keeps I.bk) hcode (TB.code.keeps I.bk) tab tr hc TB.gP bm fun c' ctv h' tk kept hge hlt rec_ tab' => ?_
    obtain ⟨c2, oc, vs, t, e2, at_, hd, hv⟩ := rec_
    cases e2
    have big : s.heap.objs.size ≤ h'.objs.size := Nat.le_trans hge (Nat.le_of_lt hlt)
    have off : H c' = none := I.hok.fresh hge
    have J := LamX.inv_table (t' := tk) (more := #[rawInt pos.line, rawInt pos.col, .ref c']) (h' := h'.push (PySem.W.kla_obj "<lambda>" (X.env.qual ++ "<lambda>") params body scope (cloFrom X.env.cells scope.names []) ((X.mg "__name__").getD .none) c' ctv)) I hP
      (fun b o hb e => Heap.get?_push_of_some _ (kept b o hb e)) (Heap.get?_push_of_some _ tab') hge ⟨oc, vs, t, Heap.get?_push_of_some _ at_, hd, hv⟩
    have toL : (ps ++ #[rawInt pos.line, rawInt pos.col, .ref c']).toList = ps.toList ++ [rawInt pos.line, rawInt pos.col, .ref c'] := by simp
    refine h h'.objs.size c' ((X.mg "__name__").getD .none) ctv _ _ J (.inr ⟨_, off, rfl, by rw [toL]; exact PySem.TriplesOk_snoc _ _ _ _ tr, fun p' cv hcv => ?_⟩) (Heap.get?_push_size _ rfl) ?_ (nofr _ big)
    · rw [toL] at hcv
      exact LamX.among_app _ tr hcv
    · rw [upd_ne (Nat.ne_of_gt hlt), upd_ne (Nat.ne_of_gt (Nat.lt_of_lt_of_le (Heap.lt_size tab) big))]
      exact I.hok.fresh big
  | some cv =>
    obtain ⟨c', e, hco⟩ := ha pos cv hc
    subst e
    refine PySem.W.kla_makeFunctionHit (mg := X.mg) (c := c) (P := P) (ps := ps) (closure_ok hfree) I.ok.glob (I.mod.glob.keeps I.bk) hcode (TB.code.keeps I.bk) tab tr hc bm fun ctv h' tk kept big => ?_
    have J : Inv X pins σ H { s with heap := h'.push (PySem.W.kla_obj "<lambda>" (X.env.qual ++ "<lambda>") params body scope (cloFrom X.env.cells scope.names []) ((X.mg "__name__").getD .none) c' ctv), toks := tk } := I.kept fun b o e => Heap.get?_push_of_some _ (kept b o e)
    exact h h'.objs.size c' ((X.mg "__name__").getD .none) ctv H _ J (.inl ⟨rfl, pos, hc⟩) (Heap.get?_push_size _ rfl) (I.hok.fresh big) (nofr _ big)
/-- the same, at data: the table's cell stays what it is -/
theorem lam_data {ct : CT} {c P : Addr} {m : List Addr} {F : Hp} {S : Sto} {j : Nat} {params : Arguments} {body : Expr} {scope : Scope} {pos : Pos} {E : Value → Shared → Prop} {Q : Value → Shared → Prop} (I : Inv X pins σ H s) (TB : LamX.TabB X.base X.mg c P) (hcode : X.env.code = .ref c)
    (sim : Sim X.K ct m F S H) (hj : S[j]? = some (.tab (X.env.qual ++ "<lambda>"))) (hct : ct (X.env.qual ++ "<lambda>") = some P)
    (hdef : defaultsOf params X.env = ([], [])) (hfree : ∀ y ∈ scope.names, y.2 = .free → ∃ c, X.env.cells.lookup y.1 = some c)
    (h : ∀ (f c' : Addr) (pm ctv : Value) (F1 H1 : Hp) (s' : Shared), Inv X pins σ H1 s' → Sim X.K ct m F1 S H1 → Ext m F H m F1 H1 → H1 c' = some (LamX.CodeO c' (X.env.qual ++ "<lambda>")) → F1 c' = some (LamX.CodeO c' (X.env.qual ++ "<lambda>")) →
      s'.heap.get? f = some (PySem.W.kla_obj "<lambda>" (X.env.qual ++ "<lambda>") params body scope (cloFrom X.env.cells scope.names []) pm c' ctv) → H1 f = none → f ∉ frs X.stack → Q (.ref f) s') :
    wpAny (model X.prog X.w) X.A (eval (.Lambda params body scope pos) X.env) Q E s := by
  have hjl : j < m.length := by
    rw [sim.len]
    exact (List.getElem?_eq_some_iff.mp hj).1
  have hmj : m[j]? = some m[j] := List.getElem?_eq_getElem hjl
  have eP := sim.tab j m[j] _ _ hmj hj rfl
  rw [hct] at eP
  cases eP
  obtain ⟨ps, h1, h2, h3⟩ := sim.cell j _ _ hmj hj
  have hm : m[j] ∈ m := List.getElem_mem hjl
  refine lam_made I TB hcode h1 h2 (fun pos cv hc => let ⟨c, z1, z2⟩ := h3 pos cv hc; ⟨c, z1, sim.same _ _ z2⟩) hdef hfree fun f c' pm ctv H1 s' J cases_ hf nf fr => ?_
  rcases cases_ with ⟨rfl, pos', hh⟩ | ⟨more, off, rfl, tr, am⟩
  · obtain ⟨c2, z1, z2⟩ := h3 pos' _ hh
    cases z1
    exact h f c' pm ctv F H1 s' J sim (Ext.refl _ _ _) (sim.same _ _ z2) z2 hf nf fr
  · have ne : c' ≠ m[j] := fun e => by
      rw [e, h1] at off
      cases off
    obtain ⟨s2, x2⟩ := sim.frozen off (LamX.CodeO c' (X.env.qual ++ "<lambda>"))
    obtain ⟨s3, x3⟩ := s2.change hmj (o := .tbl (ps ++ more)) (c := .tab (X.env.qual ++ "<lambda>")) ⟨_, rfl, tr, fun p' cv hc => by
      rcases am p' cv hc with z | z
      · obtain ⟨c2, z1, z2⟩ := h3 p' cv z
        exact ⟨c2, z1, x2.same _ _ z2⟩
      · exact ⟨c', z, upd_same⟩⟩ (fun q hq => by cases hq; exact hct)
    have eS : S.set j (.tab (X.env.qual ++ "<lambda>")) = S := by
      apply List.ext_getElem?
      intro i
      by_cases hi : j = i
      · subst hi
        rw [List.getElem?_set_self (List.getElem?_eq_some_iff.mp hj).1, hj]
      · rw [List.getElem?_set_ne hi]
    have eH : upd (upd H c' (LamX.CodeO c' (X.env.qual ++ "<lambda>"))) m[j] (.tbl (ps ++ more)) = upd (upd H m[j] (.tbl (ps ++ more))) c' (LamX.CodeO c' (X.env.qual ++ "<lambda>")) := by
      funext b
      by_cases hb : b = m[j]
      · rw [hb, upd_same, upd_ne (fun e => ne e.symm), upd_same]
      · rw [upd_ne hb]
        by_cases hc : b = c'
        · rw [hc, upd_same, upd_same]
        · rw [upd_ne hc, upd_ne hc, upd_ne hb]
    rw [eS, eH] at s3
    rw [eH] at x3
    exact h f c' pm ctv _ _ s' J s3 (x2.trans x3) upd_same upd_same hf nf fr
end
/-! ## act(), in the def that got the lambda -/
section
variable {X : Cx} {pins : List (Addr × Obj)} {σ : L2.St} {H1 : Hp} {s1 : Shared} {ct : CT}
theorem act_run {Ng : List Str} {tn : Str} {sg : Scope} {g f c' : Addr} {cdg pm ctv : Value} {params : Arguments} {body : Expr} {scope : Scope} {k i : Nat} {a : Str} {pn : List (Addr × Obj)} {xe : Value → Shared → Prop} {W : WX} {p1 p2 : Pos} {fv : FE} {fx : FX} {env : DEnv}
    (I : Inv X pins σ H1 s1) (L : LamX.LamS X.env.scope scope) (hf : s1.heap.get? f = some (PySem.W.kla_obj "<lambda>" (X.env.qual ++ "<lambda>") params body scope (cloFrom X.env.cells scope.names []) pm c' ctv)) (hfn : H1 f = none) (hfr : f ∉ frs X.stack)
    (hbind : bindArgs (PySem.W.kla_fn "<lambda>" (X.env.qual ++ "<lambda>") params body scope (cloFrom X.env.cells scope.names []) pm (.ref c') ctv) ⟨[], []⟩ = pure [])
    (tk : Takes ((cxOf CX0 X.prog X.w X.K X.mg X.base Ng tn sg g cdg X.A X.stack s1 H1 fun _ _ _ => False).nox.tr pn xe) W) (hr : RoomG (k + 1) (X.A.deeper (envOfC tn sg s1.heap.objs.size g cdg)))
    (hv : ∀ (A : Around) (outer : List Env) (s : Shared) (H : Hp) (E : XK), RoomG k (A.deeper (LamX.lamEnv X scope s.heap.objs.size f c')) → SE ct (LamX.lamCx X A outer s H E scope f c') body fv)
    (hx : ∀ (A : Around) (outer : List Env) (s : Shared) (H : Hp) (E : XK), RoomG k (A.deeper (LamX.lamEnv X scope s.heap.objs.size f c')) → XE1 ct (LamX.lamCx X A outer s H E scope f c') E body fx)
    (hN : Ng[i]? = some a) (hva : Vis sg a) (hd : (a == ("__debug__" : Str)) = false) (hcd : (a == ("__classdict__" : Str)) = false) :
    PE ((cxOf CX0 X.prog X.w X.K X.mg X.base Ng tn sg g cdg X.A X.stack s1 H1 fun _ _ _ => False).nox.tr pn xe) (.Call (.Name a p1) [] [] p2)
      (fun σZ HZ Q => σZ[i]? = some (some (.ref f)) ∧ ∃ m F S, Sim X.K ct m F S HZ ∧ EnvR X.K ct m F env σ ∧ F c' = some (LamX.CodeO c' (X.env.qual ++ "<lambda>")) ∧
        ((∃ d S', fv env S = some (d, S') ∧ PostE ct X.K m F HZ S' d Q) ∨ ∃ er S', fx env S = some (er, S') ∧ PostX ct X.K m F HZ S' er fun cls d H' => W cls d σZ H')) := by
  refine ⟨fun pinsZ sZ σZ HZ Q IZ h => ?_⟩
  obtain ⟨hs, m, F, S, sim, en, hc, ht⟩ := h
  refine wpAny_Call_Name_kw (thn ((pe_var (pos := p1) (i := i) hN hva hd hcd).run pinsZ sZ σZ HZ (fun v H2 => v = .ref f ∧ H2 = HZ) IZ ⟨.ref f, hs, rfl, rfl⟩) fun u s2 ⟨v, H2, I2, r2, ev, eH⟩ => ?_)
  subst ev
  rw [eH] at I2
  have r2 : u = Value.ref f := r2
  subst r2
  have fun_ : s2.heap.get? f = some (PySem.W.kla_obj "<lambda>" (X.env.qual ++ "<lambda>") params body scope (cloFrom X.env.cells scope.names []) pm c' ctv) := I2.base.keep f _ hf hfn hfr (fun z => nomatch (show f ∈ ([] : List Addr) from z))
  have un : Un (frs X.stack) [] H1 HZ s1.heap s2.heap := I2.base
  obtain ⟨⟨oc, vs, t, hoc, hdc, hvc⟩, _, _⟩ := I2.hok c' _ (sim.same _ _ hc)
  refine PySem.W.callWith_F0 ⟨_, _, _, _, fun_⟩ ?_
  have main : codeAny (model X.prog X.w) (X.A.deeper (envOfC tn sg s1.heap.objs.size g cdg)) (.call (.ref f) ⟨[], []⟩) (CR (L2.CX X.prog X.w) (envOfC tn sg s1.heap.objs.size g cdg :: X.stack) X.prog X.w HZ s2 Q fun cls d H' => W cls d σZ H') s2 := by
    refine PySem.W.kla_callFunE hr.room.depth fun_ rfl L.co L.gen rfl ⟨c', oc, vs, t, rfl, hoc, hdc, hvc⟩ ?_
    rw [hbind]
    refine wpAny_pure (wpAny_newFunctionEnv (fun y hy => (L.own y hy).2) (fun y hy => absurd hy (by simp)) (fun h₁ hns hsb => ⟨I2.nolimit.fresh _ hsb, ?_⟩) L.kind)
    show codeAny _ _ (.expr body (LamX.lamEnv X scope s2.heap.objs.size f c')) _ _
    have kp : ∀ b o, s2.heap.get? b = some o → h₁.get? b = some o := fun b o e => hsb.extBut b o (Nat.ne_of_lt (Heap.lt_size e)) (Heap.get?_push_of_some _ e)
    have J := LamX.lam_start2 (E := fun cls d H' => W cls d σZ H') (f := f) (c' := c') (tk := s2.toks + ([] : List (Str × Value)).length) I L I2.env0 hr.room.hd un hns kp
    have both : ∃ tb, PE (LamX.lamCx X (X.A.deeper (envOfC tn sg s1.heap.objs.size g cdg)) (envOfC tn sg s1.heap.objs.size g cdg :: X.stack) s2 HZ (fun cls d H' => W cls d σZ H') scope f c') body tb ∧ tb σ HZ Q := by
      rcases ht with ⟨d, S', h1, post⟩ | ⟨er, S', h1, post⟩
      · obtain ⟨tb, pe, rb⟩ := hv _ (envOfC tn sg s1.heap.objs.size g cdg :: X.stack) s2 HZ (fun cls d H' => W cls d σZ H') (hr.deeper _)
        exact ⟨tb, pe, rb m F S σ HZ env d S' Q sim en h1 post⟩
      · obtain ⟨tb, pe, rb⟩ := hx _ (envOfC tn sg s1.heap.objs.size g cdg :: X.stack) s2 HZ (fun cls d H' => W cls d σZ H') (hr.deeper _)
        exact ⟨tb, pe, rb m F S σ HZ env er S' Q sim en h1 post⟩
    obtain ⟨tb, pe, htb⟩ := both
    refine PySem.W.kla_codeExpr (wpAny_mono (pe.run [] _ _ HZ Q J htb) (fun v s' hq => ?_) fun e s' hq => hq)
    obtain ⟨w', H', J', rv, q⟩ := hq
    exact ⟨w', H', J'.os, J'.bare, J'.base, J'.hok, rv, q⟩
  refine wpAny_call (codeAny_mono main fun r s' q => ?_)
  cases r with
  | error e => exact tk e s' (XE.of_call I2 (fun _ _ _ z => z) q)
  | ok fl =>
    cases fl with
    | ret u => exact I2.after q
    | next => exact False.elim q
    | brk => exact False.elim q
    | cont => exact False.elim q
end
end DL

namespace DL
open PySem PySem.Spec PyProof.Rows L2
abbrev NgT : List Str := ["_law_act", "_law_gave", "_law_e", "_law_word"]
structure TShape (sg : Scope) (bg : List Stmt) : Prop where
  body : ∃ (p1 p2 p3 p4 q1 q2 q3 r1 r2 r3 r4 r5 r6 r7 r8 r9 r10 r11 r12 r13 r14 u1 u2 u3 u4 : Pos) (k1 k2 k3 j : Nat), bg = [.Try [.Assign [.Name "_law_gave" p1] (.Call (.Name "_law_act" p2) [] [] p3) p4]
    [.ExceptHandler (some (.Tuple [.Name "WrongValue" q1, .Name "NoAnswer" q2] k1 q3)) (some "_law_e") [.Assign [.Name "_law_word" r1] (.Call (.Name "_law_sort" r2) [.Name "_law_e" r3] [] r4) r5,
      .Return (some (.Tuple [.Name "_law_word" r6, .Call (.Name "_law_attribute" r7) [.Name "_law_e" r8, .Name "_law_word" r9] [] r10] k2 r11)) r12] r13] [] [] r14, .Return (some (.Tuple [.Constant (.str "returned") j u1, .Name "_law_gave" u2] k3 u3)) u4]
  n0 : sg.names.lookup ("_law_act" : Str) = some .local
  n1 : sg.names.lookup ("_law_gave" : Str) = some .local
  n2 : sg.names.lookup ("_law_e" : Str) = some .local
  n3 : sg.names.lookup ("_law_word" : Str) = some .local
  g0 : sg.names.lookup ("_law_sort" : Str) = some .globalImplicit
  g1 : sg.names.lookup ("_law_attribute" : Str) = some .globalImplicit
  g2 : sg.names.lookup ("WrongValue" : Str) = some .globalImplicit
  g3 : sg.names.lookup ("NoAnswer" : Str) = some .globalImplicit
  sc : FnScope NgT ["_law_act"] sg
def ErrTab (K : PySem.W.Frag) (mg : Str → Option Value) (ct : CT) (c1 c2 : Addr) (cs : List Str) : Prop := ∀ c ∈ cs, ∃ C, ct c = some C ∧ PySem.W.exmAny K (.ref C) [.ref c1, .ref c2] = some true
def ToldOk (P : Program) (w : World) (K : PySem.W.Frag) (mg : Str → Option Value) (base : Heap) (ct : CT) (k : Nat) (tn : Str) (cs : List Str) (gs ga : FD) : Prop :=
  ∃ (st : Stmt) (g : Addr) (fd : FuncData) (c1 c2 : Addr), Fun K tn tn st g fd ∧ mg tn = some (.ref g) ∧ Binds K fd ["_law_act"] [] ∧ TShape (defScope st) (defBody st) ∧ mg "WrongValue" = some (.ref c1) ∧ mg "NoAnswer" = some (.ref c2) ∧ ErrTab K mg ct c1 c2 cs ∧
    CalleeQ P w K mg base ct k "_law_sort" 1 gs ∧ CalleeQ P w K mg base ct k "_law_attribute" 2 ga
def fTold (j : Nat) (q : Str) (cs : List Str) (fv : FE) (fx : FX) (gs ga : FD) : FE := fun env S => match S[j]? with
  | some (.tab q') => if q' = q then (match fv env S with
      | some r => some (.tup [.str "returned", r.1], r.2)
      | none => (fx env S).bind fun r => if r.1.1 ∈ cs then (gs [.exc r.1.1 r.1.2.1 r.1.2.2] r.2).bind fun u => (ga [.exc r.1.1 r.1.2.1 r.1.2.2, u.1] u.2).bind fun t => some (.tup [u.1, t.1], t.2) else none) else none
  | _ => none
def fSuite (gs ga : FD) : FS := sSeq (sAsg (fCall gs (fCons (fVar 2) fNil)) (gN 3)) (sRet (fTup (fCons (fVar 3) (fCons (fCall ga (fCons (fVar 2) (fCons (fVar 3) fNil))) fNil))))
section
variable {ct : CT} {X : Cx} {k : Nat} {tn : Str} {cs : List Str} {gs ga : FD} {fv : FE} {fx : FX} {j : Nat} {params : Arguments} {body : Expr} {scope : Scope} {p lpos pos : Pos} {c P : Addr}
theorem se_told (T : ToldOk X.prog X.w X.K X.mg X.base ct k tn cs gs ga) (hr : RoomG (k + 2) X.A) (hg : Gl X tn) (TB : LamX.TabB X.base X.mg c P) (hcode : X.env.code = .ref c) (hct : ct (X.env.qual ++ "<lambda>") = some P) (L : LamX.LamS X.env.scope scope)
    (hdef : defaultsOf params X.env = ([], [])) (hbind : ∀ (q : Str) (cl : List (Str × Addr)) (pm cv ctv : Value), bindArgs (PySem.W.kla_fn "<lambda>" q params body scope cl pm cv ctv) ⟨[], []⟩ = pure [])
    (hv : ∀ (A : Around) (outer : List Env) (s : Shared) (H : Hp) (E : XK) (f c' : Addr), RoomG k (A.deeper (LamX.lamEnv X scope s.heap.objs.size f c')) → SE ct (LamX.lamCx X A outer s H E scope f c') body fv)
    (hx : ∀ (A : Around) (outer : List Env) (s : Shared) (H : Hp) (E : XK) (f c' : Addr), RoomG k (A.deeper (LamX.lamEnv X scope s.heap.objs.size f c')) → XE1 ct (LamX.lamCx X A outer s H E scope f c') E body fx) (hdb : (tn == ("__debug__" : Str)) = false := by decide) :
    SE ct X (.Call (.Name tn p) [.Lambda params body scope lpos] [] pos) (fTold j (X.env.qual ++ "<lambda>") cs fv fx gs ga) := by
  obtain ⟨st, g, fd, c1, c2, FF, hm, hb, sh, mw, mn, et, M1, M2⟩ := T
  refine ⟨fun σ H Q => ∃ m F S env d S', Sim X.K ct m F S H ∧ EnvR X.K ct m F env σ ∧ fTold j (X.env.qual ++ "<lambda>") cs fv fx gs ga env S = some (d, S') ∧ PostE ct X.K m F H S' d Q, ⟨fun pins s σ H Q I h => ?_⟩, fun m F S σ H env d S' Q s en h p => ⟨m, F, S, env, d, S', s, en, h, p⟩⟩
  obtain ⟨m, F, S, env, d, S', sim, en, ht, post⟩ := h
  have hj : S[j]? = some (.tab (X.env.qual ++ "<lambda>")) ∧ (match fv env S with
      | some r => some (D.tup [.str "returned", r.1], r.2)
      | none => (fx env S).bind fun r => if r.1.1 ∈ cs then (gs [.exc r.1.1 r.1.2.1 r.1.2.2] r.2).bind fun u => (ga [.exc r.1.1 r.1.2.1 r.1.2.2, u.1] u.2).bind fun t => some (.tup [u.1, t.1], t.2) else none) = some (d, S') := by
    unfold fTold at ht
    split at ht
    · rename_i q' e
      split at ht
      · rename_i e2
        subst e2
        exact ⟨e, ht⟩
      · cases ht
    · cases ht
  obtain ⟨hj, ht⟩ := hj
  have kp := FF.kp
  obtain ⟨oc, od, kV, doc, pmg, an, cdv, ctg, osl, rfl, lk, hcd⟩ := FF.ex
  refine wpAny_Call_Name_kw (ld_glob I hg hm (PySem.W.callWith_K (h₀ := X.base) I.ok.mod.kin kp ?_ (by rfl) (by rfl)) hdb)
  show wpAny _ _ (spliced ((false, eval (.Lambda params body scope lpos) X.env) :: backTo pos (starEach [] X.env))) _ _ s
  refine Calls.spliced_cons (lam_data I TB hcode sim hj hct hdef (L.has I.ok) fun f c' pm ctv F1 H1 s1 I1 sim1 x1 hco hcf hf hfn hfr => Calls.spliced_nil ⟨I1.kIn, ?_⟩)
  have en1 : EnvR X.K ct m F1 env σ := en.mono x1
  have post1 : PostE ct X.K m F1 H1 S' d Q := post.ext x1
  have gd : X.A.guards = some [] := hr.gd
  have main : codeAny (model X.prog X.w) X.A (.call (.ref g) ⟨[.ref f], []⟩) (CR CX0 X.stack X.prog X.w H1 s1 Q fun _ _ _ => False) s1 := by
    refine LamX.run_ofS (N := NgT) (ps := ["_law_act"]) (us := [.ref f]) (vs := [.ref f]) lk hcd sh.sc hr.room I1.env0 (hb s1 [.ref f] I1.kIn rfl) (.cons rfl .nil) rfl fun hr' => ?_
    have hrg : RoomG (k + 1) (X.A.deeper (envOfC tn (defScope st) s1.heap.objs.size g cdv)) := ⟨hr', gd⟩
    obtain ⟨p1, p2, p3, p4, q1, q2, q3, r1, r2, r3, r4, r5, r6, r7, r8, r9, r10, r11, r12, r13, r14, u1, u2, u3, u4, k1, k2, k3, jj, eb⟩ := sh.body
    rw [eb]
    have suite : ∀ a : Addr, SSs ct (Hot (cxOf CX0 X.prog X.w X.K X.mg X.base NgT tn (defScope st) g cdv X.A X.stack s1 H1 fun _ _ _ => False).nox a) [.Assign [.Name "_law_word" r1] (.Call (.Name "_law_sort" r2) [.Name "_law_e" r3] [] r4) r5,
        .Return (some (.Tuple [.Name "_law_word" r6, .Call (.Name "_law_attribute" r7) [.Name "_law_e" r8, .Name "_law_word" r9] [] r10] k2 r11)) r12] (fSuite gs ga) := fun a => by
      have rq : RoomQ k (Hot (cxOf CX0 X.prog X.w X.K X.mg X.base NgT tn (defScope st) g cdv X.A X.stack s1 H1 fun _ _ _ => False).nox a).A := ((hrg.q).mono (Nat.le_succ k)).mark _
      refine sss_cons (ss_set sh.sc.nd (i := 3) rfl (.inl sh.n3) (se_fnQ M1 rq sh.g0 (sa_cons (se_var 2 rfl (.inl sh.n2)) sa_nil) (fCons_len fun _ _ _ _ => fNil_len)) (by rfl) (.inr sh.n3)) (sss_one (ss_ret (se_tup (sa_cons (se_var 3 rfl (.inl sh.n3)) (sa_cons (se_fnQ M2 rq sh.g1 (sa_cons (se_var 2 rfl (.inl sh.n2)) (sa_cons (se_var 3 rfl (.inl sh.n3)) sa_nil)) (fCons_len (fCons_len fun _ _ _ _ => fNil_len))) sa_nil)))))
    let ts : Addr → TS := fun a => Classical.choose (suite a)
    have tsP := fun a => Classical.choose_spec (suite a)
    have hvis : Vis (defScope st) "_law_act" := .inl sh.n0
    have act := fun (W : WX) (pn : List (Addr × Obj)) (xe : Value → Shared → Prop) (tk : Takes ((cxOf CX0 X.prog X.w X.K X.mg X.base NgT tn (defScope st) g cdv X.A X.stack s1 H1 fun _ _ _ => False).nox.tr pn xe) W) =>
      act_run (env := env) (i := 0) (p1 := p2) (p2 := p3) I1 L hf hfn hfr (hbind _ _ _ _ _) tk hrg (fun A o s H E => hv A o s H E f c') (fun A o s H E => hx A o s H E f c') rfl hvis (by decide) (by decide)
    have tr := ps_tryT (X := (cxOf CX0 X.prog X.w X.K X.mg X.base NgT tn (defScope st) g cdv X.A X.stack s1 H1 fun _ _ _ => False).nox) (i := 2) (n := "_law_e") (p1 := q1) (p2 := q2) (tp := q3) (kk := k1) (pos := r14) (pos' := r13) rfl rfl sh.sc.nd rfl sh.n2 sh.g2 mw sh.g3 mn (by decide) (by decide)
      (fun W pn xe tk _ => pss_one (ps_set (pos := p4) (pos' := p1) sh.sc.nd (i := 1) rfl (.inl sh.n1) (act W pn xe tk) (by rfl) (.inr sh.n1))) (ts := ts) (fun a => (tsP a).1)
    have ret := sss_one (ss_ret (ct := ct) (pos := u4) (se_tup (X := (cxOf CX0 X.prog X.w X.K X.mg X.base NgT tn (defScope st) g cdv X.A X.stack s1 H1 fun _ _ _ => False).nox) (k := k3) (pos := u3) (sa_cons (se_str (i := "returned") (j := jj) (pos := u1)) (sa_cons (se_var 1 (x := "_law_gave") (pos := u2) rfl (.inl sh.n1)) sa_nil))))
    obtain ⟨tret, pret, rret⟩ := ret
    refine ⟨_, (pss_cons tr pret).nox, ?_⟩
    have en0 : EnvR X.K ct m F1 [none, none, none, none] (L2.start NgT [.ref f]) := ⟨rfl, fun i d hi => by
      match i, hi with
      | 0, hi => cases hi
      | 1, hi => cases hi
      | 2, hi => cases hi
      | 3, hi => cases hi
      | _ + 4, hi => cases hi⟩
    refine ⟨rfl, m, F1, S, sim1, en1, hcf, ?_⟩
    cases ev : fv env S with
    | some r =>
      obtain ⟨d1, S1⟩ := r
      rw [ev] at ht
      cases ht
      refine .inl ⟨d1, _, rfl, fun m2 F2 v2 H2 x2 s2 r2 => ?_⟩
      exact rret m2 F2 _ _ H2 _ (.rt (.tup [.str "returned", d1])) _ _ s2 ((en0.mono x2).set 1 r2) rfl fun m3 F3 v3 H3 x3 s3 r3 => post1 m3 F3 v3 H3 (x2.trans x3) s3 r3
    | none =>
      rw [ev] at ht
      obtain ⟨⟨er, S1⟩, h1, ht⟩ := bind_some ht
      dsimp only at ht
      split at ht
      case isFalse => cases ht
      rename_i hcs
      obtain ⟨⟨w1, S2⟩, h2, ht⟩ := bind_some ht
      obtain ⟨⟨w2, S3⟩, h3, ht⟩ := bind_some ht
      cases ht
      refine .inr ⟨er, S1, h1, fun m2 F2 H2 cls dd x2 s2 r2 => ?_⟩
      obtain ⟨C, vs, e1, e2, e3, e4, e5⟩ := r2
      obtain ⟨C', z1, z2⟩ := et _ hcs
      rw [e1] at z1
      cases z1
      refine ⟨C, e2, z2, fun a na => ?_⟩
      obtain ⟨s3, x3⟩ := s2.frozen na (exk a C dd)
      refine (tsP a).2 m2 _ S1 _ _ [none, none, some (.exc er.1 er.2.1 er.2.2), none] (.rt (.tup [w1, w2])) _ _ s3 (((en0.mono x2).mono x3).set 2 ?_) ?_ fun m4 F4 v4 H4 x4 s4 r4 => post1 m4 F4 v4 H4 ((x2.trans x3).trans x4) s4 r4
      · refine ⟨a, C, dd, vs, rfl, e1, upd_same, ?_, e4, e5.mono x3⟩
        rcases e3 with z | ⟨dx, z, zd⟩
        · exact .inl z
        · exact .inr ⟨dx, z, x3.same _ _ zd⟩
      · show (sSeq _ _) _ _ = _
        simp only [fSuite, sSeq, sAsg, sRet, fCall, fCons, fNil, fVar, fTup, gN, List.getElem?_cons_zero, List.getElem?_cons_succ, Option.bind_some, h2, Option.map_some, List.set_cons_succ, List.set_cons_zero, h3]
        rfl
  refine wpAny_call (codeAny_mono main fun r s2 q => ?_)
  obtain ⟨u, rfl, z⟩ := behind I1 q
  exact z
end
end DL

namespace DL
open PySem PySem.Spec PyProof.Rows L2
/-! # Defs that make lambdas, and the law's end with their tables -/
def DefAtC (K : PySem.W.Frag) (mg : Str → Option Value) (x : Str) (st : Stmt) (ps : List Str) (c : Addr) (kwb : KWB := []) : Prop := ∃ (f : Addr) (fd : FuncData), Fun K x x st f fd ∧ mg x = some (.ref f) ∧ Binds K fd ps [] ∧ KwOk K fd ps 0 kwb ∧ fd.code = .ref c
section
variable {P : Program} {w : World} {K : PySem.W.Frag} {mg : Str → Option Value} {base : Heap} {ct : CT}
theorem def_okC {x qual : Str} {st : Stmt} {f c : Addr} {fd : FuncData} {N ps : List Str} {k : Nat} {g : FS} (F : Fun K x qual st f fd) (hc : fd.code = .ref c) (S : FnScope N ps (defScope st))
    (hbody : ∀ (A : Around) (outer : List Env) (s : Shared) (H : Hp) (E : XK), RoomG k (A.deeper (envOfC qual (defScope st) s.heap.objs.size f (.ref c))) →
      SSs ct (cxOf CX0 P w K mg base N qual (defScope st) f (.ref c) A outer s H E).nox (defBody st) g) : FnG P w K mg base (k + 1) f fd ps (spD K ct ps.length (runD N.length g)) := by
  obtain ⟨oc, od, kV, doc, pm, an, cdv, ctv, osl, rfl, lk, hcd⟩ := F.ex
  have hc : cdv = .ref c := hc
  subst hc
  refine fnG_of lk hcd S (fun vs H Q E h => h.1) (fun A outer s H vs Q E hr h => ?_)
  obtain ⟨hl, m, F', S0, ds, d, S', sim, reps, hg, post⟩ := h
  obtain ⟨t, pt, rt⟩ := hbody A outer s H E hr
  refine ⟨t, pt, ?_⟩
  obtain ⟨⟨fl, S1⟩, h1, h2⟩ := bind_some hg
  refine rt m F' S0 _ H _ fl S1 _ sim (start_env reps) h1 ?_
  cases fl with
  | rt d1 => cases h2; exact fun m' F1 v H' x1 s1 r1 => post m' F1 v H' x1 s1 r1
  | nx env1 => cases h2; exact fun m' F1 σ1 H' x1 s1 r1 => post m' F1 .non H' x1 s1 rfl
  | bk env1 => cases h2
  | ct env1 => cases h2
theorem calleeC_of {x : Str} {st : Stmt} {c : Addr} {N ps : List Str} {k : Nat} {g : FS} {kwb : KWB} (d : DefAtC K mg x st ps c kwb) (S : FnScope N ps (defScope st))
    (hbody : ∀ (f : Addr) (A : Around) (outer : List Env) (s : Shared) (H : Hp) (E : XK), RoomG k (A.deeper (envOfC x (defScope st) s.heap.objs.size f (.ref c))) →
      SSs ct (cxOf CX0 P w K mg base N x (defScope st) f (.ref c) A outer s H E).nox (defBody st) g) : Callee P w K mg base ct (k + 1) x ps.length (runD N.length g) kwb := by
  obtain ⟨f, fd, F, h1, h3, h4, h5⟩ := d
  exact ⟨f, fd, ps, h1, F.kp, ⟨h3, h4⟩, def_okC F h5 S (hbody f)⟩
/-! ## the end -/
variable {mb : Str → Option Value} {k : Nat} {fa a : Addr} {fd : FuncData} {x : Str} {sp : Sp} {s : Shared} {vs : List Value} {ns : List Int}
theorem lawT_core {G : Hp} {ts : List Addr} {cs : List (Addr × Addr)} (kin : K.In s.heap) (nsg : s.heap.Ns mainGlobals mg) (nsb : s.heap.Ns builtinsNs mb) (boot : ∀ y : Str, y ≠ "__name__" → mb y = bootBuiltins y) (lim : s.heap.NoLimit) (gn : s.gens = #[])
    (hcs : ∀ p ∈ cs, p.2 ∈ ts ∧ PySem.W.CodeHd s.heap p.1 p.2) (hts : ∀ b ∈ ts, ∃ p ∈ cs, p.2 = b) (tab : ∀ b ∈ ts, s.heap.get? b = some { cls := .none, data := .fields #[] }) (noK : ∀ b ∈ ts, K.lookup b = none)
    (hbm : ∃ (bm : Addr) (ob : Obj), mg "__builtins__" = some (.ref bm) ∧ bm ≠ builtinsNs ∧ s.heap.get? bm = some ob ∧ ob.cls = .type "module" ∧ ob.dict = some builtinsNs ∧ ob.data = .plain)
    (ha : s.heap.get? a = some { cls := .type "list", data := .seq vs.toArray }) (hr : Room k callerA) (F : ∀ base : Heap, K.In base → base.Ns mainGlobals mg → (∀ p ∈ cs, LamX.TabB base mg p.1 p.2) → FnG P w K mg base k fa fd [x] sp) (bind : ∀ (z : Shared) (u : Value), BindsTo z fd ⟨[u], []⟩ [(x, u)])
    (only : ∀ b, G b = none ∨ (b ∈ ts ∧ G b = some (.tbl #[])) ∨ ∃ o xs, G b = some (.frz o (.lst xs))) (hok : HOk P w G s.heap) (at_ : ∀ b, G b ≠ none → b = a ∨ b ∈ ts) (nk : G a ≠ none → K.lookup a = none) (hsp : sp [.ref a] G (fun v _ => v = .bl true) fun _ _ _ => False) :
    codeAny (model P w) callerA (.call (.ref fa) ⟨[.ref a], []⟩) (fun r z => r = .ok (.ret (.bool true)) ∧ OldK s.heap z.heap ∧ z.os = s.os ∧ AllBare z.gens) s := by
  have free : ∀ {b : Addr} {o : Obj}, s.heap.get? b = some o → (∀ us n, o.data ≠ .seq us n) → o.data ≠ .fields #[] → G b = none := fun {b o} e h1 h2 => by
    cases q : G b with
    | none => rfl
    | some _ =>
      rcases at_ b (by rw [q]; simp) with z | z
      · subst z
        rw [ha] at e
        cases e
        exact (h1 _ _ rfl).elim
      · rw [tab b z] at e
        cases e
        exact (h2 rfl).elim
  have nsd : ∀ {b : Addr} {m : Str → Option Value}, s.heap.Ns b m → (hidT s.heap G).Ns b m := fun {b m} ⟨o, es, ep, e, d, r⟩ => ⟨o, es, ep, hidT_get e (free e (fun us n z => by rw [d] at z; cases z) fun z => by rw [d] at z; cases z), d, r⟩
  have kb : K.In (hidT s.heap G) := fun b o e => hidT_get (kin b o e) (by
    cases q : G b with
    | none => rfl
    | some _ =>
      rcases at_ b (by rw [q]; simp) with z | z
      · subst z
        rw [nk (by rw [q]; simp)] at e
        cases e
      · rw [noK b z] at e
        cases e)
  have tabs : ∀ p ∈ cs, LamX.TabB (hidT s.heap G) mg p.1 p.2 := fun p hp => by
    obtain ⟨hp2, cd⟩ := hcs p hp
    refine ⟨?_, ?_, fun z => ?_⟩
    · obtain ⟨o, us, file, tf, flags, tg, inF, text, tt, e1, r1, r2, r3, rest⟩ := cd
      exact ⟨o, us, file, tf, flags, tg, inF, text, tt, hidT_get e1 (free e1 (fun us n z => by rw [r2] at z; cases z) fun z => by
        rw [r2] at z
        cases z
        simp at r3), r1, r2, r3, rest⟩
    · obtain ⟨bm, ob, b1, b2, b3, b4, b5, b6⟩ := hbm
      refine ⟨bm, ob, b1, b2, fun q => ?_, fun q => ?_, hidT_get b3 (free b3 (fun us n z => by rw [b6] at z; cases z) fun z => by rw [b6] at z; cases z), b4, b5, b6⟩
      · obtain ⟨o, es, ep, e, hd, _⟩ := nsg
        rw [q, e] at b3
        cases b3
        rw [hd] at b6
        cases b6
      · rw [q, tab _ hp2] at b3
        cases b3
        cases b6
    · obtain ⟨o, es, ep, e, hd, _⟩ := nsg
      rw [z, tab _ hp2] at e
      cases e
      cases hd
  obtain ⟨mc, l1, l2⟩ := lim
  have none0 : ∀ b : Addr, b ∈ frs [] → False := fun b h => by cases h
  refine codeAny_mono ((F _ kb (nsd nsg) tabs).run callerA [] s G ⟨[.ref a], []⟩ [.ref a] [.ref a] _ _ ⟨hr, rfl⟩ ⟨rfl, ⟨kb, nsd nsg, ⟨mb, nsd nsb, boot⟩, ⟨mc, nsd l1, l2⟩⟩, fun b o e => of_hidT e, Nat.le_of_eq (hidT_size _ _), trivial, fun b h => (none0 b h).elim, hok, .of_eq gn⟩
    (bind s (.ref a)) (.cons rfl .nil) hsp) fun r z h => ?_
  cases r with
  | error er => exact False.elim h
  | ok fl =>
    cases fl <;> first | exact False.elim h | skip
    rename_i u
    obtain ⟨v, G', os, bare, un, hok', ru, q⟩ := h
    have q : v = .bl true := q
    subst q
    have ru : u = Value.bool true := ru
    subst ru
    have stays : ∀ b o, b ∉ ts → s.heap.get? b = some o → z.heap.get? b = some o := fun b o nt e => by
      rcases only b with y | ⟨y, _⟩ | ⟨ob, xs, y⟩
      · exact un.keep b o e y (none0 b) (fun h => by cases h)
      · exact absurd y nt
      · have e1 := (hok b _ y).1
        rw [e] at e1
        cases e1
        exact (hok' b _ (un.frzs b _ _ y)).1
    have grown : ∀ b ∈ ts, ∃ more : Array Value, z.heap.get? b = some { cls := .none, data := .fields more } := fun b hb => by
      rcases only b with y | ⟨_, y⟩ | ⟨ob, xs, y⟩
      · obtain ⟨p, hp, rfl⟩ := hts b hb
        exact ⟨_, un.keep p.2 _ (tab _ hb) y (none0 _) (fun h => by cases h)⟩
      · obtain ⟨more, y'⟩ := un.tbls b #[] y
        exact ⟨_, hok' b _ y'⟩
      · have e1 := (hok b _ y).1
        rw [tab b hb] at e1
        cases e1
        exact ⟨_, (hok' b _ (un.frzs b _ _ y)).1⟩
    refine ⟨rfl, ⟨fun b o e => ?_, fun b o e => ?_⟩, os, bare⟩
    · by_cases hb : b ∈ ts
      · obtain ⟨p, hp, rfl⟩ := hts b hb
        obtain ⟨more, hm⟩ := grown _ hb
        rw [tab _ hb] at e
        cases e
        exact .inr (.inl ⟨((hcs p hp).2.tab (tab _ hb)).isCodeTable, rfl, #[], more, rfl, by rw [Array.empty_append]; exact hm⟩)
      · exact .inl (stays b o hb e)
    · by_cases hb : b ∈ ts
      · obtain ⟨more, hm⟩ := grown b hb
        exact ⟨_, hm⟩
      · exact ⟨o, stays b o hb e⟩
end
section
variable {P : Program} {w : World} {K : PySem.W.Frag} {mg mb : Str → Option Value} {base : Heap} {ct : CT} {k : Nat} {fa a : Addr} {fd : FuncData} {x : Str} {s : Shared} {vs : List Value} {ns : List Int}
def spScrT (K : PySem.W.Frag) (ts : List Addr) : Sp := fun vs H Q _ => ∃ (a : Addr) (ns : List Int), vs = [.ref a] ∧ SqL K H a (ns.map V.int) ∧ ns.length ≤ 63 ∧ (∀ b ∈ ts, H b = some (.tbl #[])) ∧ ∀ H', Q (.bl true) H'
theorem lawT {cs : List (Addr × Addr)} (kin : K.In s.heap) (nsg : s.heap.Ns mainGlobals mg) (nsb : s.heap.Ns builtinsNs mb) (boot : ∀ y : Str, y ≠ "__name__" → mb y = bootBuiltins y) (lim : s.heap.NoLimit) (gn : s.gens = #[])
    (hcs : ∀ p ∈ cs, PySem.W.CodeHd s.heap p.1 p.2) (tab : ∀ p ∈ cs, s.heap.get? p.2 = some { cls := .none, data := .fields #[] }) (noK : ∀ p ∈ cs, K.lookup p.2 = none)
    (hbm : ∃ (bm : Addr) (ob : Obj), mg "__builtins__" = some (.ref bm) ∧ bm ≠ builtinsNs ∧ s.heap.get? bm = some ob ∧ ob.cls = .type "module" ∧ ob.dict = some builtinsNs ∧ ob.data = .plain)
    (ha : s.heap.get? a = some { cls := .type "list", data := .seq vs.toArray }) (hi : IntsAre vs ns) (hl : ns.length ≤ 63) (hr : Room k callerA)
    (F : ∀ base : Heap, K.In base → base.Ns mainGlobals mg → (∀ p ∈ cs, LamX.TabB base mg p.1 p.2) → FnG P w K mg base k fa fd [x] (spScrT K (cs.map (·.2)))) (bind : ∀ (z : Shared) (u : Value), BindsTo z fd ⟨[u], []⟩ [(x, u)]) :
    codeAny (model P w) callerA (.call (.ref fa) ⟨[.ref a], []⟩) (fun r z => r = .ok (.ret (.bool true)) ∧ OldK s.heap z.heap ∧ z.os = s.os ∧ AllBare z.gens) s := by
  have inT : ∀ p ∈ cs, p.2 ∈ cs.map (·.2) := fun p hp => List.mem_map.mpr ⟨p, hp, rfl⟩
  have ofT : ∀ b ∈ cs.map (·.2), ∃ p ∈ cs, p.2 = b := fun b hb => List.mem_map.mp hb
  have tabT : ∀ b ∈ cs.map (·.2), s.heap.get? b = some { cls := .none, data := .fields #[] } := fun b hb => by
    obtain ⟨p, hp, rfl⟩ := ofT b hb
    exact tab p hp
  have noT : ∀ b ∈ cs.map (·.2), K.lookup b = none := fun b hb => by
    obtain ⟨p, hp, rfl⟩ := ofT b hb
    exact noK p hp
  have aT : a ∉ cs.map (·.2) := fun z => by
    have q := tabT a z
    rw [ha] at q
    cases congrArg Obj.data (Option.some.inj q)
  have line : ns.length ≤ sizeLine := Nat.le_trans hl (by decide)
  cases hk : K.lookup a with
  | some o =>
    have e := kin a o hk
    rw [ha] at e
    cases e
    refine lawT_core (G := fun b => if b ∈ cs.map (·.2) then some (.tbl #[]) else none) (ts := cs.map (·.2)) kin nsg nsb boot lim gn (fun p hp => ⟨inT p hp, hcs p hp⟩) ofT tabT noT hbm ha hr F bind (fun b => ?_) (fun b u y => ?_) (fun b y => ?_) (fun y => absurd (if_neg aT) y)
      ⟨a, ns, rfl, .inr ⟨_, vs.toArray, _, hk, rfl, rfl, rfl, by rw [List.size_toArray, hi.length]; exact line, by simpa using vals_ints hi⟩, hl, fun b hb => if_pos hb, fun _ => rfl⟩
    · by_cases hb : b ∈ cs.map (·.2)
      · exact .inr (.inl ⟨hb, if_pos hb⟩)
      · exact .inl (if_neg hb)
    · by_cases hb : b ∈ cs.map (·.2)
      · have y2 := (if_pos hb).symm.trans y
        cases y2
        exact tabT b hb
      · cases (if_neg hb).symm.trans y
    · by_cases hb : b ∈ cs.map (·.2)
      · exact .inr hb
      · exact absurd (if_neg hb) y
  | none =>
    have ne : ∀ b ∈ cs.map (·.2), b ≠ a := fun b hb z => aT (z ▸ hb)
    refine lawT_core (G := fun b => if b = a then some (.frz { cls := .type "list", data := .seq vs.toArray } (.lst (ns.map V.int))) else if b ∈ cs.map (·.2) then some (.tbl #[]) else none) (ts := cs.map (·.2)) kin nsg nsb boot lim gn (fun p hp => ⟨inT p hp, hcs p hp⟩) ofT tabT noT hbm ha hr F bind
      (fun b => ?_) (fun b u y => ?_) (fun b y => ?_) (fun _ => hk) ⟨a, ns, rfl, .inl (.inr ⟨_, if_pos rfl⟩), hl, fun b hb => (if_neg (ne b hb)).trans (if_pos hb), fun _ => rfl⟩
    · by_cases h1 : b = a
      · exact .inr (.inr ⟨_, _, if_pos h1⟩)
      · by_cases h2 : b ∈ cs.map (·.2)
        · exact .inr (.inl ⟨h2, (if_neg h1).trans (if_pos h2)⟩)
        · exact .inl ((if_neg h1).trans (if_neg h2))
    · by_cases h1 : b = a
      · subst h1
        have y2 := (if_pos rfl).symm.trans y
        cases y2
        exact ⟨ha, by rw [List.length_map]; exact line, vs, _, vals_ints hi, ha⟩
      · by_cases h2 : b ∈ cs.map (·.2)
        · have y2 := ((if_neg h1).trans (if_pos h2)).symm.trans y
          cases y2
          exact tabT b h2
        · cases ((if_neg h1).trans (if_neg h2)).symm.trans y
    · by_cases h1 : b = a
      · exact .inl h1
      · by_cases h2 : b ∈ cs.map (·.2)
        · exact .inr h2
        · exact absurd ((if_neg h1).trans (if_neg h2)) y
theorem law_scrT {g : FD} {qs : List (Str × Addr)} (hq : ∀ p ∈ qs, ct p.1 = some p.2) (nd : (qs.map (·.2)).Nodup) (G : FnG P w K mg base k fa fd [x] (spD K ct 1 g)) (h : ∀ ns : List Int, ns.length ≤ 63 → ∃ S', g [.scr ns] (qs.map fun p => .tab p.1) = some (.bl true, S')) :
    FnG P w K mg base k fa fd [x] (spScrT K (qs.map (·.2))) := by
  refine G.imp fun vs H Q E hs => ?_
  obtain ⟨a, ns, rfl, hS, hl, ht, q⟩ := hs
  obtain ⟨S', h⟩ := h ns hl
  have at_ : ∀ (i : Nat) (b : Addr), (qs.map (·.2))[i]? = some b → H b = some (.tbl #[]) := fun i b hb => ht b (List.mem_of_getElem? hb)
  have keep : ∀ {b : Addr} {o : HO}, H b = some o → (∀ ps, o ≠ .tbl ps) → (if b ∈ qs.map (·.2) then none else H b) = some o := fun {b o} e n => by
    rw [if_neg]
    · exact e
    · intro hm
      rw [ht b hm] at e
      exact n _ (Option.some.inj e).symm
  have hS2 : SqL K (fun b => if b ∈ qs.map (·.2) then none else H b) a (ns.map V.int) := by
    rcases hS with (z | ⟨o, z⟩) | z
    · exact .inl (.inl (keep z fun ps e => by cases e))
    · exact .inl (.inr ⟨o, keep z fun ps e => by cases e⟩)
    · exact .inr z
  refine ⟨rfl, qs.map (·.2), fun b => if b ∈ qs.map (·.2) then none else H b, qs.map fun p => .tab p.1, [.scr ns], .bl true, S', ⟨fun b o e => ?_, by simp, nd, fun b hb => if_pos hb, fun i b c h1 h2 => ?_, fun i b c y h1 h2 h3 => ?_⟩, ⟨_, _, rfl, ⟨a, rfl, hS2⟩, rfl⟩, h, fun m' F' v H' _ _ r => ?_⟩
  · by_cases hb : b ∈ qs.map (·.2)
    · have e : (if b ∈ qs.map (·.2) then none else H b) = some o := e
      rw [if_pos hb] at e
      cases e
    · have e : (if b ∈ qs.map (·.2) then none else H b) = some o := e
      rw [if_neg hb] at e
      exact e
  · rw [List.getElem?_map] at h2
    obtain ⟨p, z1, z2⟩ := map_some h2
    subst z2
    exact ⟨#[], at_ i b h1, trivial, fun pos cv hc => by
      have z : codeAmong pos [] = some cv := hc
      simp [codeAmong] at z⟩
  · rw [List.getElem?_map] at h1 h2
    obtain ⟨p, z1, z2⟩ := map_some h2
    rw [z1] at h1
    cases h1
    subst z2
    cases h3
    exact hq p (List.mem_of_getElem? z1)
  · have r : v = .bl true := r
    rw [r]
    exact q H'
end
theorem walkGT {l : PySem.W.OpenLaw} {k : Nat} {q : Program} {loose : List Str} {XP : (Str → Option Value) → Heap → Prop} {YP : World → Heap → Prop} {d : DefRec} {K : Params → PySem.W.Frag} {x : Str}
    (hn : l.most = some 63) (hdf : d.params.defaults = []) (hr : Room k callerA) (hY : ∀ (w : World) (h : Heap), YP w h → (K w.params).In h)
    (F : ∀ (w : World) (mg : Str → Option Value) (fa : Addr) (h : Heap), YP w h → (K w.params).In h → h.Ns mainGlobals mg → mg d.name = some (.ref fa) →
      ∃ (fd : FuncData) (cs : List (Addr × Addr)), (∀ p ∈ cs, PySem.W.CodeHd h p.1 p.2) ∧ (∀ p ∈ cs, h.get? p.2 = some { cls := .none, data := .fields #[] }) ∧ (∀ p ∈ cs, (K w.params).lookup p.2 = none) ∧ (∀ (z : Shared) (u : Value), BindsTo z fd ⟨[u], []⟩ [(x, u)]) ∧
        ∀ base : Heap, (K w.params).In base → base.Ns mainGlobals mg → (∀ p ∈ cs, LamX.TabB base mg p.1 p.2) → FnG l.prog w (K w.params) mg base k fa fd [x] (spScrT (K w.params) (cs.map (·.2)))) :
    PySem.W.WalkO q loose XP YP l.row.toRowW d [] (fun f vs => PySem.call f vs) := by
  refine Att.attach_call hn hdf fun w s₀ s₁ mg mb fa o pm cd doc a vs ns G Y ho hd hcd hmg hobj hints hlen hg => ?_
  obtain ⟨fd, cs, h1, h2, h3, hb, hF⟩ := F w mg fa _ Y (hY w _ Y) G.T.g hmg
  exact lawT (hY w _ Y) G.T.g G.T.b G.T.builtins G.T.nolimit hg h1 h2 h3 G.T.bmain hobj hints hlen hr hF hb
end DL

namespace DL
open PySem PySem.Spec PyProof.Rows L2
/-! # What the head tells of the errors' classes -/
abbrev tlVE : List Value := [.type "ValueError", .type "Exception", .type "BaseException", .type "object"]
abbrev tlAE : List Value := [.type "ArithmeticError", .type "Exception", .type "BaseException", .type "object"]
def exB (K : PySem.W.Frag) (C : Addr) (tl : List Value) (newId : String) : Bool := match K.lookup C with
  | some ⟨.type "type", _, .cls cd, sl⟩ => (match cd.mro, sl.toList with
    | .ref C' :: bm, [_, _, _, _, some (.builtin n), _] => C' == C && n == newId && !cd.hasDel && refsB tl bm && cd.hasDict
    | _, _ => false)
  | _ => false
theorem exB_cls {K : PySem.W.Frag} {C : Addr} {tl : List Value} {newId : String} (h : exB K C tl newId = true) : ∃ nm q N bs bm sn sub ab col dd k0 k1 k2 k3 k5, K.lookup C = some (excClassObj nm q C N bs bm true sn sub ab col dd k0 k1 k2 k3 k5 newId) ∧ refsB tl bm = true := by
  unfold exB at h
  split at h
  case h_2 => cases h
  rename_i dd cd sl lk
  split at h
  case h_2 => cases h
  rename_i C' bm k0 k1 k2 k3 n k5 hm hs
  simp only [Bool.and_eq_true, beq_iff_eq, Bool.not_eq_true'] at h
  obtain ⟨⟨⟨⟨e1, e2⟩, e3⟩, e4⟩, e5⟩ := h
  obtain ⟨nm, bs, mro, N, q, hd, sn, sub, ab, col, del⟩ := cd
  dsimp only at hm e3 e5
  subst hm e3 e5 e1 e2
  have es : sl = #[k0, k1, k2, k3, some (.builtin n), k5] := by
    obtain ⟨l⟩ := sl
    simp only at hs
    rw [hs]
  subst es
  exact ⟨nm, q, N, bs, bm, sn, sub, ab, col, dd, k0, k1, k2, k3, k5, lk, e4⟩
structure ExAll (K : PySem.W.Frag) (C : Addr) (fs : List Str) (c1 c2 : Addr) (row : List (Addr × Bool)) : Prop where
  oex : OexB K C
  ex : ExcC K C
  xf : XfC K C
  no : ∀ f ∈ fs, PySem.W.findIn K (.ref C) f = some none
  hit : PySem.W.exmAny K (.ref C) [.ref c1, .ref c2] = some true
  kit : ∀ p ∈ row, PySem.W.kitOne K (.ref C) (.ref p.1) = some p.2
def exAllB (K : PySem.W.Frag) (C : Addr) (ve : Bool) (fs : List Str) (c1 c2 : Addr) (row : List (Addr × Bool)) : Bool :=
  (if ve then exB K C tlVE "ValueError.__new__" else exB K C tlAE "ArithmeticError.__new__") && decide (PySem.W.findIn K (.ref C) "__setattr__" = some (some (.builtin "object.__setattr__"))) && decide (PySem.W.subIn K (.ref C) (.type "BaseException") = some true) &&
  decide (PySem.W.typeIn K (.ref C) = some (.type "type")) && PySem.W.keepIn K (.ref C) && decide (PySem.W.findIn K (.ref C) "__getattribute__" = some (some (.builtin "BaseException.__getattribute__"))) && decide (PySem.W.findIn K (.ref C) "__getattr__" = some none) &&
  PySem.W.hasDictIn K C && decide (PySem.W.findIn K (.ref C) "__class__" = some (some (.builtin "object.__class__"))) && decide (PySem.W.specialIn K (.builtin "object.__class__") "__get__" = some (some (.builtin "getset_descriptor.__get__"))) && decide (PySem.W.takesIn K (.builtin "object.__class__") = some true) &&
  decide (PySem.W.mroIn K C (.type "object") = some true) && (fs.all fun f => decide (PySem.W.findIn K (.ref C) f = some none)) && decide (PySem.W.exmAny K (.ref C) [.ref c1, .ref c2] = some true) && row.all fun p => decide (PySem.W.kitOne K (.ref C) (.ref p.1) = some p.2)
theorem exAll_of {K : PySem.W.Frag} {C : Addr} {ve : Bool} {fs : List Str} {c1 c2 : Addr} {row : List (Addr × Bool)} (h : exAllB K C ve fs c1 c2 row = true) : ExAll K C fs c1 c2 row := by
  unfold exAllB at h
  simp only [Bool.and_eq_true, decide_eq_true_eq, List.all_eq_true] at h
  obtain ⟨⟨⟨⟨⟨⟨⟨⟨⟨⟨⟨⟨⟨⟨a1, a2⟩, a3⟩, a4⟩, a5⟩, a6⟩, a7⟩, a8⟩, a9⟩, a10⟩, a11⟩, a12⟩, a13⟩, a14⟩, a15⟩ := h
  refine ⟨⟨?_, a2, a3, a4, a5⟩, ⟨a6, a7, a3, a8, a9, a10, a11, a12⟩, ⟨a6, a7, a3, a8⟩, a13, a14, a15⟩
  cases ve with
  | true =>
    obtain ⟨nm, q, N, bs, bm, sn, sub, ab, col, dd, k0, k1, k2, k3, k5, lk, e⟩ := exB_cls (show exB K C tlVE "ValueError.__new__" = true from a1)
    exact ⟨_, _, _, _, nm, q, N, bs, bm, sn, sub, ab, col, dd, k0, k1, k2, k3, k5, base_VE, lk, e⟩
  | false =>
    obtain ⟨nm, q, N, bs, bm, sn, sub, ab, col, dd, k0, k1, k2, k3, k5, lk, e⟩ := exB_cls (show exB K C tlAE "ArithmeticError.__new__" = true from a1)
    exact ⟨_, _, _, _, nm, q, N, bs, bm, sn, sub, ab, col, dd, k0, k1, k2, k3, k5, base_AE, lk, e⟩
/-! ## what raises them -/
def RaiseAt (K : PySem.W.Frag) (mg : Str → Option Value) (ct : CT) (c : Str) (st : Stmt) (ps fs : List Str) : Prop := ∃ (C fI : Addr) (fd : FuncData) (qual : Str), mg c = some (.ref C) ∧ ct c = some C ∧ OexB K C ∧ PySem.W.findIn K (.ref C) "__init__" = some (some (.ref fI)) ∧
  PySem.W.typeIn K (.ref fI) = some (.type "function") ∧ Binds K fd ps [] ∧ Fun K "__init__" qual st fI fd ∧ ∀ f ∈ fs, PySem.W.findIn K (.ref C) f = some none
def RaiserM (P : Program) (w : World) (K : PySem.W.Frag) (mg : Str → Option Value) (base : Heap) (ct : CT) (k : Nat) (c : Str) (fs : List Str) : Prop := ∃ j, j + 1 ≤ k ∧ Raiser P w K mg base ct j c fs
section
variable {P : Program} {w : World} {K : PySem.W.Frag} {mg : Str → Option Value} {base : Heap} {ct : CT} {c : Str} {st : Stmt} {p1 p2 p3 p4 p5 p6 p7 p8 : Pos}
theorem RaiserM.mono {j k : Nat} {fs : List Str} (r : RaiserM P w K mg base ct j c fs) (h : j ≤ k) : RaiserM P w K mg base ct k c fs := by
  obtain ⟨i, h1, h2⟩ := r
  exact ⟨i, by omega, h2⟩
theorem raiser1 {f : Str} (T : RaiseAt K mg ct c st ["self", f] [f]) (S : FnScope ["self", f] ["self", f] (defScope st)) (hb : defBody st = [.Assign [.Attribute (.Name "self" p1) f p2] (.Name f p3) p4]) (v1 : Vis (defScope st) "self") (v2 : Vis (defScope st) f)
    (d2 : (f == ("__debug__" : Str)) = false := by decide) (d4 : (f == ("__classdict__" : Str)) = false := by decide) : RaiserM P w K mg base ct 2 c [f] := by
  obtain ⟨C, fI, fd, qual, h1, h2, h3, h4, h5, h6, h7, h8⟩ := T
  exact ⟨1, Nat.le_refl _, C, fI, fd, _, h1, h2, h3, h4, h5, h6, .inl ⟨f, rfl, h8 f (by simp), init1_ok (k := 0) h7 S hb v1 v2 (by decide) d2 (by decide) d4⟩⟩
theorem raiser2 {f g : Str} (T : RaiseAt K mg ct c st ["self", f, g] [g, f]) (S : FnScope ["self", f, g] ["self", f, g] (defScope st)) (hb : defBody st = [.Assign [.Attribute (.Name "self" p1) f p2] (.Name f p3) p4, .Assign [.Attribute (.Name "self" p5) g p6] (.Name g p7) p8])
    (v1 : Vis (defScope st) "self") (v2 : Vis (defScope st) f) (v3 : Vis (defScope st) g) (d2 : (f == ("__debug__" : Str)) = false := by decide) (d4 : (f == ("__classdict__" : Str)) = false := by decide) (d5 : (g == ("__debug__" : Str)) = false := by decide) (d6 : (g == ("__classdict__" : Str)) = false := by decide) : RaiserM P w K mg base ct 2 c [g, f] := by
  obtain ⟨C, fI, fd, qual, h1, h2, h3, h4, h5, h6, h7, h8⟩ := T
  exact ⟨1, Nat.le_refl _, C, fI, fd, _, h1, h2, h3, h4, h5, h6, .inr ⟨f, g, rfl, h8 f (by simp), h8 g (by simp), init2_ok (k := 0) h7 S hb v1 v2 v3 (by decide) d2 (by decide) d4 d5 d6⟩⟩
end
section
variable {ct : CT} {X : Cx} {E : XK} {k : Nat} {c : Str} {fs : List Str} {e : Expr} {es : List Expr} {fas : FA} {p pos pos' : Pos}
theorem xs_raiseM (R : RaiserM X.prog X.w X.K X.mg X.base ct k c fs) (hc : X.calm = true) (tk : Lets X E) (hr : RoomG k X.A) (hg : Gl X c) (ha : SA ct X (e :: es) fas) (hdb : (c == ("__debug__" : Str)) = false := by decide)
    (hst : starEach (e :: es) X.env = (false, eval e X.env) :: starEach es X.env := by rfl) (hpl : (backTo pos (starEach es X.env)).any (·.1) = false := by rfl) : XS1 ct X E (.Raise (some (.Call (.Name c p) (e :: es) [] pos)) none pos') (xRaise c fs fas) := by
  obtain ⟨j, hj, R⟩ := R
  exact xs_raise R hc tk (hr.mono hj) hg ha hdb hst hpl
theorem lets_lam {Y : Cx} {A : Around} {outer : List Env} {s : Shared} {H : Hp} {E : XK} {scope : Scope} {f c' : Addr} : Lets (LamX.lamCx Y A outer s H E scope f c') E := takes_of rfl rfl rfl rfl
theorem call_reprQ {k : Nat} (hr : RoomQ k X.A) : CallR X (.builtin "repr") (rRepr X.K) := by
  intro pins s σ H xs us Q I r h
  obtain ⟨v, pd, rfl, hd, ⟨h1, h2, h3, h4⟩, q⟩ := h
  obtain ⟨u, rfl, ru⟩ := vals1 r
  obtain ⟨as, rd⟩ := Dp.reads I pd v u hd ru
  have hu : X.A.units + (pd.depth + 1) < cLine := by
    have := hr.units
    omega
  have main : ∀ a, u = .ref a → wpAny (model X.prog X.w) X.A (call (.builtin "repr") [u]) (EP X pins σ Q) X.xe s := by
    rintro a rfl
    exact repr_of_reads' (h₀ := s.heap) rd h1 (PyData.noDict_hsm h2) hr.gd hu (fun _ _ e => e) (fun h' w tk hk => ⟨.str _, H, I.kept hk, ⟨_, rfl⟩, q⟩) h4
  cases hd with
  | non => obtain rfl : u = .none := ru; exact PySem.P.repr_of_none ⟨.str _, H, I.tok _, ⟨_, rfl⟩, q⟩
  | bl b => obtain rfl : u = .bool b := ru; exact PySem.P.repr_of_bool ⟨.str _, H, I.tok _, ⟨_, rfl⟩, q⟩
  | int i => obtain ⟨t, rfl⟩ := ru; exact PySem.P.repr_of_int (of_decide_eq_true h1) ⟨.str _, H, I.tok _, ⟨_, rfl⟩, q⟩
  | str y => obtain ⟨t, rfl⟩ := ru; exact PySem.P.repr_of_str ⟨.str _, H, I.tok _, ⟨_, rfl⟩, q⟩ h4
  | tup _ _ => exact main _ ru
  | lst _ _ => exact main _ ru
end
/-- the name under which a def's lambdas go -/
abbrev lamQ (x : Str) : Str := x ++ ".<locals>." ++ "<lambda>"
/-! ## repr, the empty dict too -/
def rReprA (K : PySem.W.Frag) : List V → Hp → VK → Prop := fun xs H Q => rRepr K xs H Q ∨ ∃ a, xs = [.ref a] ∧ H a = some (.dK []) ∧ Q (.str "{}") H
theorem call_reprA {X : Cx} {k : Nat} (hr : RoomQ k X.A) : CallR X (.builtin "repr") (rReprA X.K) := by
  intro pins s σ H xs us Q I r h
  rcases h with h | ⟨a, rfl, ha, q⟩
  · exact call_reprQ hr pins s σ H xs us Q I r h
  · obtain ⟨u, rfl, ru⟩ := vals1 r
    have ru : u = Value.ref a := ru
    subst ru
    obtain ⟨_, hm, vs, kv, o, es, ep, e1, e2, e3, e4, e5, e6⟩ := I.hok a _ ha
    cases kv
    have he : es.toList = [] := by
      cases hl : es.toList with
      | nil => rfl
      | cons y r =>
        rw [hl] at e5
        cases e5
    have rd : Reads s.heap (.ref a) (.dict []) (a :: [] ++ []) := .dict e1 e2.1 e3 (by rw [he]; exact .nil) (by rw [he]; exact .nil)
    exact repr_of_reads' (h₀ := s.heap) rd (by decide +kernel) (fun _ z => by
      rw [List.append_nil, List.mem_singleton] at z
      rw [z] at hm
      simp at hm) hr.gd (by have := hr.units; show X.A.units + (PyData.depth (.dict []) + 1) < cLine; rw [show PyData.depth (.dict []) = 1 from by decide +kernel]; omega) (fun _ _ e => e) (fun h' w tk hk => ⟨.str _, H, I.kept hk, ⟨_, rfl⟩, q⟩) (by decide +kernel)
def cReprA : FD
  | [.dct [] []], S => some (.str "{}", S)
  | ds, S => cRepr ds S
theorem cd_reprA {ct : CT} {K : PySem.W.Frag} : CallD ct K (rReprA K) cReprA := by
  intro m F S H xs ds d S' Q s r h p
  unfold cReprA at h
  split at h
  · cases h
    obtain ⟨v, e1, e2⟩ := reps1 r
    obtain ⟨a, vs, q1, q2, q3, q4⟩ := e2
    have q4 : vs = [] := q4
    subst q4 q1 e1
    exact .inr ⟨a, rfl, s.same _ _ q2, p.now s rfl⟩
  · exact .inl (cd_repr m F S H xs _ d S' Q s r h p)
theorem CalleeQ.mono {P : Program} {w : World} {K : PySem.W.Frag} {mg : Str → Option Value} {base : Heap} {ct : CT} {j k n : Nat} {x : Str} {g : FD} (c : CalleeQ P w K mg base ct j x n g) (h : j ≤ k) : CalleeQ P w K mg base ct k x n g := by
  obtain ⟨f, fd, ps, h1, h2, h3, h4⟩ := c
  exact ⟨f, fd, ps, h1, h2, h3, h4.len, fun A o s H ar us vs Q E r => h4.run A o s H ar us vs Q E (r.mono h)⟩
theorem ToldOk.mono {P : Program} {w : World} {K : PySem.W.Frag} {mg : Str → Option Value} {base : Heap} {ct : CT} {j k : Nat} {tn : Str} {cs : List Str} {gs ga : FD} (c : ToldOk P w K mg base ct j tn cs gs ga) (h : j ≤ k) : ToldOk P w K mg base ct k tn cs gs ga := by
  obtain ⟨st, g, fd, c1, c2, h1, h2, h3, h4, h5, h6, h7, h8, h9⟩ := c
  exact ⟨st, g, fd, c1, c2, h1, h2, h3, h4, h5, h6, h7, h8.mono h, h9.mono h⟩
end DL

namespace DL
open PySem PySem.Spec PyProof.Rows L2
/-! # A list's cell compared with a list -/
def drf (S : Sto) : D → D
  | .ref k => match S[k]? with
    | some (.lst ds) => .lst ds
    | _ => .ref k
  | d => d
theorem drf_dp {K : PySem.W.Frag} {ct : CT} {m : List Addr} {F H : Hp} {S : Sto} {d : D} {v : V} {p : PyData} (s : Sim K ct m F S H) (r : Rep K ct m F d v) (h : toP (drf S d) = some p) : Dp K H v p := by
  cases d with
  | ref k =>
    unfold drf at h
    dsimp only at h
    split at h
    · rename_i ds hk
      obtain ⟨a, e1, e2⟩ := r
      obtain ⟨vs, q1, q2⟩ := s.cell _ a _ e1 hk
      subst e2
      obtain ⟨ps, z1, z2⟩ := map_some (show (toPs ds).map PyData.list = _ from h)
      subst z2
      exact .lst (SqL.of q1) (Reps.dp s.same ds vs ps q2 z1)
    · cases h
  | _ => exact Rep.dp s.same _ v p r h
def gNeR : D → D → Sto → Option (D × Sto) := fun x y S => (eqDeep true (drf S x) (drf S y)).map fun d => (d, S)
def gEqR : D → D → Sto → Option (D × Sto) := fun x y S => (eqDeep false (drf S x) (drf S y)).map fun d => (d, S)
section
variable {K : PySem.W.Frag} {ct : CT}
theorem od_neR : OpD ct K (rNeAll K) gNeR := by
  intro m F S H x y dx dy d S' Q s rx ry h p
  obtain ⟨z, h1, h2⟩ := map_some h
  cases h2
  obtain ⟨u, g1, h⟩ := bind_some h1
  obtain ⟨w, g2, h⟩ := bind_some h
  split at h
  case isFalse => cases h
  rename_i hs
  cases h
  exact .inr ⟨u, w, drf_dp s rx g1, drf_dp s ry g2, hs.1, hs.2, p.now s rfl⟩
theorem od_eqR : OpD ct K (rEqAll K) gEqR := by
  intro m F S H x y dx dy d S' Q s rx ry h p
  obtain ⟨z, h1, h2⟩ := map_some h
  cases h2
  obtain ⟨u, g1, h⟩ := bind_some h1
  obtain ⟨w, g2, h⟩ := bind_some h
  split at h
  case isFalse => cases h
  rename_i hs
  cases h
  exact .inr ⟨u, w, drf_dp s rx g1, drf_dp s ry g2, hs.1, hs.2, p.now s rfl⟩
end
end DL

namespace DL
open PySem PySem.Spec PyProof.Rows L2
/-! # enumerate of a tuple -/
set_option maxHeartbeats 1000000 in
theorem meets_enumerate_new1 {v : Value} {o : Obj} {H : Heap → Prop} (B : Begins v o H) :
    Meets (Builtin.«enumerate.__new__» ⟨[.type "enumerate", v], []⟩) (fun _ R s => H s.heap ∧
      R (.ok (.ret (.ref (s.heap.push o).objs.size))) { s with heap := (s.heap.push o).push { cls := .type "enumerate", data := .fields #[.none, .bool false, .ref s.heap.objs.size, rawInt 0, .none, .none] } }) :=
  .of_wp fun prog w A R s h => by
    obtain ⟨hp, g, d, tk, os⟩ := s; obtain ⟨h1, h⟩ := h
    have hsub := sub_enumerate
    have q1 : ∀ {A' : Around} {E : Value → Shared → Prop} {Q : Value → Shared → Prop}, Q (.ref hp.objs.size) ⟨hp.push o, g, d, tk, os⟩ → wpAny (model prog w) A' (pyIter v) Q E ⟨hp, g, d, tk, os⟩ :=
      fun q => B.iter prog w _ _ ⟨hp, g, d, tk, os⟩ _ h1 q
    wp_walk using q1
    refine wpAny_stack_any fun st => wpAny_pure ?_
    split
    · rename_i c _ _ _ _ _
      cases (c == Value.type "enumerate")
      · wp_walk using q1
        exact ⟨_, rfl, h⟩
      · wp_walk using q1
        exact ⟨_, rfl, h⟩
    · wp_walk using q1
      exact ⟨_, rfl, h⟩
theorem enum_begin1 {prog : Program} {w : World} {A : Around} {E : Value → Shared → Prop} {s : Shared} {v : Value} {o : Obj} {H : Heap → Prop} {Q : Value → Shared → Prop} (B : Begins v o H) (h1 : H s.heap)
    (h : ∀ h', IsEnum h' (s.heap.objs.size + 1) s.heap.objs.size 0 .none → h'.get? s.heap.objs.size = some o → h'.objs.size = s.heap.objs.size + 2 →
      (∀ b o, s.heap.get? b = some o → h'.get? b = some o) → Q (.ref (s.heap.objs.size + 1)) { s with heap := h' }) :
    wpAny (model prog w) A (call (.type "enumerate") [v]) Q E s := by
  refine callType_new F.called_enumerate (by decide) (F.typeCall_enumerate_1 _) (F.newCall_enumerate_1 _) (fun obj => F.args_object_init_2 obj _) F.entry_enumerate_new
    (meets_enumerate_new1 B) ⟨h1, ?_⟩
  have hz : (s.heap.push o).objs.size = s.heap.objs.size + 1 := Heap.size_push ..
  show _ ∧ _
  rw [hz]
  have he : IsEnum ((s.heap.push o).push { cls := .type "enumerate", data := .fields #[.none, .bool false, .ref s.heap.objs.size, rawInt 0, .none, .none] }) (s.heap.objs.size + 1) s.heap.objs.size 0 .none := by
    have := Heap.get?_push_size (s.heap.push o) (o := { cls := .type "enumerate", data := .fields #[.none, .bool false, .ref s.heap.objs.size, rawInt 0, .none, .none] }) rfl
    rw [hz] at this; exact this
  refine ⟨⟨_, he, rfl⟩, h _ he (Heap.get?_push_of_some _ (Heap.get?_push_size _ B.free)) (by rw [Heap.size_push, hz]) fun b o x => Heap.get?_push_of_some _ (Heap.get?_push_of_some _ x)⟩
/-- the tuple at a, each item in a new pair -/
def IteT (K : PySem.W.Frag) (a : Addr) (xs : List V) : It :=
  ⟨fun i H => SqT K H a xs ∧ i < xs.length, fun i H v H' => ∃ T x, v = .ref T ∧ H T = none ∧ H' = upd H T (.tup [.int (i : Nat), x]) ∧ xs[i]? = some x, fun i H => SqT K H a xs ∧ xs.length = i⟩
theorem turn_enumT {P : Program} {w : World} {K : PySem.W.Frag} {elts : List Expr} {kk : Nat} {tpos : Pos} (a e it : Addr) (xs : List V) :
    Turn P w K (.Tuple elts kk tpos) (IteT K a xs) [e, it] e (fun i h => (∃ old, IsEnum h e it ((i : Nat) : Int) old) ∧ h.IsTupleIter it a i ∧ e ≠ it ∧ e ≠ a ∧ a ≠ it) where
  mem := by simp
  obj := fun i h st b hb => by
    obtain ⟨⟨old, he⟩, ⟨o, ho, hc, hd⟩, _⟩ := st
    have e' : b = e ∨ b = it := by simpa using hb
    rcases e' with z | z
    · rw [z]; exact ⟨_, he, fun v q => nomatch q⟩
    · rw [z]; exact ⟨o, ho, fun v q => by rw [hd] at q; cases q⟩
  keep := fun i h h' st k => let ⟨⟨old, he⟩, hi, hne⟩ := st; ⟨⟨old, k e (by simp) _ he⟩, hi.at fun o q => k it (by simp) o q, hne⟩
  item := by
    intro X hP hw hK hc i pins s σ H E I hf st hg
    subst hP hw hK
    obtain ⟨⟨old, he⟩, hit, hne, hea, hai⟩ := st
    obtain ⟨hq, hi⟩ := hg
    obtain ⟨its, rv, p, hz⟩ := I.tuple hq
    have hl := rv.length
    have hel : e < s.heap.objs.size := Heap.lt_size he
    have hil : it < s.heap.objs.size := by obtain ⟨_, q, _⟩ := hit; exact Heap.lt_size q
    refine wpAny_pyNext_enum_itemD (Draws.tuple (A := X.A.in1) (I.ok.hd hc) it a hai its.toArray) he ⟨hit, p⟩ (by simp; omega) hne (by simp [hne, hea]) fun x h' tk hP ho hs' hT hsz hk => ?_
    obtain ⟨y, hy⟩ : ∃ y, xs[i]? = some y := ⟨_, List.getElem?_eq_getElem hi⟩
    obtain ⟨u, hu, ru⟩ := rv.get hy
    have ex : x = u := by
      have hP : its.toArray[i]? = some x := hP
      have : its[i]? = some x := by simpa using hP
      rw [hu] at this
      exact (Option.some.inj this).symm
    subst ex
    refine ⟨_, rfl, wpAny_letOwnedTupleGo_enum (s := { s with heap := h', toks := tk + 1 }) ho fun h'' he' sb => ?_⟩
    have hT2 : h''.get? s.heap.objs.size = some { cls := .type "tuple", data := .seq #[.int i tk, x] } := (sb.2 _ (Nat.ne_of_gt hel)).trans hT
    have new : ObjOk X.prog X.w (upd H s.heap.objs.size (.tup [.int (i : Nat), y])) h'' s.heap.objs.size (.tup [.int (i : Nat), y]) :=
      ⟨by show 2 ≤ sizeLine; decide, [.int i tk, x], .cons ⟨_, rfl⟩ (.cons ru .nil), ⟨_, hT2, rfl, _, rfl⟩⟩
    have I1 : Inv X pins σ (upd H s.heap.objs.size (.tup [.int (i : Nat), y])) { s with heap := h'', toks := tk + 1 } :=
      I.turnedNew (ch := [e, it]) (fun b ob hb q => (sb.2 b (fun z => hb (by simp [z]))).trans (hk b ob (fun z => hb (by simp [z])) (fun z => hb (by simp [z])) q)) hf (Nat.le_refl _) new
    refine ⟨.ref s.heap.objs.size, _, I1, rfl, ⟨_, y, rfl, I.hok.fresh (Nat.le_refl _), rfl, hy⟩, ⟨⟨x, ?_⟩, hs'.1.at fun o q => (sb.2 it (Ne.symm hne)).trans q, hne, hea, hai⟩, fun b hb => ?_⟩
    · have e1 : ((i + 1 : Nat) : Int) = (i : Int) + 1 := by omega
      rw [e1]; exact he'
    · have hb' : b < s.heap.objs.size := by
        have e' : b = e ∨ b = it := by simpa using hb
        rcases e' with z | z
        · rw [z]; exact hel
        · rw [z]; exact hil
      rw [upd_ne (Nat.ne_of_lt hb')]
      exact (hf b hb).1
  done := by
    intro X hP hw hK hc i pins s σ H E I hf st hg
    subst hP hw hK
    obtain ⟨⟨old, he⟩, hit, hne, hea, hai⟩ := st
    obtain ⟨hq, hx⟩ := hg
    obtain ⟨its, rv, p, hz⟩ := I.tuple hq
    obtain ⟨f0, f1, f2, f3, f4, f5⟩ := hf it (by simp)
    have hl := rv.length
    subst hx
    refine wpAny_pyNext_enum_endD (Draws.tuple (A := X.A.in1) (I.ok.hd hc) it a hai its.toArray) he ?_ fun h' eb => ⟨rfl, I.turned (t' := s.toks) (fun b o hb q => eb b o hb q) f0 f1 f3 f4 f5⟩
    exact ⟨by rw [show its.toArray.size = xs.length by simp [hl]]; exact hit, p⟩
  self := fun A i s Q E st h => let ⟨⟨_, he⟩, _⟩ := st; wpAny_pyIter_enum he h
def iEnumT (K : PySem.W.Frag) (ta : TA) : TI := fun σ H R => ta σ H fun vs H1 => ∃ a xs, vs = [.ref a] ∧ SqT K H1 a xs ∧ R (IteT K a xs) H1
theorem pi_enumT {X : Cx} {e : Expr} {ta : TA} {p pos tpos : Pos} {elts : List Expr} {kk : Nat} (hg : Gl X "enumerate") (hm : X.mg "enumerate" = none) (ha : PA X [e] ta) (hs : starEach [e] X.env = [(false, eval e X.env)] := by rfl) :
    PI X (.Tuple elts kk tpos) (.Call (.Name "enumerate" p) [e] [] pos) (iEnumT X.K ta) := by
  refine ⟨fun pins s σ H R I h => ?_⟩
  refine Call_ (ld_blt I hg hm boot_enumerate (PyProof.Rows.callWith_type1 (thn (ha.run pos pins s σ H _ I h) fun us s1 ⟨vs, H1, I1, r1, q1⟩ => ?_) hs rfl))
  obtain ⟨a, xs, ex, hq, q⟩ := q1
  subst ex
  cases r1 with
  | cons r rr =>
    cases rr
    cases r
    obtain ⟨its, rv, p', hz⟩ := I1.tuple hq
    have la : a < s1.heap.objs.size := by obtain ⟨_, q, _⟩ := p'; exact Heap.lt_size q
    refine enum_begin1 (begins_tuple a its.toArray) p' fun h' he hit hsz hk => wpAny_pyIter_enum he ?_
    have I2 : Inv X pins σ H1 { s1 with heap := h' } := I1.kept (t' := s1.toks) hk
    refine ⟨s1.heap.objs.size + 1, [s1.heap.objs.size + 1, s1.heap.objs.size], _, _, H1, rfl, I2, turn_enumT a (s1.heap.objs.size + 1) s1.heap.objs.size xs, ⟨⟨.none, he⟩, ⟨_, hit, rfl, rfl⟩, Nat.succ_ne_self _, Nat.ne_of_gt (Nat.lt_succ_of_lt la), Nat.ne_of_lt la⟩, fun b hb => ?_, q⟩
    have e' : b = s1.heap.objs.size + 1 ∨ b = s1.heap.objs.size := by simpa using hb
    have hle : s1.heap.objs.size ≤ b := by
      rcases e' with z | z
      · rw [z]; exact Nat.le_add_right _ _
      · rw [z]; exact Nat.le_refl _
    exact I1.fpOk hle (I1.hok.fresh hle)
/-! ## at data -/
def enumD : Nat → List D → List D
  | _, [] => []
  | i, d :: ds => .tup [.int (i : Nat), d] :: enumD (i + 1) ds
theorem enumD_get : ∀ (ds : List D) (k i : Nat), (enumD k ds)[i]? = (ds[i]?).map fun d => D.tup [.int ((k + i : Nat) : Int), d]
  | [], k, i => by simp [enumD]
  | d :: ds, k, 0 => by simp [enumD]
  | d :: ds, k, i + 1 => by
    have := enumD_get ds (k + 1) i
    simp only [enumD, List.getElem?_cons_succ, this]
    congr 1
    funext d
    congr 4
    omega
theorem enumD_len : ∀ (ds : List D) (k : Nat), (enumD k ds).length = ds.length
  | [], k => rfl
  | d :: ds, k => by simp [enumD, enumD_len ds (k + 1)]
def iEnum (fi : FA) : FA := fun env S => (fi env S).bind fun p => some (enumD 0 p.1, p.2)
section
variable {ct : CT} {X : Cx} {e : Expr} {f : FE} {elts : List Expr} {kk : Nat} {p pos tpos : Pos}
theorem pair_new {K : PySem.W.Frag} {m : List Addr} {F H : Hp} {S : Sto} {i : Nat} {T : Addr} {d : D} {v : V} (s : Sim K ct m F S H) (hT : H T = none) (r : Rep K ct m F d v) :
    ∃ F', Ext m F H m F' (upd H T (.tup [.int (i : Nat), v])) ∧ Sim K ct m F' S (upd H T (.tup [.int (i : Nat), v])) ∧ Rep K ct m F' (.tup [.int (i : Nat), d]) (.ref T) := by
  obtain ⟨s2, x2⟩ := s.frozen hT (.tup [.int (i : Nat), v])
  exact ⟨_, x2, s2, T, _, rfl, SqT.of upd_same, _, _, rfl, rfl, _, _, rfl, r.mono x2, rfl⟩
theorem si_enumT (hg : Gl X "enumerate") (hm : X.mg "enumerate" = none) (h : SE ct X e f) (hs : starEach [e] X.env = [(false, eval e X.env)] := by rfl) : SI ct X (.Tuple elts kk tpos) (.Call (.Name "enumerate" p) [e] [] pos) (iEnum (iTup f)) := by
  obtain ⟨ta, pa, ra⟩ := h
  refine ⟨_, pi_enumT hg hm (pa_cons pa pa_nil hs) hs, fun m F S σ H env items S' R s en h p => ?_⟩
  obtain ⟨⟨its, S0⟩, h0, h⟩ := bind_some h
  cases h
  obtain ⟨⟨z, S1⟩, h1, h⟩ := bind_some h0
  refine ra m F S σ H env z S1 _ s en h1 fun m1 F1 v1 H1 x1 s1 r1 => ?_
  cases z with
  | tup ds =>
    cases h
    obtain ⟨q, vs, e1, e2, e3⟩ := r1
    refine ⟨q, vs, by rw [e1], sqT_mono s1.same e2, p m1 F1 _ H1 x1 s1 fun i m2 F2 S2 H2 x2 s2 => ?_⟩
    have hq : SqT X.K H2 q vs := sqT_mono s2.same (sqT_mono x2.same e2)
    refine ⟨fun d hd => ?_, fun hl => ⟨hq, by rw [enumD_len] at hl; rw [← e3.length]; exact hl⟩⟩
    rw [enumD_get] at hd
    obtain ⟨d', hd', rfl⟩ := map_some hd
    obtain ⟨v, g1, g2⟩ := e3.get hd'
    refine ⟨⟨hq, (List.getElem?_eq_some_iff.mp g1).1⟩, fun x H' y => ?_⟩
    obtain ⟨T, y0, y1, y2, y3, y4⟩ := y
    subst y1 y3
    rw [g1] at y4
    cases y4
    rw [Nat.zero_add]
    exact pair_new s2 y2 (g2.mono0 x2)
  | _ => cases h
theorem si_enumL (hg : Gl X "enumerate") (hm : X.mg "enumerate" = none) (h : SE ct X e f) (hs : starEach [e] X.env = [(false, eval e X.env)] := by rfl) : SI ct X (.Tuple elts kk tpos) (.Call (.Name "enumerate" p) [e] [] pos) (iEnum (iLst f)) := by
  obtain ⟨ta, pa, ra⟩ := h
  refine ⟨_, pi_enum hg hm (pa_cons pa pa_nil hs) hs, fun m F S σ H env items S' R s en h p => ?_⟩
  obtain ⟨⟨its, S0⟩, h0, h⟩ := bind_some h
  cases h
  obtain ⟨⟨z, S1⟩, h1, h⟩ := bind_some h0
  refine ra m F S σ H env z S1 _ s en h1 fun m1 F1 v1 H1 x1 s1 r1 => ?_
  cases z with
  | lst ds =>
    cases h
    obtain ⟨q, vs, e1, e2, e3⟩ := r1
    refine ⟨q, vs, by rw [e1], SqL.of (s1.same _ _ e2), p m1 F1 _ H1 x1 s1 fun i m2 F2 S2 H2 x2 s2 => ?_⟩
    have hq : SqL X.K H2 q vs := SqL.of (s2.same _ _ (x2.same _ _ e2))
    refine ⟨fun d hd => ?_, fun hl => ⟨vs, hq, by rw [enumD_len] at hl; rw [← e3.length]; exact Nat.le_of_eq hl⟩⟩
    rw [enumD_get] at hd
    obtain ⟨d', hd', rfl⟩ := map_some hd
    obtain ⟨v, g1, g2⟩ := e3.get hd'
    refine ⟨⟨vs, v, hq, g1⟩, fun x H' y => ?_⟩
    obtain ⟨T, y0, y1, y2, y3, y4⟩ := y
    subst y1 y3
    have y4 := y4 vs hq
    rw [g1] at y4
    cases y4
    rw [Nat.zero_add]
    exact pair_new s2 y2 (g2.mono0 x2)
  | _ => cases h
end
end DL

namespace DL
open PySem PySem.Spec PyProof.Rows L2
/-! # list comprehensions with two clauses -/
def tI (ct : CT) (K : PySem.W.Frag) (fi : FA) : TI := fun σ H R => ∃ m F S env items S', Sim K ct m F S H ∧ EnvR K ct m F env σ ∧ fi env S = some (items, S') ∧ ∀ m' F' J H', Ext m F H m' F' H' → Sim K ct m' F' S' H' → ItOk ct K m' F' items J → R J H'
theorem SI.pi {ct : CT} {X : Cx} {tg iter : Expr} {fi : FA} (h : SI ct X tg iter fi) : PI X tg iter (tI ct X.K fi) := by
  obtain ⟨wi, p, r⟩ := h
  exact ⟨fun pins s σ H R I ⟨m, F, S, env, items, S', s1, en, h1, p1⟩ => p.run pins s σ H R I (r m F S σ H env items S' R s1 en h1 p1)⟩
theorem EnvR.mono0 {K : PySem.W.Frag} {ct : CT} {m m' : List Addr} {F F' : Hp} {env : DEnv} {σ : L2.St} (h : EnvR K ct m F env σ) (x : Ext0 m F m' F') : EnvR K ct m' F' env σ :=
  ⟨h.1, fun i d q => let ⟨v, h1, h2⟩ := h.2 i d q; ⟨v, h1, h2.mono0 x⟩⟩
theorem Ext0.refl (m : List Addr) (F : Hp) : Ext0 m F m F := ⟨fun _ _ h => h, Same.refl _⟩
def lc2D (g : FG) (t : FT) (fi1 : FA) (g1 : FG) (t1 : FT) (f : FE) (vs1 : List Nat) (env : DEnv) : List D → Sto → Option (List D × Sto)
  | [], S => some ([], S)
  | x :: xs, S => (g x env S).bind fun p => (t p.1 p.2).bind fun b => if b.1 = true then (fi1 p.1 b.2).bind fun q => if q.1.length ≤ 1000 then (lcD g1 t1 f (wipeD p.1 vs1) q.1 q.2).bind fun y => (lc2D g t fi1 g1 t1 f vs1 env xs y.2).bind fun r => some (y.1 ++ r.1, r.2) else none else lc2D g t fi1 g1 t1 f vs1 env xs b.2
def fLc2 (fi : FA) (g : FG) (t : FT) (fi1 : FA) (g1 : FG) (t1 : FT) (f : FE) (vs vs1 : List Nat) : FE := fun env S => (fi env S).bind fun p => if p.1.length ≤ 10000 then (lc2D g t fi1 g1 t1 f vs1 (wipeD env vs) p.1 p.2).bind fun r => some (.lst r.1, r.2) else none
section
variable {ct : CT} {X : Cx}
theorem lc2_run {fi fi1 : FA} {g g1 : FG} {gt gt1 : FT} {fe : FE} {wi : TI} {own vs1 : List Nat} {m : List Addr} {F H : Hp} {S S' : Sto} {σ : L2.St} {env : DEnv} {d : D} {Q : VK}
    (ri : ∀ m F S σ H env items S' R, Sim X.K ct m F S H → EnvR X.K ct m F env σ → fi env S = some (items, S') → (∀ m' F' J H', Ext m F H m' F' H' → Sim X.K ct m' F' S' H' → ItOk ct X.K m' F' items J → R J H') → wi σ H R)
    (s : Sim X.K ct m F S H) (en : EnvR X.K ct m F env σ) (h : fLc2 fi g gt fi1 g1 gt1 fe own vs1 env S = some (d, S')) (p : PostE ct X.K m F H S' d Q) :
    tLc2 wi (tGw ct X.K own g) (tT ct X.K gt) (tI ct X.K fi1) (tGw ct X.K vs1 g1) (tT ct X.K gt1) (tE ct X.K fe) own vs1 σ H Q := by
  obtain ⟨⟨items, S1⟩, h1, h⟩ := bind_some h
  split at h
  case isFalse => cases h
  rename_i hlen
  have hlen : items.length ≤ 10000 := hlen
  obtain ⟨⟨out, S9⟩, h2, h⟩ := bind_some h
  cases h
  refine ri m F S σ H env items S1 _ s en h1 fun m1 F1 J H1 x1 s1 ok => fun L hL => ?_
  have nL1 : L ∉ m1 := fun hm => by
    obtain ⟨o, q⟩ := s1.there hm
    rw [hL] at q; cases q
  have fL1 : F1 L = none := by
    cases e : F1 L with
    | none => rfl
    | some o => rw [s1.same _ _ e] at hL; cases hL
  refine ⟨fun i k H' => k = items.length - i ∧ i ≤ items.length ∧ ∃ m' F' S2 accV accD rest, Ext m1 F1 H1 m' F' H' ∧ Sim X.K ct m' F' S2 H' ∧ H' L = some (.lst accV) ∧ L ∉ m' ∧ F' L = none ∧ Reps X.K ct m' F' accD accV ∧ accD.length ≤ i * 1000 ∧
      lc2D g gt fi1 g1 gt1 fe vs1 (wipeD env own) (items.drop i) S2 = some (rest, S9) ∧ out = accD ++ rest,
    ⟨_, rfl, Nat.zero_le _, m1, F1, S1, [], [], out, (Ext.refl _ _ _).put hL _, s1.hidden nL1 fL1 _, upd_same, nL1, fL1, rfl, Nat.le_refl _, h2, rfl⟩, ?_⟩
  rintro i k H' ⟨rfl, hle, m', F', S2, accV, accD, rest, x', s', hH, nL, fL, rp, hal, hlc, eo⟩
  have en' : EnvR X.K ct m' F' (wipeD env own) (wipe σ own) := ((en.mono x1).mono x').wipe own
  have okk : (∀ d, items[i]? = some d → J.go i H' ∧ ∀ x H1, J.yld i H' x H1 → ∃ F1, Ext m' F' H' m' F1 H1 ∧ Sim X.K ct m' F1 S2 H1 ∧ Rep X.K ct m' F1 d x) ∧ (items.length = i → J.stop i H') := ok i m' F' S2 H' x'.e0 s'
  cases hd : items.drop i with
  | nil =>
    rw [hd] at hlc
    cases hlc
    have hl : items.length = i := by
      have := congrArg List.length hd
      simp at this
      omega
    refine .inl ⟨okk.2 hl, p m' (upd F' L (.lst accV)) (.ref L) H' (x1.trans (x'.freeze hL fL _)) (s'.freeze nL fL hH) ⟨L, accV, rfl, upd_same, ?_⟩⟩
    rw [eo, List.append_nil]
    exact Reps.mono' (fun _ _ q => q) (same_upd fL _) _ _ rp
  | cons a r =>
    rw [hd] at hlc
    obtain ⟨q1, q2⟩ := drop_cons hd
    have hlt : i < items.length := (List.getElem?_eq_some_iff.mp q1).1
    obtain ⟨go, yl⟩ := okk.1 a q1
    obtain ⟨⟨env1, S3⟩, h3, hlc⟩ := bind_some hlc
    obtain ⟨⟨b4, S4⟩, h4, hlc⟩ := bind_some hlc
    refine .inr ⟨go, fun H5 => ∃ m5 F5 S5 accV accD rest, Ext m1 F1 H1 m5 F5 H5 ∧ Sim X.K ct m5 F5 S5 H5 ∧ H5 L = some (.lst accV) ∧ L ∉ m5 ∧ F5 L = none ∧ Reps X.K ct m5 F5 accD accV ∧ accD.length ≤ (i + 1) * 1000 ∧
      lc2D g gt fi1 g1 gt1 fe vs1 (wipeD env own) (items.drop (i + 1)) S5 = some (rest, S9) ∧ out = accD ++ rest, fun H5 w => ⟨items.length - (i + 1), by omega, rfl, hlt, w⟩, fun x H5 y => ?_⟩
    obtain ⟨F5, x5, s5, r5⟩ := yl x H5 y
    obtain ⟨hH5, nL5, fL5⟩ := x5.hid hH nL fL
    refine ⟨m', F5, S2, wipeD env own, a, env1, S3, s5, en'.mono x5, r5, h3, fun m6 F6 σ6 H6 x6 s6 en6 w6 => ⟨by rw [w6]; exact wipe_idem, ?_⟩⟩
    obtain ⟨hH6, nL6, fL6⟩ := x6.hid hH5 nL5 fL5
    refine ⟨m6, F6, S3, env1, b4, S4, s6, en6, h4, fun m7 F7 H7 x7 s7 => ?_⟩
    obtain ⟨hH7, nL7, fL7⟩ := x7.hid hH6 nL6 fL6
    have xx : Ext m1 F1 H1 m7 F7 H7 := ((x'.trans x5).trans x6).trans x7
    have rp7 : Reps X.K ct m7 F7 accD accV := ((rp.mono x5).mono x6).mono x7
    cases b4 with
    | false =>
      refine iteF ⟨m7, F7, S4, accV, accD, rest, xx, s7, hH7, nL7, fL7, rp7, by omega, ?_, eo⟩
      rw [q2]
      exact hlc
    | true =>
      obtain ⟨⟨items1, S5⟩, h5, hlc⟩ := bind_some (show (fi1 env1 S4).bind _ = _ from hlc)
      have hlc : (if items1.length ≤ 1000 then (lcD g1 gt1 fe (wipeD env1 vs1) items1 S5).bind fun y => (lc2D g gt fi1 g1 gt1 fe vs1 (wipeD env own) r y.2).bind fun r => some (y.1 ++ r.1, r.2) else none) = some (rest, S9) := hlc
      by_cases hl1 : items1.length ≤ 1000
      case neg => rw [if_neg hl1] at hlc; cases hlc
      rw [if_pos hl1] at hlc
      obtain ⟨⟨out1, S11⟩, h6, hlc⟩ := bind_some hlc
      obtain ⟨⟨r9, S10⟩, h9, hlc⟩ := bind_some hlc
      cases hlc
      refine iteT ⟨m7, F7, S4, env1, items1, S5, s7, en6.mono x7, h5, fun m8 F8 J1 H8 x8 s8 ok1 => ?_⟩
      obtain ⟨hH8, nL8, fL8⟩ := x8.hid hH7 nL7 fL7
      have x18 : Ext m1 F1 H1 m8 F8 H8 := xx.trans x8
      have rp8 : Reps X.K ct m8 F8 accD accV := rp7.mono x8
      have en8 : EnvR X.K ct m8 F8 env1 σ6 := (en6.mono x7).mono x8
      refine ⟨fun j k H' => k = items1.length - j ∧ j ≤ items1.length ∧ ∃ m' F' S2 accV' accD' rest', Ext m1 F1 H1 m' F' H' ∧ Ext0 m8 F8 m' F' ∧ Sim X.K ct m' F' S2 H' ∧ H' L = some (.lst accV') ∧ L ∉ m' ∧ F' L = none ∧ Reps X.K ct m' F' accD' accV' ∧ accD'.length ≤ i * 1000 + j ∧
          lcD g1 gt1 fe (wipeD env1 vs1) (items1.drop j) S2 = some (rest', S11) ∧ accD ++ out1 = accD' ++ rest',
        ⟨_, rfl, Nat.zero_le _, m8, F8, S5, accV, accD, out1, x18, Ext0.refl _ _, s8, hH8, nL8, fL8, rp8, by omega, h6, rfl⟩, ?_⟩
      rintro j k H' ⟨rfl, hle1, m', F', S2, accV1, accD1, rest1, x1', x8', s', hH', nL', fL', rp', hal', hlc1, eo1⟩
      have en1 : EnvR X.K ct m' F' (wipeD env1 vs1) (wipe σ6 vs1) := (en8.mono0 x8').wipe vs1
      have okk1 : (∀ d, items1[j]? = some d → J1.go j H' ∧ ∀ x H1, J1.yld j H' x H1 → ∃ F1, Ext m' F' H' m' F1 H1 ∧ Sim X.K ct m' F1 S2 H1 ∧ Rep X.K ct m' F1 d x) ∧ (items1.length = j → J1.stop j H') := ok1 j m' F' S2 H' x8' s'
      cases hd1 : items1.drop j with
      | nil =>
        rw [hd1] at hlc1
        cases hlc1
        have hl : items1.length = j := by
          have := congrArg List.length hd1
          simp at this
          omega
        refine .inl ⟨okk1.2 hl, m', F', S11, accV1, accD1, r9, x1', s', hH', nL', fL', rp', by omega, by rw [q2]; exact h9, ?_⟩
        rw [List.append_nil] at eo1
        rw [eo, ← List.append_assoc, eo1]
      | cons a1 r1 =>
        rw [hd1] at hlc1
        obtain ⟨q3, q4⟩ := drop_cons hd1
        have hlt1 : j < items1.length := (List.getElem?_eq_some_iff.mp q3).1
        obtain ⟨go1, yl1⟩ := okk1.1 a1 q3
        obtain ⟨⟨env2, S12⟩, h12, hlc1⟩ := bind_some hlc1
        obtain ⟨⟨b13, S13⟩, h13, hlc1⟩ := bind_some hlc1
        refine .inr ⟨go1, fun H5 => ∃ m5 F5 S5 accV' accD' rest', Ext m1 F1 H1 m5 F5 H5 ∧ Ext0 m8 F8 m5 F5 ∧ Sim X.K ct m5 F5 S5 H5 ∧ H5 L = some (.lst accV') ∧ L ∉ m5 ∧ F5 L = none ∧ Reps X.K ct m5 F5 accD' accV' ∧ accD'.length ≤ i * 1000 + (j + 1) ∧
          lcD g1 gt1 fe (wipeD env1 vs1) (items1.drop (j + 1)) S5 = some (rest', S11) ∧ accD ++ out1 = accD' ++ rest', fun H5 w => ⟨items1.length - (j + 1), by omega, rfl, hlt1, w⟩, fun x H5 y => ?_⟩
        obtain ⟨F5', x5', s5', r5'⟩ := yl1 x H5 y
        obtain ⟨hH5', nL5', fL5'⟩ := x5'.hid hH' nL' fL'
        refine ⟨m', F5', S2, wipeD env1 vs1, a1, env2, S12, s5', en1.mono x5', r5', h12, fun m6' F6' σ6' H6' x6' s6' en6' w6' => ⟨by rw [w6']; exact wipe_idem, ?_⟩⟩
        obtain ⟨hH6', nL6', fL6'⟩ := x6'.hid hH5' nL5' fL5'
        refine ⟨m6', F6', S12, env2, b13, S13, s6', en6', h13, fun m7' F7' H7' x7' s7' => ?_⟩
        obtain ⟨hH7', nL7', fL7'⟩ := x7'.hid hH6' nL6' fL6'
        have xx' : Ext m1 F1 H1 m7' F7' H7' := ((x1'.trans x5').trans x6').trans x7'
        have xx0 : Ext0 m8 F8 m7' F7' := ((x8'.trans x5'.e0).trans x6'.e0).trans x7'.e0
        have rp7' : Reps X.K ct m7' F7' accD1 accV1 := ((rp'.mono x5').mono x6').mono x7'
        cases b13 with
        | false =>
          refine iteF ⟨m7', F7', S13, accV1, accD1, rest1, xx', xx0, s7', hH7', nL7', fL7', rp7', by omega, ?_, eo1⟩
          rw [q4]
          exact hlc1
        | true =>
          obtain ⟨⟨y8, S14⟩, h14, hlc1⟩ := bind_some (show (fe env2 S13).bind _ = _ from hlc1)
          obtain ⟨⟨r15, S15⟩, h15, hlc1⟩ := bind_some hlc1
          cases hlc1
          refine iteT ⟨m7', F7', S13, env2, y8, S14, s7', en6'.mono x7', h14, fun m8' F8' v8 H8' x8'' s8' r8 => ?_⟩
          obtain ⟨hH8', nL8', fL8'⟩ := x8''.hid hH7' nL7' fL7'
          refine ⟨accV1, hH8', ?_, m8', F8', S14, accV1 ++ [v8], accD1 ++ [y8], r15, (xx'.trans x8'').put hL _, xx0.trans x8''.e0, s8'.hidden nL8' fL8' _, upd_same, nL8', fL8', (rp7'.mono x8'').snoc r8, by simp; omega, ?_, by rw [eo1, List.append_assoc]; rfl⟩
          · rw [← rp'.length, line_eq]
            omega
          · rw [q4]
            exact h15
theorem se_lc2 {elt tg iter tg1 iter1 : Expr} {ifs ifs1 : List Expr} {scope : Scope} {own : List (Str × Nat)} {vs1 : List Nat} {pos : Pos} {fi fi1 : FA} {g g1 : FG} {gt gt1 : FT} {fe : FE} (hc : X.calm = true) (hN : X.N.Nodup) (hi : SI ct X tg iter fi) (ok : BlkOk X.N X.env.scope scope own) (hv : ∀ i ∈ vs1, i ∈ own.map (·.2))
    (hg : ∀ (s : Shared) (H : Hp) (C : Addr) (cl : List (Str × Addr)) (fp : List Addr), SGw ct (X.blk s H scope (compEnvC scope cl C X.env) fp) (own.map (·.2)) tg g) (ht : ∀ (s : Shared) (H : Hp) (C : Addr) (cl : List (Str × Addr)) (fp : List Addr), STs ct (X.blk s H scope (compEnvC scope cl C X.env) fp) ifs gt)
    (hi1 : ∀ (s : Shared) (H : Hp) (C : Addr) (cl : List (Str × Addr)) (fp : List Addr), SI ct (X.blk s H scope (compEnvC scope cl C X.env) fp) tg1 iter1 fi1)
    (hg1 : ∀ (s : Shared) (H : Hp) (C : Addr) (cl : List (Str × Addr)) (fp : List Addr), SGw ct (X.blk s H scope (compEnvC scope cl C X.env) fp) vs1 tg1 g1) (ht1 : ∀ (s : Shared) (H : Hp) (C : Addr) (cl : List (Str × Addr)) (fp : List Addr), STs ct (X.blk s H scope (compEnvC scope cl C X.env) fp) ifs1 gt1)
    (he : ∀ (s : Shared) (H : Hp) (C : Addr) (cl : List (Str × Addr)) (fp : List Addr), SE ct (X.blk s H scope (compEnvC scope cl C X.env) fp) elt fe) (hs : ∀ x, foldedSetIterable iter X.env x = pure x := by intro _; rfl) (hs1 : ∀ env x, foldedSetIterable iter1 env x = pure x := by intro _ _; rfl) :
    SE ct X (.ListComp elt [⟨tg, iter, ifs, 0⟩, ⟨tg1, iter1, ifs1, 0⟩] scope pos) (fLc2 fi g gt fi1 g1 gt1 fe (own.map (·.2)) vs1) := by
  obtain ⟨wi, pi, ri⟩ := hi
  exact ⟨_, pe_lc2 (g := tGw ct X.K (own.map (·.2)) g) (tt := tT ct X.K gt) (wi1 := tI ct X.K fi1) (g1 := tGw ct X.K vs1 g1) (tt1 := tT ct X.K gt1) (te := tE ct X.K fe) hc hN pi ok hv (fun s H C cl fp => (hg s H C cl fp).pg) (fun s H C cl fp => (ht s H C cl fp).pt) (fun s H C cl fp => (hi1 s H C cl fp).pi) (fun s H C cl fp => (hg1 s H C cl fp).pg) (fun s H C cl fp => (ht1 s H C cl fp).pt) (fun s H C cl fp => (he s H C cl fp).pe) hs hs1, fun m F S σ H env d S' Q s en h p => lc2_run ri s en h p⟩
theorem ss_setLc2 {i : Nat} {y : Str} {py : Pos} {elt tg iter tg1 iter1 : Expr} {ifs ifs1 : List Expr} {scope : Scope} {own : List (Str × Nat)} {vs1 : List Nat} {pos spos : Pos} {fi fi1 : FA} {g g1 : FG} {gt gt1 : FT} {fe : FE} (hc : X.calm = true) (hN : X.N.Nodup) (hy : X.N[i]? = some y) (hyl : X.env.scope.names.lookup y = some .local)
    (hsw : swapsWith (.ListComp elt [⟨tg, iter, ifs, 0⟩, ⟨tg1, iter1, ifs1, 0⟩] scope pos) (some (.Name y py)) spos.line X.env = pure true) (hi : SI ct X tg iter fi) (ok : BlkOk X.N X.env.scope scope own) (hv : ∀ i ∈ vs1, i ∈ own.map (·.2))
    (hg : ∀ (s : Shared) (H : Hp) (C : Addr) (cl : List (Str × Addr)) (fp : List Addr), SGw ct (X.blk s H scope (compEnvC scope cl C X.env) fp) (own.map (·.2)) tg g) (ht : ∀ (s : Shared) (H : Hp) (C : Addr) (cl : List (Str × Addr)) (fp : List Addr), STs ct (X.blk s H scope (compEnvC scope cl C X.env) fp) ifs gt)
    (hi1 : ∀ (s : Shared) (H : Hp) (C : Addr) (cl : List (Str × Addr)) (fp : List Addr), SI ct (X.blk s H scope (compEnvC scope cl C X.env) fp) tg1 iter1 fi1)
    (hg1 : ∀ (s : Shared) (H : Hp) (C : Addr) (cl : List (Str × Addr)) (fp : List Addr), SGw ct (X.blk s H scope (compEnvC scope cl C X.env) fp) vs1 tg1 g1) (ht1 : ∀ (s : Shared) (H : Hp) (C : Addr) (cl : List (Str × Addr)) (fp : List Addr), STs ct (X.blk s H scope (compEnvC scope cl C X.env) fp) ifs1 gt1)
    (he : ∀ (s : Shared) (H : Hp) (C : Addr) (cl : List (Str × Addr)) (fp : List Addr), SE ct (X.blk s H scope (compEnvC scope cl C X.env) fp) elt fe) (hs : ∀ x, foldedSetIterable iter X.env x = pure x := by intro _; rfl) (hs1 : ∀ env x, foldedSetIterable iter1 env x = pure x := by intro _ _; rfl) :
    SS ct X (.Assign [.Name y py] (.ListComp elt [⟨tg, iter, ifs, 0⟩, ⟨tg1, iter1, ifs1, 0⟩] scope pos) spos) (sAsg (fLc2 fi g gt fi1 g1 gt1 fe (own.map (·.2)) vs1) (gN i)) := by
  obtain ⟨wi, pi, ri⟩ := hi
  refine ⟨_, ps_setLc2 (g := tGw ct X.K (own.map (·.2)) g) (tt := tT ct X.K gt) (wi1 := tI ct X.K fi1) (g1 := tGw ct X.K vs1 g1) (tt1 := tT ct X.K gt1) (te := tE ct X.K fe) hc hN hy hyl hsw pi ok hv (fun s H C cl fp => (hg s H C cl fp).pg) (fun s H C cl fp => (ht s H C cl fp).pt) (fun s H C cl fp => (hi1 s H C cl fp).pi) (fun s H C cl fp => (hg1 s H C cl fp).pg) (fun s H C cl fp => (ht1 s H C cl fp).pt) (fun s H C cl fp => (he s H C cl fp).pe) hs hs1, fun m F S σ H env fl S' E s en h p => ?_⟩
  obtain ⟨⟨x, S1⟩, h1, h⟩ := bind_some h
  cases h
  exact lc2_run ri s en h1 fun m1 F1 v1 H1 x1 s1 r1 => p m1 F1 _ H1 x1 s1 ((en.mono x1).set i r1)
end
end DL

namespace DL
open PySem PySem.Spec PyProof.Rows L2
/-! # defs told over a store of their own -/
def mapO (f : D → Option D) : List D → Option (List D)
  | [] => some []
  | d :: ds => (f d).bind fun e => (mapO f ds).map fun es => e :: es
def thaw (S : Sto) : Nat → D → Option D
  | 0, d => if noRef d = true then some d else none
  | n + 1, .ref k => match S[k]? with
    | some (.lst es) => (mapO (thaw S n) es).map .lst
    | some (.dct kvs) => (mapO (thaw S n) (kvs.map (·.2))).map (.dct (kvs.map (·.1)))
    | some (.ins c fs es) => (mapO (thaw S n) es).map (.obj c fs)
    | _ => none
  | n + 1, .tup ds => (mapO (thaw S n) ds).map .tup
  | n + 1, .lst ds => (mapO (thaw S n) ds).map .lst
  | n + 1, d => if noRef d = true then some d else none
/-- what is handed back, the cells within it as they stand -/
def thawD (S : Sto) (d : D) : Option D := if noRef d = true then some d else thaw S 5 d
def over (F H : Hp) (m : List Addr) : Hp := fun a => if a ∈ m then H a else F a
section
variable {K : PySem.W.Frag} {ct : CT} {m m' : List Addr} {F H : Hp} {S : Sto}
theorem over_same (s : Sim K ct m F S H) (hm : ∀ a ∈ m', a ∈ m) : Same F (over F H m') := fun b o h => by
  unfold over
  by_cases hb : b ∈ m'
  · rw [s.off b (hm b hb)] at h; cases h
  · rw [if_neg hb]; exact h
theorem over_at {a : Addr} (h : a ∈ m') : over F H m' a = H a := if_pos h
theorem mapO_rep {f : D → Option D} {F' : Hp} {m2 : List Addr} (hf : ∀ d v d', Rep K ct m F d v → f d = some d' → Rep K ct m2 F' d' v) : ∀ {ds : List D} {vs : List V} {ds' : List D}, Reps K ct m F ds vs → mapO f ds = some ds' → Reps K ct m2 F' ds' vs
  | [], _, _, h, e => by cases e; exact h
  | d :: ds, _, _, h, e => by
    obtain ⟨v, r, e1, e2, e3⟩ := h
    obtain ⟨d', h1, e⟩ := bind_some e
    obtain ⟨ds', h2, rfl⟩ := map_some e
    exact ⟨v, r, e1, hf d v d' e2 h1, mapO_rep hf e3 h2⟩
theorem mapO_len {f : D → Option D} : ∀ {ds ds' : List D}, mapO f ds = some ds' → ds'.length = ds.length
  | [], _, e => by cases e; rfl
  | d :: ds, _, e => by
    obtain ⟨d', h1, e⟩ := bind_some e
    obtain ⟨ds', h2, rfl⟩ := map_some e
    simp [mapO_len h2]
theorem dct_rep {kvs : List (Key × D)} {us : List (Key × V)} (h : Paired (fun (p : Key × D) (q : Key × V) => p.1 = q.1 ∧ Rep K ct m F p.2 q.2) kvs us) : Reps K ct m F (kvs.map (·.2)) (us.map (·.2)) ∧ us = (kvs.map (·.1)).zip (us.map (·.2)) ∧ (kvs.map (·.1)).length = (us.map (·.2)).length := by
  induction h with
  | nil => exact ⟨rfl, rfl, rfl⟩
  | @cons p q ps qs hh _ ih =>
    obtain ⟨i1, i2, i3⟩ := ih
    refine ⟨⟨_, _, rfl, hh.2, i1⟩, ?_, by simpa using i3⟩
    obtain ⟨qa, qb⟩ := q
    obtain ⟨pa, pb⟩ := p
    have e1 : pa = qa := hh.1
    subst e1
    exact congrArg ((pa, qb) :: ·) i2
/-- m' : the cells that S tells of, but for those that are left out -/
theorem thaw_rep {S' : Sto} {m2 : List Addr} (s : Sim K ct m F S H) (hm : ∀ a ∈ m', a ∈ m) (hS : ∀ (k : Nat) (c : Cell), S'[k]? = some c → isTab c = none → ∃ a, m[k]? = some a ∧ a ∈ m' ∧ S[k]? = some c) :
    ∀ (n : Nat) (d : D) (v : V) (d' : D), Rep K ct m F d v → thaw S' n d = some d' → Rep K ct m2 (over F H m') d' v := by
  have base : ∀ (d : D) (v : V) (d' : D), Rep K ct m F d v → (if noRef d = true then some d else none) = some d' → Rep K ct m2 (over F H m') d' v := fun d v d' r e => by
    split at e
    · rename_i hn
      cases e
      exact Rep.noref _ _ hn (Rep.mono' (fun _ _ h => h) (over_same s hm) _ _ r)
    · cases e
  intro n
  induction n with
  | zero => exact base
  | succ n ih =>
    intro d v d' r e
    cases d with
    | ref k =>
      obtain ⟨a, h1, rfl⟩ := r
      have e : (match S'[k]? with
        | some (.lst es) => (mapO (thaw S' n) es).map .lst
        | some (.dct kvs) => (mapO (thaw S' n) (kvs.map (·.2))).map (.dct (kvs.map (·.1)))
        | some (.ins c fs es) => (mapO (thaw S' n) es).map (.obj c fs)
        | _ => none) = some d' := e
      split at e
      · rename_i es hk
        obtain ⟨es', h2, rfl⟩ := map_some e
        obtain ⟨a', g1, g2, g3⟩ := hS k _ hk rfl
        rw [h1] at g1; cases g1
        obtain ⟨vs, c1, c2⟩ := s.cell k a _ h1 g3
        exact ⟨a, vs, rfl, by rw [over_at g2]; exact c1, mapO_rep ih c2 h2⟩
      · rename_i kvs hk
        obtain ⟨es', h2, rfl⟩ := map_some e
        obtain ⟨a', g1, g2, g3⟩ := hS k _ hk rfl
        rw [h1] at g1; cases g1
        obtain ⟨us, c1, c2⟩ := s.cell k a _ h1 g3
        obtain ⟨i1, i2, i3⟩ := dct_rep c2
        exact ⟨a, us.map (·.2), rfl, by rw [over_at g2, ← i2]; exact c1, i3, mapO_rep ih i1 h2⟩
      · rename_i c fs es hk
        obtain ⟨es', h2, rfl⟩ := map_some e
        obtain ⟨a', g1, g2, g3⟩ := hS k _ hk rfl
        rw [h1] at g1; cases g1
        obtain ⟨C, dx, vs, c1, c3, c4, c2⟩ := s.cell k a _ h1 g3
        exact ⟨a, C, dx, vs, rfl, c3, by rw [over_at g2]; exact c1, c4, mapO_rep ih c2 h2⟩
      · cases e
    | tup ds =>
      obtain ⟨ds', h2, rfl⟩ := map_some (show (mapO (thaw S' n) ds).map .tup = some d' from e)
      obtain ⟨a, vs, e1, e2, e3⟩ := r
      exact ⟨a, vs, e1, sqT_mono (over_same s hm) e2, mapO_rep ih e3 h2⟩
    | lst ds =>
      obtain ⟨ds', h2, rfl⟩ := map_some (show (mapO (thaw S' n) ds).map .lst = some d' from e)
      obtain ⟨a, vs, e1, e2, e3⟩ := r
      exact ⟨a, vs, e1, over_same s hm _ _ e2, mapO_rep ih e3 h2⟩
    | _ => exact base _ v d' r e
theorem thawD_rep {S' : Sto} {m2 : List Addr} (s : Sim K ct m F S H) (hm : ∀ a ∈ m', a ∈ m) (hS : ∀ (k : Nat) (c : Cell), S'[k]? = some c → isTab c = none → ∃ a, m[k]? = some a ∧ a ∈ m' ∧ S[k]? = some c)
    {d : D} {v : V} {d' : D} (r : Rep K ct m F d v) (e : thawD S' d = some d') : Rep K ct m2 (over F H m') d' v := by
  unfold thawD at e
  split at e
  · rename_i hn
    cases e
    exact Rep.noref _ _ hn (Rep.mono' (fun _ _ h => h) (over_same s hm) _ _ r)
  · exact thaw_rep s hm hS _ _ _ _ r e
end
/-- a def that is handed plain data alone: told over no cells -/
def pureD (g : FD) : FD := fun ds S => if noRefs ds = true then (g ds []).bind fun q => (thawD q.2 q.1).map fun d => (d, S) else none
section
variable {P : Program} {w : World} {K : PySem.W.Frag} {mg : Str → Option Value} {base : Heap} {ct : CT}
theorem pure_ok {k n : Nat} {f : Addr} {fd : FuncData} {ps : List Str} {g : FD} (G : FnG P w K mg base k f fd ps (spD K ct n g)) : FnG P w K mg base k f fd ps (spD K ct n (pureD g)) := by
  refine G.imp fun vs H Q E hs => ?_
  obtain ⟨hl, m, F, S, ds, d', S1, s, reps, hg, post⟩ := hs
  unfold pureD at hg
  split at hg
  case isFalse => cases hg
  rename_i hn
  obtain ⟨⟨d, S2⟩, h1, hg⟩ := bind_some hg
  obtain ⟨d2, h2, e⟩ := map_some hg
  cases e
  refine ⟨hl, [], F, [], ds, d, S2, ⟨s.same, rfl, List.nodup_nil, fun a h => (nomatch h), fun i a c h _ => (by simp at h), fun i a c q h _ _ => (by simp at h)⟩, Reps.noref _ _ hn reps, h1, ?_⟩
  intro m' F' v H' x s' r
  have h2 : thawD S2 d = some d' := h2
  have rr : Rep K ct m (over F' H' m') d' v := thawD_rep s' (fun a h => h) (fun k c hk _ => by
    have hi : k < m'.length := by rw [s'.len]; exact (List.getElem?_eq_some_iff.mp hk).1
    exact ⟨m'[k], List.getElem?_eq_getElem hi, List.getElem_mem hi, hk⟩) r h2
  have out : ∀ a ∈ m, a ∉ m' := fun a ha hm => by
    obtain ⟨o, ho⟩ := s.there ha
    rcases x.new a hm with q | q
    · cases q
    · rw [ho] at q; cases q
  have fo : ∀ a ∈ m, F' a = none := fun a ha => by
    obtain ⟨o, ho⟩ := s.there ha
    cases e : F' a with
    | none => rfl
    | some z =>
      rcases x.fnew a z e with q | q
      · rw [s.off a ha] at q; cases q
      · rw [ho] at q; cases q
  have sm : Same F (over F' H' m') := x.same.trans (over_same s' fun a h => h)
  refine post m (over F' H' m') v H' ⟨fun _ _ h => h, sm, fun b o h _ => x.keep b o h (by simp), fun a h => .inl h, fun b o h => ?_, x.grow⟩ ⟨fun b o h => ?_, s.len, s.nd, fun a ha => ?_, fun i a c h1 h2 => ?_, s.tab⟩ rr
  · unfold over at h
    split at h
    · rename_i hb
      rcases x.new b hb with q | q
      · cases q
      · exact .inr q
    · exact x.fnew b o h
  · unfold over at h
    split at h
    · exact h
    · exact s'.same _ _ h
  · unfold over
    rw [if_neg (out a ha)]
    exact fo a ha
  · have hm : a ∈ m := List.mem_iff_getElem?.mpr ⟨i, h1⟩
    obtain ⟨o, ho⟩ := s.there hm
    have cr := s.cell i a c h1 h2
    rw [x.keep a o ho (by simp), ← ho]
    exact cr.mono' (fun _ _ h => h) sm
theorem Callee.pure {k n : Nat} {x : Str} {g : FD} {kwb : KWB} (c : Callee P w K mg base ct k x n g kwb) : Callee P w K mg base ct k x n (pureD g) kwb := by
  obtain ⟨f, fd, ps, h1, h2, h3, h4⟩ := c
  exact ⟨f, fd, ps, h1, h2, h3, pure_ok h4⟩
end
/-- a def that is handed one cell, ahead of plain data: told over this cell alone -/
def pure1D (g : FD) : FD := fun ds S => match ds with
  | .ref k :: rest => if noRefs rest = true then match S[k]? with
    | some c => if cellFree c = true ∧ isTab c = none then (g (.ref 0 :: rest) [c]).bind fun q => match q.2 with
      | c' :: more => if cellFree c' = true ∧ isTab c' = none then (thawD (.tab "" :: more) q.1).map fun d => (d, S.set k c') else none
      | [] => none
      else none
    | none => none
    else none
  | _ => none
section
variable {P : Program} {w : World} {K : PySem.W.Frag} {mg : Str → Option Value} {base : Heap} {ct : CT}
theorem pure1_ok {k n : Nat} {f : Addr} {fd : FuncData} {ps : List Str} {g : FD} (G : FnG P w K mg base k f fd ps (spD K ct n g)) : FnG P w K mg base k f fd ps (spD K ct n (pure1D g)) := by
  refine G.imp fun vs H Q E hs => ?_
  obtain ⟨hl, m, F, S, ds, d', S1, s, reps, hg, post⟩ := hs
  unfold pure1D at hg
  split at hg
  case h_2 => cases hg
  rename_i kk rest
  split at hg
  case isFalse => cases hg
  rename_i hn
  split at hg
  case h_2 => cases hg
  rename_i c hc
  split at hg
  case isFalse => cases hg
  rename_i hcf
  obtain ⟨⟨d, S2⟩, h1, hg⟩ := bind_some hg
  dsimp only at hg
  split at hg
  case h_2 => cases hg
  rename_i c' more
  split at hg
  case isFalse => cases hg
  rename_i hcf'
  obtain ⟨d2, h2, e⟩ := map_some hg
  cases e
  obtain ⟨v0, vr, rfl, ⟨a, ha, rfl⟩, rr⟩ := reps
  have am : a ∈ m := List.mem_iff_getElem?.mpr ⟨kk, ha⟩
  obtain ⟨o0, hH⟩ := s.there am
  have cr0 := s.cell kk a c ha hc
  refine ⟨hl, [a], F, [c], .ref 0 :: rest, d, c' :: more, ⟨s.same, rfl, by simp, fun b h => ?_, fun i b e h g => ?_, fun i b e q h g h3 => ?_⟩, ⟨_, _, rfl, ⟨a, rfl, rfl⟩, Reps.noref _ _ hn rr⟩, h1, ?_⟩
  · rw [List.mem_singleton.mp h]; exact s.off a am
  · match i, h, g with
    | 0, h, g => cases h; cases g; exact cr0.noref hcf.1
    | i + 1, h, g => simp at h
  · match i, h, g with
    | 0, h, g => cases g; rw [hcf.2] at h3; cases h3
    | i + 1, h, g => simp at h
  intro m' F' v H' x s' r
  have h2 : thawD (.tab "" :: more) d = some d' := h2
  have hm0 : m'[0]? = some a := x.pre 0 a rfl
  have e' : m' = a :: m'.drop 1 := by
    match m', hm0 with
    | b :: t, h => cases h; rfl
  have hd : ∀ b ∈ m'.drop 1, b ∈ m' := fun b h => List.mem_of_mem_drop h
  have na : a ∉ m'.drop 1 := by
    have := s'.nd
    rw [e'] at this
    exact (List.nodup_cons.mp this).1
  have rr : Rep K ct m (over F' H' (m'.drop 1)) d' v := thawD_rep s' hd (fun k c hk ht => by
    match k, hk with
    | 0, hk => cases hk; cases ht
    | k + 1, hk =>
      have hk : more[k]? = some c := hk
      have hi : k + 1 < m'.length := by rw [s'.len]; have := (List.getElem?_eq_some_iff.mp hk).1; simp; omega
      refine ⟨m'[k + 1], List.getElem?_eq_getElem hi, ?_, hk⟩
      refine List.mem_iff_getElem?.mpr ⟨k, ?_⟩
      rw [List.getElem?_drop, Nat.add_comm 1 k, List.getElem?_eq_getElem hi]) r h2
  have out : ∀ b ∈ m, b ∉ m'.drop 1 := fun b hb hm => by
    obtain ⟨o, ho⟩ := s.there hb
    rcases x.new b (hd b hm) with q | q
    · rw [List.mem_singleton.mp q] at hm; exact na hm
    · rw [ho] at q; cases q
  have fo : ∀ b ∈ m, F' b = none := fun b hb => by
    obtain ⟨o, ho⟩ := s.there hb
    cases e : F' b with
    | none => rfl
    | some z =>
      rcases x.fnew b z e with q | q
      · rw [s.off b hb] at q; cases q
      · rw [ho] at q; cases q
  have sm : Same F (over F' H' (m'.drop 1)) := x.same.trans (over_same s' hd)
  refine post m (over F' H' (m'.drop 1)) v H' ⟨fun _ _ h => h, sm, fun b o h hb => x.keep b o h (fun z => hb (by rw [List.mem_singleton.mp z]; exact am)), fun b h => .inl h, fun b o h => ?_, x.grow⟩ ⟨fun b o h => ?_, by rw [List.length_set]; exact s.len, s.nd, fun b hb => ?_, fun i b e h1 h2 => ?_, fun i b e q h1 h2 h3 => ?_⟩ rr
  · unfold over at h
    split at h
    · rename_i hb
      rcases x.new b (hd b hb) with q | q
      · rw [List.mem_singleton.mp q] at hb; exact absurd hb na
      · exact .inr q
    · exact x.fnew b o h
  · unfold over at h
    split at h
    · exact h
    · exact s'.same _ _ h
  · unfold over
    rw [if_neg (out b hb)]
    exact fo b hb
  · by_cases hi : kk = i
    · subst hi
      rw [ha] at h1; cases h1
      rw [List.getElem?_set_self (by rw [← s.len]; exact (List.getElem?_eq_some_iff.mp ha).1)] at h2
      cases h2
      exact ((s'.cell 0 a c' hm0 rfl).noref hcf'.1).mono' (fun _ _ h => h) (over_same s' hd)
    · rw [List.getElem?_set_ne hi] at h2
      have hm : b ∈ m := List.mem_iff_getElem?.mpr ⟨i, h1⟩
      have nb : b ≠ a := fun e => hi (nodup_inj s.nd ha (e ▸ h1))
      obtain ⟨o, ho⟩ := s.there hm
      have cr := s.cell i b e h1 h2
      rw [x.keep b o ho (by simpa using nb), ← ho]
      exact cr.mono' (fun _ _ h => h) sm
  · by_cases hi : kk = i
    · subst hi
      rw [List.getElem?_set_self (by rw [← s.len]; exact (List.getElem?_eq_some_iff.mp ha).1)] at h2
      cases h2
      rw [hcf'.2] at h3; cases h3
    · rw [List.getElem?_set_ne hi] at h2
      exact s.tab i b e q h1 h2 h3
theorem Callee.pure1 {k n : Nat} {x : Str} {g : FD} {kwb : KWB} (c : Callee P w K mg base ct k x n g kwb) : Callee P w K mg base ct k x n (pure1D g) kwb := by
  obtain ⟨f, fd, ps, h1, h2, h3, h4⟩ := c
  exact ⟨f, fd, ps, h1, h2, h3, pure1_ok h4⟩
end
/-! ## by what holds behind them -/
theorem wp_pure {g : FD} {ds : List D} {S : Sto} {P : D → Sto → Prop} : R (pureD g ds S) P ↔ noRefs ds = true ∧ R (g ds []) fun d S2 => ∃ e, thawD S2 d = some e ∧ P e S := by
  unfold pureD
  by_cases h : noRefs ds = true
  · rw [if_pos h, R_bind]
    simp only [h, true_and]
    refine ⟨fun ⟨d, S2, e, q⟩ => ⟨d, S2, e, ?_⟩, fun ⟨d, S2, e, q⟩ => ⟨d, S2, e, ?_⟩⟩
    · obtain ⟨a, S3, e3, p⟩ := q
      obtain ⟨z, h1, h2⟩ := map_some e3
      cases h2
      exact ⟨_, h1, p⟩
    · obtain ⟨z, h1, p⟩ := q
      exact ⟨z, S, by show (thawD S2 d).map _ = _; rw [h1]; rfl, p⟩
  · rw [if_neg h]
    exact ⟨fun q => (R_none.mp q).elim, fun q => absurd q.1 h⟩
theorem pure_eq {g : FD} {ds : List D} {S S2 : Sto} {d e : D} (hn : noRefs ds = true) (h : g ds [] = some (d, S2)) (ht : thawD S2 d = some e) : pureD g ds S = some (e, S) := by
  unfold pureD
  rw [if_pos hn, h]
  show (thawD S2 d).map _ = _
  rw [ht]
  rfl
theorem thawD_of {S : Sto} {d : D} (h : noRef d = true) : thawD S d = some d := by unfold thawD; rw [if_pos h]
theorem mapO_noref {f : D → Option D} (hf : ∀ d, noRef d = true → f d = some d) : ∀ {ds : List D}, noRefs ds = true → mapO f ds = some ds
  | [], _ => rfl
  | d :: ds, h => by
    have h : (noRef d && noRefs ds) = true := h
    simp only [Bool.and_eq_true] at h
    show (f d).bind _ = _
    rw [hf d h.1]
    show (mapO f ds).map _ = _
    rw [mapO_noref hf h.2]
    rfl
theorem thaw_noref {S : Sto} : ∀ (n : Nat) (d : D), noRef d = true → thaw S n d = some d
  | 0, d, h => if_pos h
  | n + 1, d, h => by
    cases d with
    | ref k => cases h
    | tup ds => show (mapO (thaw S n) ds).map _ = _; rw [mapO_noref (thaw_noref n) h]; rfl
    | lst ds => show (mapO (thaw S n) ds).map _ = _; rw [mapO_noref (thaw_noref n) h]; rfl
    | _ => exact if_pos h
theorem thawD_lst {S : Sto} {k : Nat} {es : List D} (h : S[k]? = some (.lst es)) (hn : noRefs es = true) : thawD S (.ref k) = some (.lst es) := by
  show thaw S (4 + 1) (.ref k) = _
  unfold thaw
  rw [h]
  show (mapO (thaw S 4) es).map _ = _
  rw [mapO_noref (thaw_noref 4) hn]
  rfl
theorem pure1_eq {g : FD} {rest : List D} {S more : Sto} {k : Nat} {c c' : Cell} {d e : D} (hn : noRefs rest = true) (hk : S[k]? = some c) (hc : cellFree c = true ∧ isTab c = none) (h : g (.ref 0 :: rest) [c] = some (d, c' :: more)) (hc' : cellFree c' = true ∧ isTab c' = none) (ht : thawD (.tab "" :: more) d = some e) :
    pure1D g (.ref k :: rest) S = some (e, S.set k c') := by
  show (if noRefs rest = true then match S[k]? with
    | some c => if cellFree c = true ∧ isTab c = none then (g (.ref 0 :: rest) [c]).bind fun q => match q.2 with
      | c' :: more => if cellFree c' = true ∧ isTab c' = none then (thawD (.tab "" :: more) q.1).map fun d => (d, S.set k c') else none
      | [] => none
      else none
    | none => none
    else none) = _
  rw [if_pos hn, hk]
  show (if cellFree c = true ∧ isTab c = none then _ else none) = _
  rw [if_pos hc, h]
  show (if cellFree c' = true ∧ isTab c' = none then _ else none) = _
  rw [if_pos hc', ht]
  rfl
end DL

namespace DL
open PySem PySem.Spec PyProof.Rows L2
/-! # The head by one run in the kernel: what the end leans on, as facts that are counted out -/
abbrev Fr := PySem.W.Frag
open He (ga ma eqO eqO_ok frG frG_in growG)
theorem notB {b : Bool} (h : (!b) = true) : b = false := by simpa using h
def matB : V → Value → Bool
  | .non, .none => true
  | .bl b, .bool c => b == c
  | .int i, .int j _ => i == j
  | .str x, .str y _ => x == y
  | .ref a, .ref b => Nat.beq a b
  | _, _ => false
theorem matB_ok {v : V} {u : Value} (h : matB v u = true) : RelV v u := by
  unfold matB at h
  split at h
  · rfl
  · rw [beq_iff_eq.mp h]; rfl
  · rw [beq_iff_eq.mp h]; exact ⟨_, rfl⟩
  · rw [beq_iff_eq.mp h]; exact ⟨_, rfl⟩
  · rw [Nat.eq_of_beq_eq_true h]; rfl
  · cases h
def valsB : List V → List Value → Bool
  | [], [] => true
  | v :: vs, u :: us => matB v u && valsB vs us
  | _, _ => false
theorem valsB_ok : ∀ {vs : List V} {us : List Value}, valsB vs us = true → Vals vs us
  | [], [], _ => .nil
  | v :: vs, u :: us, h => by
    have h : (matB v u && valsB vs us) = true := h
    simp only [Bool.and_eq_true] at h
    exact .cons (matB_ok h.1) (valsB_ok h.2)
  | [], _ :: _, h => by cases h
  | _ :: _, [], h => by cases h
def gloB (K : Fr) (x : Str) : Bool := eqO (PySem.W.nsIn K mainGlobals x) (some (some (.ref (ga K x))))
def freeB (K : Fr) (x : Str) : Bool := eqO (PySem.W.nsIn K mainGlobals x) (some none)
def litB (K : Fr) (x : Str) (v : V) : Bool := match PySem.W.nsIn K mainGlobals x with
  | some (some u) => matB v u
  | _ => false
theorem int_at {K : Fr} {x : Str} {i : Int} (h : litB K x (.int i) = true) : ∃ t, PySem.W.nsIn K mainGlobals x = some (some (.int i t)) := by
  unfold litB at h
  split at h
  · rename_i u e
    obtain ⟨t, rfl⟩ := matB_ok h
    exact ⟨t, e⟩
  · cases h
theorem str_at {K : Fr} {x z : Str} (h : litB K x (.str z) = true) : ∃ t, PySem.W.nsIn K mainGlobals x = some (some (.str z t)) := by
  unfold litB at h
  split at h
  · rename_i u e
    obtain ⟨t, rfl⟩ := matB_ok h
    exact ⟨t, e⟩
  · cases h
/-- a tuple at an address -/
def tupB (K : Fr) (a : Addr) (vs : List V) : Bool := match K.lookup a with
  | some ⟨.type n, _, .seq its _, _⟩ => n == "tuple" && (Nat.ble its.size 100 && valsB vs its.toList)
  | _ => false
theorem tup_at {K : Fr} {a : Addr} {vs : List V} (h : tupB K a vs = true) : ∃ gd gi gn gs, K.lookup a = some ⟨.type "tuple", gd, .seq gi gn, gs⟩ ∧ gi.size ≤ sizeLine ∧ Vals vs gi.toList := by
  unfold tupB at h
  split at h
  · rename_i n gd gi gn gs e
    simp only [Bool.and_eq_true] at h
    rw [beq_iff_eq.mp h.1] at e
    exact ⟨gd, gi, gn, gs, e, Nat.le_trans (Nat.le_of_ble_eq_true h.2.1) (by decide), valsB_ok h.2.2⟩
  · cases h
theorem tup0_at {K : Fr} {a : Addr} (h : tupB K a [] = true) : ∃ (eo : Option Addr) (ei : Array Value) (en : Nat) (es : Array (Option Value)), K.lookup a = some ⟨.type "tuple", eo, .seq ei en, es⟩ ∧ ei = #[] := by
  obtain ⟨gd, gi, gn, gs, e, _, v⟩ := tup_at h
  refine ⟨gd, gi, gn, gs, e, ?_⟩
  cases hv : gi.toList with
  | nil => exact Array.toList_eq_nil_iff.mp hv
  | cons u us => rw [hv] at v; cases v
/-- the values of a def's defaults -/
def seqB (K : Fr) (a : Addr) (vs : List V) : Bool := match K.lookup a with
  | some ⟨_, _, .seq its _, _⟩ => valsB vs its.toList
  | _ => false
theorem seq_at {K : Fr} {a : Addr} {vs : List V} (h : seqB K a vs = true) : ∃ d0 dd di dn ds, K.lookup a = some ⟨d0, dd, .seq di dn, ds⟩ ∧ Vals vs di.toList := by
  unfold seqB at h
  split at h
  · rename_i d0 dd di dn ds e
    exact ⟨d0, dd, di, dn, ds, e, valsB_ok h⟩
  · cases h
/-! ## defs -/
abbrev FnW : Type := Option (Str × Str × Arguments × FuncBody × Scope × Addr × List (Str × Addr) × Addr)
def fnK (K : Fr) (a : Addr) : FnW := match K.lookup a with
  | some ⟨_, _, .func fd, _⟩ => some (fd.name, fd.qualname, fd.params, fd.body, fd.scope, fd.globals, fd.closure, fd.builtins)
  | _ => none
def refA : Value → Addr
  | .ref d => d
  | _ => 0
def refB : Value → Bool
  | .ref _ => true
  | _ => false
theorem refB_ok {v : Value} (h : refB v = true) : v = .ref (refA v) := by cases v <;> first | rfl | cases h
def dfl0 : Data → Addr
  | .func fd => refA fd.defaults
  | _ => 0
def code0 : Data → Addr
  | .func fd => refA fd.code
  | _ => 0
def at11 : Data → Addr
  | .fields vs => refA ((vs.toList[11]?).getD .none)
  | _ => 0
def dtK (K : Fr) (a : Addr) : Addr := match K.lookup a with
  | some o => dfl0 o.data
  | none => 0
def dflB : Value → Bool → Bool
  | .none, b => !b
  | .ref _, b => b
  | _, _ => false
/-- the first default, an object -/
def etK (K : Fr) (a : Addr) : Addr := match K.lookup (dtK K a) with
  | some ⟨_, _, .seq its _, _⟩ => (match its.toList with
    | .ref e :: _ => e
    | _ => 0)
  | _ => 0
def cqK (K : Fr) (a : Addr) : Addr := match K.lookup a with
  | some o => code0 o.data
  | none => 0
def cpK (K : Fr) (a : Addr) : Addr := match K.lookup (cqK K a) with
  | some o => at11 o.data
  | none => 0
def dfB (K : Fr) (a : Addr) (dfl : Bool) (q : Str) : Bool := (match K.lookup a with
  | some ⟨_, _, .func fd, _⟩ => PySem.W.codeIn K fd.code q && dflB fd.defaults dfl
  | _ => false) && PySem.W.keepIn K (.ref a)
structure DefK where
  ad : Fr → Addr
  name : Str
  qual : Str
  st : Stmt
  dfl : Bool
def DefK.val (d : DefK) : FnW := some (d.name, d.qual, defArgs d.st, .stmts (defBody d.st), defScope d.st, mainGlobals, [], builtinsNs)
def dvK (K : Fr) (a : Addr) (dfl : Bool) : Value := if dfl = true then .ref (dtK K a) else .none
theorem def_at {K : Fr} {d : DefK} (e : fnK K (d.ad K) = d.val) (c : dfB K (d.ad K) d.dfl d.qual = true) :
    ∃ oc od sl kV dc pm an cd ct, K.lookup (d.ad K) = some ⟨oc, od, .func (PySem.W.fnOf d.name d.qual (defArgs d.st) (defBody d.st) (defScope d.st) (dvK K (d.ad K) d.dfl) kV dc pm an cd ct), sl⟩ ∧ PySem.W.codeIn K cd d.qual = true ∧ PySem.W.keepIn K (.ref (d.ad K)) = true := by
  unfold dfB at c
  simp only [Bool.and_eq_true] at c
  obtain ⟨c, ck⟩ := c
  unfold fnK at e
  cases q : K.lookup (d.ad K) with
  | none =>
    rw [q] at c
    cases c
  | some o =>
    obtain ⟨oc, od, dt, osl⟩ := o
    have eqd : dtK K (d.ad K) = dfl0 dt := by
      unfold dtK
      rw [q]
    rw [q] at c e
    cases dt with
    | func fd =>
      obtain ⟨n1, n2, n3, n4, n5, n6, n7, n8, n9, n10, n11, n12, n13, n14, n15⟩ := fd
      have e2 : (some (n1, n2, n3, n4, n5, n6, n7, n15) : FnW) = some (d.name, d.qual, defArgs d.st, .stmts (defBody d.st), defScope d.st, mainGlobals, [], builtinsNs) := e
      simp only [Option.some.injEq, Prod.mk.injEq] at e2
      obtain ⟨h1, h2, h3, h4, h5, h6, h7, h9⟩ := e2
      replace c : (PySem.W.codeIn K n13 d.qual && dflB n8 d.dfl) = true := c
      have c : _ ∧ _ := Bool.and_eq_true_iff.mp c
      have hd : n8 = dvK K (d.ad K) d.dfl := by
        unfold dvK
        rw [eqd]
        have c2 := c.2
        revert c2
        cases n8 with
        | none =>
          intro c2
          have : d.dfl = false := notB c2
          rw [this]
          rfl
        | ref z =>
          intro c2
          have : d.dfl = true := c2
          rw [this]
          rfl
        | _ => intro c2; cases c2
      subst h1 h2 h3 h4 h5 h6 h7 h9
      rw [← hd]
      exact ⟨oc, od, osl, n9, n10, n11, n12, n13, n14, rfl, (by exact c.1), ck⟩
    | _ => cases c
/-! ## dicts of texts and numbers -/
abbrev TbW : Type := Option (List (Option (Str × Int × Int)))
def entW (e : DictEntry) : Option (Str × Int × Int) := match e.key, e.val with
  | .str x _, .int i _ => some (x, e.hash, i)
  | _, _ => none
def tbK (K : Fr) (x : Str) : TbW := match K.lookup (ga K x) with
  | some ⟨.type n, none, .dict es _, sl⟩ => if (n == "dict" && Nat.beq sl.size 0) = true then some (es.toList.map entW) else none
  | _ => none
def tbVal (P : Params) (tab : List (Str × Int)) : TbW := some (tab.map fun p => some (p.1, PyData.keyHash P p.1, p.2))
theorem tabOk_of {P : Params} : ∀ {tab : List (Str × Int)} {l : List DictEntry}, l.map entW = (tab.map fun p => some (p.1, PyData.keyHash P p.1, p.2)) → TabOk P tab l
  | [], [], _ => trivial
  | [], _ :: _, h => by cases h
  | _ :: _, [], h => by cases h
  | p :: tab, e :: l, h => by
    simp only [List.map_cons, List.cons.injEq] at h
    refine ⟨?_, tabOk_of h.2⟩
    have h1 := h.1
    unfold entW at h1
    split at h1
    · rename_i x t i u e1 e2
      simp only [Option.some.injEq, Prod.mk.injEq] at h1
      obtain ⟨rfl, h3, rfl⟩ := h1
      exact ⟨_, _, e1, h3, e2⟩
    · cases h1
theorem tb_at {K : Fr} {P : Params} {x : Str} {tab : List (Str × Int)} (e : tbK K x = tbVal P tab) : ∃ es cn, K.lookup (ga K x) = some ⟨.type "dict", none, .dict es cn, #[]⟩ ∧ TabOk P tab es.toList := by
  unfold tbK at e
  split at e
  · rename_i n es cn sl q
    split at e
    · rename_i h
      simp only [Bool.and_eq_true] at h
      have hs : sl = #[] := Array.eq_empty_of_size_eq_zero (Nat.eq_of_beq_eq_true h.2)
      rw [beq_iff_eq.mp h.1, hs] at q
      exact ⟨es, cn, q, tabOk_of (Option.some.inj e)⟩
    · cases e
  · cases e
/-! ## properties -/
def prK (K : Fr) (C : Addr) (m : Str) : Addr := match PySem.W.recIn K (ma K C m) "property" with
  | some (.ref f :: _) => f
  | _ => 0
def prB (K : Fr) (C : Addr) (m : Str) : Bool := match PySem.W.recIn K (ma K C m) "property" with
  | some (.ref _ :: _) => true
  | _ => false
theorem pr_at {K : Fr} {C : Addr} {m : Str} (h : prB K C m = true) : ∃ pr, PySem.W.recIn K (ma K C m) "property" = some (.ref (prK K C m) :: pr) := by
  unfold prB at h
  unfold prK
  split at h
  · rename_i f r e
    rw [e]
    exact ⟨r, rfl⟩
  · cases h
/-! ## defs with lambdas -/
def func0 : Data → Bool
  | .func fd => refB fd.code
  | _ => false
def fld11 : Data → Bool
  | .fields vs => refB ((vs.toList[11]?).getD .none)
  | _ => false
def lamB (K : Fr) (a : Addr) : Bool := (match K.lookup a with
  | some o => func0 o.data
  | none => false) && ((match K.lookup (cqK K a) with
  | some o => fld11 o.data
  | none => false) && (PySem.W.codeHdIn K (cqK K a) (cpK K a) && (K.lookup (cpK K a)).isNone))
theorem lam_at {K : Fr} {a : Addr} (h : lamB K a = true) : (∃ lv ld la ls, K.lookup (cqK K a) = some ⟨lv, ld, .fields la, ls⟩ ∧ la[11]? = some (.ref (cpK K a))) ∧ PySem.W.codeHdIn K (cqK K a) (cpK K a) = true ∧ K.lookup (cpK K a) = none ∧
    ∀ oc od fd sl, K.lookup a = some ⟨oc, od, .func fd, sl⟩ → fd.code = .ref (cqK K a) := by
  unfold lamB at h
  simp only [Bool.and_eq_true] at h
  obtain ⟨h1, h2, h3, h4⟩ := h
  refine ⟨?_, h3, Option.isNone_iff_eq_none.mp h4, fun oc od fd sl e => ?_⟩
  · cases e : K.lookup (cqK K a) with
    | none => rw [e] at h2; cases h2
    | some o =>
      obtain ⟨lv, ld, dt, ls⟩ := o
      have ec : cpK K a = at11 dt := by
        unfold cpK
        rw [e]
      rw [e] at h2
      cases dt with
      | fields la =>
        refine ⟨lv, ld, la, ls, rfl, ?_⟩
        rw [ec]
        have h2 : refB ((la.toList[11]?).getD .none) = true := h2
        show _ = some (Value.ref (refA ((la.toList[11]?).getD .none)))
        rw [← Array.getElem?_toList]
        cases e2 : la.toList[11]? with
        | none => rw [e2] at h2; cases h2
        | some v =>
          rw [e2] at h2
          exact congrArg some (refB_ok h2)
      | _ => cases h2
  · rw [e] at h1
    have h1 : refB fd.code = true := h1
    have ec : cqK K a = refA fd.code := by
      unfold cqK
      rw [e]
      rfl
    rw [ec]
    exact refB_ok h1
/-! ## what the module's names reach -/
def rootsK (g : Addr → Option Obj) (names : List Str) : List Addr := match g mainGlobals with
  | some ⟨_, _, .dict es _, _⟩ => names.filterMap fun x => match es.toList.find? (·.key.isStr x) with
    | some e => (match e.val with
      | .ref a => some a
      | _ => none)
    | none => none
  | _ => []
/-- what an object names; of a code object nothing -/
def refsX (o : Obj) : List Addr := match o.cls with
  | .type n => if (n == "code") = true then [] else He.refsO o
  | _ => He.refsO o
/-- the addresses that are new among those that some objects name -/
def newK (g : Addr → Option Obj) (old : List Addr) : List Addr → List Addr → List Addr
  | [], acc => acc
  | a :: as, acc => newK g old as (match g a with
    | some o => (refsX o).foldl (fun acc b => if (old.any (Nat.beq b) || acc.any (Nat.beq b)) = true then acc else b :: acc) acc
    | none => acc)
def reachK (g : Addr → Option Obj) : Nat → List Addr → List Addr → List Addr
  | 0, old, _ => old
  | n + 1, old, front => (fun nw => reachK g n (old ++ nw) nw) (newK g old front [])
def fragK (g : Addr → Option Obj) (names : List Str) (n : Nat) (lams : List Str) : Fr :=
  (fun as => (fun cps => frG g (as.filter fun a => !cps.any (Nat.beq a))) (lams.map fun x => cpK (frG g as) (ga (frG g as) x))) (mainGlobals :: reachK g n (rootsK g names) (rootsK g names))
/-! ## the Hook -/
structure HeadK where
  names : List Str
  n : Nat
  lams : List Str
  facts : List (Fr → Bool)
  defs : List DefK
  tabs : List (Str × List (Str × Int))
abbrev AlK : Type := Bool × List FnW × List TbW
def HeadK.look (hd : HeadK) (g : Addr → Option Obj) (K : Fr) : AlK :=
  ((hd.facts.all fun f => f K) && ((hd.defs.all fun d => dfB K (d.ad K) d.dfl d.qual) && hd.lams.all fun x => lamB K (ga K x) && (match g (cpK K (ga K x)) with
    | some ⟨.none, none, .fields vs, sl⟩ => Nat.beq vs.size 0 && Nat.beq sl.size 0
    | _ => false)), hd.defs.map fun d => fnK K (d.ad K), hd.tabs.map fun p => tbK K p.1)
def HeadK.val (hd : HeadK) (P : Params) : AlK := (true, hd.defs.map DefK.val, hd.tabs.map fun p => tbVal P p.2)
structure HeadK.Says (hd : HeadK) (w : World) (h : Heap) (K : Fr) : Prop where
  in_ : K.In h
  fact : ∀ (i : Nat) (f : Fr → Bool), hd.facts[i]? = some f → f K = true
  def_ : ∀ (i : Nat) (d : DefK), hd.defs[i]? = some d → fnK K (d.ad K) = d.val ∧ dfB K (d.ad K) d.dfl d.qual = true
  tab : ∀ (i : Nat) (p : Str × List (Str × Int)), hd.tabs[i]? = some p → tbK K p.1 = tbVal w.params p.2
  lam : ∀ (i : Nat) (x : Str), hd.lams[i]? = some x → lamB K (ga K x) = true ∧ h.get? (cpK K (ga K x)) = some { cls := .none, data := .fields #[] }
theorem HeadK.says_of {hd : HeadK} {w : World} {h : Heap} {K : Fr} (X : K.In h) (e : hd.look h.get? K = hd.val w.params) : hd.Says w h K := by
  have e1 := congrArg (fun z : AlK => z.1) e
  have e2 := congrArg (fun z : AlK => z.2.1) e
  have e3 := congrArg (fun z : AlK => z.2.2) e
  dsimp only [HeadK.look, HeadK.val] at e1 e2 e3
  simp only [Bool.and_eq_true] at e1
  obtain ⟨a1, a2, a3⟩ := e1
  refine ⟨X, fun i f hf => List.all_eq_true.mp a1 f (List.mem_of_getElem? hf), fun i d hf => ⟨?_, List.all_eq_true.mp a2 d (List.mem_of_getElem? hf)⟩, fun i p hf => ?_, fun i x hf => ?_⟩
  · have z : (hd.defs.map fun d => fnK K (d.ad K))[i]? = (hd.defs.map DefK.val)[i]? := by rw [e2]
    rw [List.getElem?_map, List.getElem?_map, hf] at z
    exact Option.some.inj z
  · have z : (hd.tabs.map fun p => tbK K p.1)[i]? = (hd.tabs.map fun p => tbVal w.params p.2)[i]? := by rw [e3]
    rw [List.getElem?_map, List.getElem?_map, hf] at z
    exact Option.some.inj z
  · have z := List.all_eq_true.mp a3 x (List.mem_of_getElem? hf)
    simp only [Bool.and_eq_true] at z
    refine ⟨z.1, ?_⟩
    have z2 := z.2
    split at z2
    · rename_i vs sl q
      rw [q]
      simp only [Bool.and_eq_true] at z2
      rw [Array.eq_empty_of_size_eq_zero (Nat.eq_of_beq_eq_true z2.1), Array.eq_empty_of_size_eq_zero (Nat.eq_of_beq_eq_true z2.2)]
    · cases z2
def HeadK.obs (hd : HeadK) (g : Addr → Option Obj) : AlK := (fun K => hd.look g K) (fragK g hd.names hd.n hd.lams)
def HeadK.hook (hd : HeadK) : PySem.W.Hook where
  α := AlK
  obs := fun s => hd.obs s.heap.get?
  val := fun w => hd.val w.params
  says := fun w h => ∃ K : Fr, hd.Says w h K
  of := fun w s e => ⟨fragK s.heap.get? hd.names hd.n hd.lams, HeadK.says_of frG_in e⟩
  keeps := fun _ _ _ ⟨K, c⟩ k => ⟨K, c.in_.keeps k, c.fact, c.def_, c.tab, fun i x hf => ⟨(c.lam i x hf).1, k _ _ (c.lam i x hf).2⟩⟩
def HeadK.ob (hd : HeadK) (s : PySem.W.SharedT) : AlK := hd.obs (HandSHeadRun.getT s)
theorem HeadK.ob_eq (hd : HeadK) (s : PySem.W.SharedT) : hd.ob s = hd.hook.obs s.abs := by
  have e : HandSHeadRun.getT s = s.abs.heap.get? := funext (HandSHeadRun.getT_eq s)
  unfold HeadK.ob
  rw [e]
  rfl
/-! ## the law's end -/
theorem walkE {l : PySem.W.OpenLaw} {k : Nat} {q : Program} {loose : List Str} {XP : (Str → Option Value) → Heap → Prop} {YP : World → Heap → Prop} {d : DefRec} {x : Str}
    (hn : l.most = some 63) (hdf : d.params.defaults = []) (hr : Room k callerA)
    (F : ∀ (w : World) (mg : Str → Option Value) (fa : Addr) (h : Heap), YP w h → h.Ns mainGlobals mg → mg d.name = some (.ref fa) →
      ∃ (K : Fr) (fd : FuncData), K.In h ∧ (∀ (z : Shared) (u : Value), BindsTo z fd ⟨[u], []⟩ [(x, u)]) ∧ ∀ base : Heap, K.In base → base.Ns mainGlobals mg → FnG l.prog w K mg base k fa fd [x] (spScr K)) :
    PySem.W.WalkO q loose XP YP l.row.toRowW d [] (fun f vs => PySem.call f vs) := by
  refine Att.attach_call hn hdf fun w s₀ s₁ mg mb fa o pm cd doc a vs ns G Y ho hd hcd hmg hobj hints hlen hg => ?_
  obtain ⟨K, fd, KX, hb, hF⟩ := F w mg fa _ Y G.T.g hmg
  exact lawG KX G.T.g G.T.b G.T.builtins G.T.nolimit hg hobj hints (Nat.le_trans hlen (by decide)) hr hF hb fun H hS => ⟨a, ns, rfl, hS, hlen, fun _ => rfl⟩
theorem walkET {l : PySem.W.OpenLaw} {k : Nat} {q : Program} {loose : List Str} {XP : (Str → Option Value) → Heap → Prop} {YP : World → Heap → Prop} {d : DefRec} {x : Str}
    (hn : l.most = some 63) (hdf : d.params.defaults = []) (hr : Room k callerA)
    (F : ∀ (w : World) (mg : Str → Option Value) (fa : Addr) (h : Heap), YP w h → h.Ns mainGlobals mg → mg d.name = some (.ref fa) →
      ∃ (K : Fr) (fd : FuncData) (cs : List (Addr × Addr)), K.In h ∧ (∀ p ∈ cs, PySem.W.CodeHd h p.1 p.2) ∧ (∀ p ∈ cs, h.get? p.2 = some { cls := .none, data := .fields #[] }) ∧ (∀ p ∈ cs, K.lookup p.2 = none) ∧ (∀ (z : Shared) (u : Value), BindsTo z fd ⟨[u], []⟩ [(x, u)]) ∧
        ∀ base : Heap, K.In base → base.Ns mainGlobals mg → (∀ p ∈ cs, LamX.TabB base mg p.1 p.2) → FnG l.prog w K mg base k fa fd [x] (spScrT K (cs.map (·.2)))) :
    PySem.W.WalkO q loose XP YP l.row.toRowW d [] (fun f vs => PySem.call f vs) := by
  refine Att.attach_call hn hdf fun w s₀ s₁ mg mb fa o pm cd doc a vs ns G Y ho hd hcd hmg hobj hints hlen hg => ?_
  obtain ⟨K, fd, cs, KX, h1, h2, h3, hb, hF⟩ := F w mg fa _ Y G.T.g hmg
  exact lawT KX G.T.g G.T.b G.T.builtins G.T.nolimit hg h1 h2 h3 G.T.bmain hobj hints hlen hr hF hb
end DL

namespace DL
open PySem PySem.Spec PyProof.Rows L2
/-! # lists and tuples: +, slices, order, in, sorted, join -/
theorem RoomG.units65 {k : Nat} {A : Around} (r : RoomG k A) : A.units + 65 < cLine := by have := r.room.un; omega
/-- the items of a list, a cell's among them -/
def lstOf (S : Sto) : D → Option (List D)
  | .lst ds => some ds
  | .ref k => match S[k]? with
    | some (.lst ds) => some ds
    | _ => none
  | _ => none
section
variable {ct : CT} {K : PySem.W.Frag}
theorem lst_at {m : List Addr} {F H : Hp} {S : Sto} {d : D} {v : V} {ds : List D} (s : Sim K ct m F S H) (r : Rep K ct m F d v) (h : lstOf S d = some ds) : ∃ a vs, v = .ref a ∧ H a = some (.lst vs) ∧ Reps K ct m F ds vs := by
  cases d with
  | lst es =>
    cases h
    obtain ⟨a, vs, e1, e2, e3⟩ := r
    exact ⟨a, vs, e1, s.same _ _ e2, e3⟩
  | ref k =>
    obtain ⟨a, h1, rfl⟩ := r
    have h : (match S[k]? with
      | some (.lst ds) => some ds
      | _ => none) = some ds := h
    split at h
    · rename_i es hk
      cases h
      obtain ⟨vs, c1, c2⟩ := s.cell k a _ h1 hk
      exact ⟨a, vs, rfl, c1, c2⟩
    · cases h
  | _ => cases h
/-! + -/
def gAddX : D → D → Sto → Option (D × Sto)
  | .int i, .int j, S => some (.int (i + j), S)
  | .str x, .str y, S => if x.length + y.length ≤ 16777216 then some (.str (x ++ y), S) else none
  | .tup a, .tup b, S => if a.length + b.length ≤ 1000000 then some (.tup (a ++ b), S) else none
  | x, y, S => (lstOf S x).bind fun a => (lstOf S y).bind fun b => if a.length + b.length ≤ 1000000 then some (.lst (a ++ b), S) else none
def rAddX (K : PySem.W.Frag) : R2 := fun x y H Q => rAddAll x y H Q ∨ rCatA K x y H Q
theorem op_addX {X : Cx} : OpR X (binaryOp .Add) (rAddX X.K) := op_addAll.or op_catA
theorem cat_lists {m : List Addr} {F H : Hp} {S S' : Sto} {x y : V} {dx dy d : D} {Q : VK} (s : Sim K ct m F S H) (rx : Rep K ct m F dx x) (ry : Rep K ct m F dy y)
    (h : ((lstOf S dx).bind fun a => (lstOf S dy).bind fun b => if a.length + b.length ≤ 1000000 then some (D.lst (a ++ b), S) else none) = some (d, S')) (p : PostE ct K m F H S' d Q) : rAddX K x y H Q := by
  obtain ⟨as, h1, h⟩ := bind_some h
  obtain ⟨bs, h2, h⟩ := bind_some h
  split at h
  case isFalse => cases h
  rename_i hl
  cases h
  obtain ⟨a, vs, e1, e2, e3⟩ := lst_at s rx h1
  obtain ⟨b, us, f1, f2, f3⟩ := lst_at s ry h2
  refine .inl (.inr (.inr ⟨a, b, vs, us, e1, f1, e2, f2, by rw [line_eq, ← e3.length, ← f3.length]; omega, fun q hq => ?_⟩))
  obtain ⟨s2, x2⟩ := s.frozen hq (.lst (vs ++ us))
  exact p m _ (.ref q) _ x2 s2 ⟨q, _, rfl, upd_same, (e3.append f3).mono x2⟩
theorem od_addX : OpD ct K (rAddX K) gAddX := by
  intro m F S H x y dx dy d S' Q s rx ry h p
  unfold gAddX at h
  split at h
  · rename_i i j
    cases h
    exact .inl (.inl ⟨i, j, rx, ry, p.now s rfl⟩)
  · rename_i u v
    split at h
    · rename_i hl
      cases h
      exact .inl (.inr (.inl ⟨u, v, rx, ry, by rw [line_eq]; exact hl, p.now s rfl⟩))
    · cases h
  · rename_i as bs
    split at h
    · rename_i hl
      cases h
      obtain ⟨a, vs, e1, e2, e3⟩ := id rx
      obtain ⟨b, us, f1, f2, f3⟩ := id ry
      refine .inr ⟨a, b, vs, us, e1, f1, sqT_mono s.same e2, sqT_mono s.same f2, by rw [line_eq, ← e3.length, ← f3.length]; omega, fun hx => ?_, fun _ hy => ?_, fun _ _ q hq => ?_⟩
      · have : as = [] := List.length_eq_zero_iff.mp (by rw [e3.length, hx]; rfl)
        subst this
        exact p.now s ⟨b, us, rfl, f2, f3⟩
      · have : bs = [] := List.length_eq_zero_iff.mp (by rw [f3.length, hy]; rfl)
        subst this
        rw [List.append_nil] at p
        exact p.now s ⟨a, vs, rfl, e2, e3⟩
      · obtain ⟨s2, x2⟩ := s.frozen hq (.tup (vs ++ us))
        exact p m _ (.ref q) _ x2 s2 ⟨q, _, rfl, SqT.of upd_same, (e3.append f3).mono x2⟩
    · cases h
  · exact cat_lists s rx ry h p
/-- the sum of two lists as a cell -/
def gAddM : D → D → Sto → Option (D × Sto) := fun x y S => (lstOf S x).bind fun a => (lstOf S y).bind fun b => if a.length + b.length ≤ 1000000 then some (.ref S.length, S ++ [.lst (a ++ b)]) else none
theorem od_addM : OpD ct K (rAddX K) gAddM := by
  intro m F S H x y dx dy d S' Q s rx ry h p
  obtain ⟨as, h1, h⟩ := bind_some h
  obtain ⟨bs, h2, h⟩ := bind_some h
  split at h
  case isFalse => cases h
  rename_i hl
  cases h
  obtain ⟨a, vs, e1, e2, e3⟩ := lst_at s rx h1
  obtain ⟨b, us, f1, f2, f3⟩ := lst_at s ry h2
  refine .inl (.inr (.inr ⟨a, b, vs, us, e1, f1, e2, f2, by rw [line_eq, ← e3.length, ← f3.length]; omega, fun q hq => ?_⟩))
  obtain ⟨s2, x2⟩ := s.fresh hq (o := .lst (vs ++ us)) (c := .lst (as ++ bs)) ⟨_, rfl, e3.append f3⟩
  exact p _ _ (.ref q) _ x2 s2 ⟨q, by rw [← s.len]; simp, rfl⟩
/-! < and <= of numbers and of tuples of numbers -/
def tupI : D → Option (List Int)
  | .tup ds => asInts ds
  | _ => none
theorem tupI_at {m : List Addr} {F H : Hp} {S : Sto} {d : D} {v : V} {ns : List Int} (s : Sim K ct m F S H) (r : Rep K ct m F d v) (h : tupI d = some ns) : ∃ a, v = .ref a ∧ SqT K H a (ns.map V.int) := by
  cases d with
  | tup ds =>
    obtain ⟨a, vs, e1, e2, e3⟩ := r
    have := e3.asInts h
    subst this
    exact ⟨a, e1, sqT_mono s.same e2⟩
  | _ => cases h
def gLtX : D → D → Sto → Option (D × Sto)
  | .int i, .int j, S => some (.bl (decide (i < j)), S)
  | x, y, S => (tupI x).bind fun ns => (tupI y).bind fun ms => some (.bl (HT.lexLt ns ms), S)
def leL : List Int → List Int → Bool
  | [], _ => true
  | _ :: _, [] => false
  | x :: xs, y :: ys => if x = y then leL xs ys else decide (x ≤ y)
def gLeX : D → D → Sto → Option (D × Sto)
  | .int i, .int j, S => some (.bl (decide (i ≤ j)), S)
  | x, y, S => (tupI x).bind fun ns => (tupI y).bind fun ms => some (.bl (leL ns ms), S)
theorem lexAt_shift {e r : Nat → Bool} {z : Bool} : ∀ (k i : Nat), Ob.lexAt e r z (i + 1) k = Ob.lexAt (fun j => e (j + 1)) (fun j => r (j + 1)) z i k
  | 0, i => rfl
  | k + 1, i => by
    rw [Ob.lexAt_succ, Ob.lexAt_succ, lexAt_shift k (i + 1)]
theorem leL_eq : ∀ ns ms : List Int, Ob.lexAt (fun j => decide (ns.getD j 0 = ms.getD j 0)) (fun j => decide (ns.getD j 0 ≤ ms.getD j 0)) (decide (ns.length ≤ ms.length)) 0 (min ns.length ms.length) = leL ns ms
  | [], ms => by simp [Ob.lexAt, leL]
  | x :: xs, [] => by simp [Ob.lexAt, leL]
  | x :: xs, y :: ys => by
    have ih := leL_eq xs ys
    rw [show min (x :: xs).length (y :: ys).length = min xs.length ys.length + 1 by simp [Nat.succ_min_succ], Ob.lexAt_succ, lexAt_shift]
    simp only [List.getD_cons_zero, List.getD_cons_succ, List.length_cons, Nat.add_le_add_iff_right]
    rw [ih]
    simp only [leL, decide_eq_true_eq]
def rLtX (K : PySem.W.Frag) : R2 := fun x y H Q => rI0 (fun i j => .bl (decide (i < j))) x y H Q ∨ rLtT K x y H Q
def rLeX (K : PySem.W.Frag) : R2 := fun x y H Q => rI0 (fun i j => .bl (decide (i ≤ j))) x y H Q ∨ rLeT K x y H Q
theorem op_ltX {X : Cx} {k : Nat} (hr : RoomG k X.A) : OpR X (compareOp .Lt) (rLtX X.K) := op_lt.or (op_ltT (Nat.lt_of_le_of_lt (Nat.le_add_right _ 64) hr.units))
theorem op_leX {X : Cx} {k : Nat} (hr : RoomG k X.A) : OpR X (compareOp .LtE) (rLeX X.K) := op_le.or (op_leT (Nat.lt_of_le_of_lt (Nat.le_add_right _ 64) hr.units))
theorem od_ltX : OpD ct K (rLtX K) gLtX := by
  intro m F S H x y dx dy d S' Q s rx ry h p
  unfold gLtX at h
  split at h
  · rename_i i j
    cases h
    exact .inl ⟨i, j, rx, ry, p.now s rfl⟩
  · obtain ⟨ns, h1, h⟩ := bind_some h
    obtain ⟨ms, h2, h⟩ := bind_some h
    cases h
    obtain ⟨a, e1, e2⟩ := tupI_at s rx h1
    obtain ⟨b, f1, f2⟩ := tupI_at s ry h2
    exact .inr ⟨a, b, ns, ms, e1, f1, e2, f2, p.now s rfl⟩
theorem od_leX : OpD ct K (rLeX K) gLeX := by
  intro m F S H x y dx dy d S' Q s rx ry h p
  unfold gLeX at h
  split at h
  · rename_i i j
    cases h
    exact .inl ⟨i, j, rx, ry, p.now s rfl⟩
  · obtain ⟨ns, h1, h⟩ := bind_some h
    obtain ⟨ms, h2, h⟩ := bind_some h
    cases h
    obtain ⟨a, e1, e2⟩ := tupI_at s rx h1
    obtain ⟨b, f1, f2⟩ := tupI_at s ry h2
    refine .inr ⟨a, b, ns, ms, e1, f1, e2, f2, ?_⟩
    rw [leL_eq]
    exact p.now s rfl
/-! in a list of tuples -/
def inDeep (neg : Bool) (x : D) (ds : List D) : Option D := (toP x).bind fun p => (toPs ds).bind fun qs => if SeqAt.shaped p = true ∧ SeqAt.shaped (.list qs) = true then some (.bl (if neg then !qs.any (fun z => PyData.eqv z p) else qs.any fun z => PyData.eqv z p)) else none
def gInX (neg : Bool) : D → D → Sto → Option (D × Sto) := fun x y S => match gInB neg x y S with
  | some r => some r
  | none => (lstOf S y).bind fun ds => (inDeep neg x ds).map fun d => (d, S)
def rInX (K : PySem.W.Frag) : R2 := fun x y H Q => rInAll K x y H Q ∨ rInD K x y H Q
def rNotInX (K : PySem.W.Frag) : R2 := fun x y H Q => rNotInAll K x y H Q ∨ rNotInD K x y H Q
theorem op_inX {X : Cx} {k : Nat} (hr : RoomG k X.A) : OpR X (compareOp .In) (rInX X.K) := op_inAll.or (op_inD hr.units65)
theorem op_notInX {X : Cx} {k : Nat} (hr : RoomG k X.A) : OpR X (compareOp .NotIn) (rNotInX X.K) := op_notInAll.or (op_notInD hr.units65)
theorem in_deep {neg : Bool} {m : List Addr} {F H : Hp} {S S' : Sto} {x y : V} {dx dy d : D} {Q : VK} (s : Sim K ct m F S H) (rx : Rep K ct m F dx x) (ry : Rep K ct m F dy y)
    (h : ((lstOf S dy).bind fun ds => (inDeep neg dx ds).map fun d => (d, S)) = some (d, S')) (p : PostE ct K m F H S' d Q) : ∃ dp ds, Dp K H x dp ∧ Dp K H y (.list ds) ∧ SeqAt.shaped dp = true ∧ SeqAt.shaped (.list ds) = true ∧ Q (.bl (if neg then !ds.any (fun z => PyData.eqv z dp) else ds.any fun z => PyData.eqv z dp)) H := by
  obtain ⟨ds, h1, h⟩ := bind_some h
  obtain ⟨z, h2, e⟩ := map_some h
  cases e
  unfold inDeep at h2
  obtain ⟨dp, g1, h2⟩ := bind_some h2
  obtain ⟨qs, g2, h2⟩ := bind_some h2
  split at h2
  case isFalse => cases h2
  rename_i hs
  cases h2
  obtain ⟨a, vs, e1, e2, e3⟩ := lst_at s ry h1
  subst e1
  exact ⟨dp, qs, Rep.dp s.same _ _ _ rx g1, .lst (SqL.of e2) (Reps.dp s.same _ _ _ e3 g2), hs.1, hs.2, p.now s rfl⟩
theorem od_inX : OpD ct K (rInX K) (gInX false) := by
  intro m F S H x y dx dy d S' Q s rx ry h p
  unfold gInX at h
  split at h
  · rename_i r hr
    cases h
    exact .inl (od_in m F S H x y dx dy d S' Q s rx ry hr p)
  · exact .inr (in_deep (neg := false) s rx ry h p)
theorem od_notInX : OpD ct K (rNotInX K) (gInX true) := by
  intro m F S H x y dx dy d S' Q s rx ry h p
  unfold gInX at h
  split at h
  · rename_i r hr
    cases h
    exact .inl (od_notIn m F S H x y dx dy d S' Q s rx ry hr p)
  · exact .inr (in_deep (neg := true) s rx ry h p)
end
/-! ## slices -/
def gSlX : D → Option Int → Option Int → Sto → Option (D × Sto)
  | .lst ds, lo, hi, S => some (.lst (cutD ds lo hi), S)
  | .scr ns, lo, hi, S => some (.lst ((cutD ns lo hi).map .int), S)
  | .tup ds, lo, hi, S => some (.tup (cutD ds lo hi), S)
  | .str z, lo, hi, S => if z.length ≤ 16777216 then some (.str (cutS z lo hi), S) else none
  | .ref k, lo, hi, S => match S[k]? with
    | some (.lst ds) => some (.lst (cutD ds lo hi), S)
    | _ => none
  | _, _, _, _ => none
def rSlX (K : PySem.W.Frag) : V → Option Int → Option Int → Hp → VK → Prop := fun x lo hi H Q => rSlL K x lo hi H Q ∨ (rSlA K x lo hi H Q ∨ rSlS x lo hi H Q)
def fSlX (fa : FE) (lo hi : FO) : FE := fun env S => (fa env S).bind fun p => (lo env p.2).bind fun q => (hi env q.2).bind fun r => gSlX p.1 q.1 r.1 r.2
section
variable {ct : CT} {X : Cx} {a : Expr} {fa : FE}
theorem sl_allX : SlR X (rSlX X.K) := sl_list.or (sl_tupA.or sl_str)
theorem cut_whole {α : Type} {xs : List α} {lo hi : Option Int} (h : HT.sIx xs.length 0 lo = 0 ∧ HT.sIx xs.length xs.length hi = xs.length) : cutD xs lo hi = xs := by
  unfold cutD
  rw [h.1, h.2]
  simp
theorem se_sliceX {lo hi : Option Expr} {fl fh : FO} {p2 pos : Pos} (he : SE ct X a fa) (hl : SO ct X lo fl) (hh : SO ct X hi fh) : SE ct X (.Subscript a (.Slice lo hi none p2) pos) (fSlX fa fl fh) := by
  obtain ⟨ta, pa, ra⟩ := he
  obtain ⟨tb, pb, rb⟩ := hl
  obtain ⟨tc, pc, rc⟩ := hh
  refine ⟨_, pe_slice sl_allX pa pb pc, fun m F S σ H env d S' Q s en h p => ?_⟩
  obtain ⟨⟨z, S1⟩, h1, h⟩ := bind_some h
  obtain ⟨⟨i, S2⟩, h2, h⟩ := bind_some h
  obtain ⟨⟨j, S3⟩, h3, h⟩ := bind_some h
  refine ra m F S σ H env z S1 _ s en h1 fun m1 F1 v1 H1 x1 s1 r1 => ?_
  refine rb m1 F1 S1 σ H1 env i S2 _ s1 (en.mono x1) h2 fun m2 F2 H2 x2 s2 => ?_
  refine rc m2 F2 S2 σ H2 env j S3 _ s2 ((en.mono x1).mono x2) h3 fun m3 F3 H3 x3 s3 => ?_
  have p3 := ((p.ext x1).ext x2).ext x3
  have r3 := (r1.mono x2).mono x3
  have lists : ∀ (q : Addr) (vs : List V) (ds : List D), v1 = .ref q → H3 q = some (.lst vs) → Reps X.K ct m3 F3 ds vs → d = .lst (cutD ds i j) → S' = S3 → rSlX X.K v1 i j H3 Q := fun q vs ds e1 e2 e3 ed es => by
    subst ed es
    refine .inl ⟨q, vs, e1, SqL.of e2, fun w hw => ?_⟩
    obtain ⟨s4, x4⟩ := s3.frozen hw (.lst (cutV vs i j))
    exact p3 _ _ (.ref w) _ x4 s4 ⟨w, _, rfl, upd_same, (cutD_reps e3 i j).mono x4⟩
  cases z with
  | lst ds =>
    cases h
    obtain ⟨q, vs, e1, e2, e3⟩ := r3
    exact lists q vs ds e1 (s3.same _ _ e2) e3 rfl rfl
  | ref k =>
    have h : (match S3[k]? with
      | some (.lst ds) => some (D.lst (cutD ds i j), S3)
      | _ => none) = some (d, S') := h
    split at h
    · rename_i ds hk
      cases h
      obtain ⟨q, g1, g2⟩ := r3
      obtain ⟨vs, c1, c2⟩ := s3.cell k q _ g1 hk
      exact lists q vs ds g2 c1 c2 rfl rfl
    · cases h
  | scr ns =>
    cases h
    obtain ⟨q, e1, e2⟩ := r3
    refine .inl ⟨q, _, e1, s3.same.seq e2, fun w hw => ?_⟩
    obtain ⟨s4, x4⟩ := s3.frozen hw (.lst (cutV (ns.map V.int) i j))
    refine p3 _ _ (.ref w) _ x4 s4 ⟨w, _, rfl, upd_same, ?_⟩
    have := cutD_reps (K := X.K) (ct := ct) (m := m3) (F := upd F3 w (.lst (cutV (ns.map V.int) i j))) (Reps.ints ns) i j
    have e : cutD (ns.map D.int) i j = (cutD ns i j).map D.int := by
      unfold cutD
      rw [List.length_map, List.map_take, List.map_drop]
    rw [e] at this
    exact this
  | tup ds =>
    cases h
    obtain ⟨q, vs, e1, e2, e3⟩ := r3
    refine .inr (.inl ⟨q, vs, e1, sqT_mono s3.same e2, fun hw => ?_, fun _ w hw => ?_⟩)
    · rw [← e3.length] at hw
      rw [cut_whole hw] at p3
      exact p3.now s3 ⟨q, vs, rfl, e2, e3⟩
    · obtain ⟨s4, x4⟩ := s3.frozen hw (.tup (cutV vs i j))
      exact p3 _ _ (.ref w) _ x4 s4 ⟨w, _, rfl, SqT.of upd_same, (cutD_reps e3 i j).mono x4⟩
  | str z =>
    have h : (if z.length ≤ 16777216 then some (D.str (cutS z i j), S3) else none) = some (d, S') := h
    split at h
    · rename_i hl
      cases h
      exact .inr (.inr ⟨_, r3, by rw [line_eq]; exact hl, p3.now s3 rfl⟩)
    · cases h
  | _ => cases h
end
/-! ## join -/
def asStrs : List D → Option (List Str)
  | [] => some []
  | .str x :: ds => (asStrs ds).map fun r => x :: r
  | _ :: _ => none
theorem Reps.asStrs {K : PySem.W.Frag} {ct : CT} {m : List Addr} {F : Hp} : ∀ {ds : List D} {vs : List V} {ys : List Str}, Reps K ct m F ds vs → DL.asStrs ds = some ys → vs = ys.map V.str
  | [], _, _, h, e => by cases e; exact h
  | .str x :: ds, _, _, h, e => by
    obtain ⟨v, r, e1, e2, e3⟩ := h
    obtain ⟨ys, h1, rfl⟩ := map_some (show (DL.asStrs ds).map _ = some _ from e)
    have e2 : v = _ := e2
    rw [e1, e2, Reps.asStrs e3 h1]
    rfl
  | .non :: _, _, _, _, e => by cases e
  | .bl _ :: _, _, _, _, e => by cases e
  | .int _ :: _, _, _, _, e => by cases e
  | .tup _ :: _, _, _, _, e => by cases e
  | .lst _ :: _, _, _, _, e => by cases e
  | .dct _ _ :: _, _, _, _, e => by cases e
  | .scr _ :: _, _, _, _, e => by cases e
  | .ref _ :: _, _, _, _, e => by cases e
  | .obj _ _ _ :: _, _, _, _, e => by cases e
  | .exc _ _ _ :: _, _, _, _, e => by cases e
def fJoin (fo fe : FE) : FE := fun env S => (fo env S).bind fun p => match p.1 with
  | .str a => (fe env p.2).bind fun q => (lstOf q.2 q.1).bind fun ds => (asStrs ds).bind fun ys => if (ys.map (·.length)).sum + ys.length * a.length ≤ 16777216 then some (.str (Txt.join a ys), q.2) else none
  | _ => none
section
variable {ct : CT} {X : Cx} {o e : Expr} {fo fe : FE}
theorem se_join {apos pos : Pos} (ho : SE ct X o fo) (he : SE ct X e fe) (hs : starEach [e] X.env = [(false, eval e X.env)] := by rfl) (hbase : attributeBase o "join" X.env (eval o X.env) = eval o X.env := by rfl) (hline : (apos.endLine == pos.line) = true := by rfl) :
    SE ct X (.Call (.Attribute o "join" apos) [e] [] pos) (fJoin fo fe) := by
  obtain ⟨ta, pa, ra⟩ := ho
  obtain ⟨tb, pb, rb⟩ := he
  refine ⟨_, pe_join pa pb hs hbase hline, fun m F S σ H env d S' Q s en h p => ?_⟩
  obtain ⟨⟨z, S1⟩, h1, h⟩ := bind_some h
  refine ra m F S σ H env z S1 _ s en h1 fun m1 F1 v1 H1 x1 s1 r1 => ?_
  cases z with
  | str a =>
    obtain ⟨⟨y, S2⟩, h2, h⟩ := bind_some h
    obtain ⟨ds, h3, h⟩ := bind_some h
    obtain ⟨ys, h4, h⟩ := bind_some h
    split at h
    case isFalse => cases h
    rename_i hl
    cases h
    have r1 : v1 = _ := r1
    subst r1
    refine ⟨⟨_, rfl⟩, rb m1 F1 S1 σ H1 env y S2 _ s1 (en.mono x1) h2 fun m2 F2 v2 H2 x2 s2 r2 => ?_⟩
    obtain ⟨q, vs, e1, e2, e3⟩ := lst_at s2 r2 h3
    have := e3.asStrs h4
    subst this
    subst e1
    exact ⟨a, q, ys, rfl, rfl, .inl (SqL.of e2), hl, ((p.ext x1).ext x2).now s2 rfl⟩
  | _ => cases h
end
end DL

/-! # sorted -/
namespace PySem.W
open PySem PySem.Calls PyProof.Rows
section
variable {prog : Program} {w : World} {A : Around} {E : Value → Shared → Prop} {s : Shared}
/-- the items of a tuple, gathered -/
theorem collectTup {t : Addr} {us : List Value} {Q : List Value → Shared → Prop} (ht : s.heap.IsTuple t us.toArray)
    (h : Q us { s with heap := (s.heap.push (seqObj "list" #[] 0)).update s.heap.objs.size (Obj.mapSeq (· ++ us.toArray)) }) (hsz : us.length ≤ sizeLine) :
    wpAny (model prog w) A (collect (.ref t)) Q E s := by
  obtain ⟨o, ho, hc, n, hd⟩ := id ht
  unfold collect
  refine wpAny_bind (wpAny_runValue (codeAny_builtin entry_proto_collect' ?_))
  show wpAny _ _ (do again (.builtin "list.__iadd__" ⟨[← newList [], .ref t], []⟩)) _ _ s
  refine wpAny_bind (wpAny_newList (wpAny_pure ⟨Code.quiet_builtin _ (by decide +kernel), codeAny_builtin entry_list_iadd' ?_⟩))
  show wpAny _ _ (Builtin.List.listExtendWith (.ref s.heap.objs.size) (.ref t) (.ref s.heap.objs.size)) _ _ { s with heap := s.heap.push (seqObj "list" #[] 0) }
  unfold Builtin.List.listExtendWith
  have ho' : (s.heap.push (seqObj "list" #[] 0)).get? t = some o := Heap.get?_push_of_some _ ho
  refine wpAny_bind (wpAny_typeOf (T := "tuple") ⟨o, ho', hc⟩ ?_)
  have hty : (Value.type "tuple" == Value.type "tuple") = true := by rfl
  rw [if_pos (by rw [hty]; simp)]
  refine wpAny_bind (listItems_at ho' hd ?_)
  refine wpAny_bind (listItems_at (xs := #[]) (n := 0) (Heap.get?_push_size _ rfl) rfl ?_)
  rw [if_neg (by simp)]
  refine wpAny_bind (listUpdate_at (xs := #[]) (n := 0) (Heap.get?_push_size _ rfl) rfl ?_ (Nat.zero_le _) (by show (#[] ++ us.toArray).size ≤ sizeLine + 1; simp only [Array.size_append, List.size_toArray, List.length_nil]; omega))
  refine wpAny_pure ?_
  show wpAny (model prog w) A (do
      let o ← load s.heap.objs.size
      match o.data with
      | .seq xs _ => pure xs.toList
      | _ => unsupported "internal:collect") Q E { s with heap := (s.heap.push (seqObj "list" #[] 0)).update s.heap.objs.size (Obj.mapSeq (· ++ us.toArray)) }
  refine wpAny_bind (wpAny_load (get?_update_seq (Heap.get?_push_size _ rfl) _) ?_)
  show wpAny _ _ (pure ((#[] : Array Value) ++ us.toArray).toList) Q E _
  rw [show ((#[] : Array Value) ++ us.toArray).toList = us by simp]
  exact wpAny_pure h
theorem sortedTup {β : Type} {R : Value → β → Prop} {enc : β → PyData} {t : Addr} {us : List Value} {bs : List β} {Q : Value → Shared → Prop} (ht : s.heap.IsTuple t us.toArray) (e : EachIs R us bs) (er : EachIs (fun v b => ∃ as, Reads s.heap v (enc b) as) us bs) (hal : AllAlike (bs.map enc)) (hk : Sortable (bs.map enc)) (hL : bs.length ≤ sizeLine)
    (hu : ∀ b, b ∈ bs → A.units + 2 + (enc b).depth < cLine) (h : ∀ out, out.length = bs.length → EachIs R out (bs.mergeSort (dataLe false enc)) → Q (.ref (s.heap.objs.size + 1)) { s with heap := sortedAll s.heap us (List.toArray out) }) :
    wpAny (model prog w) A (call (.builtin "sorted") [.ref t]) Q E s := by
  have hL' : us.length ≤ sizeLine := by rw [e.length]; exact hL
  have er' : EachIs (fun v b => ∃ as, Reads (sortingHeap (copyHeap s.heap us) (s.heap.objs.size + 1) us) v (enc b) as) us bs := er.mono fun _ _ ⟨as, r⟩ => ⟨as, PyProof.Rows.Reads.keeps (fun _ _ => sorting_copy_old) r⟩
  refine call_function_entry_kw (kw := []) kind_sorted plain_sorted entry_sorted (args_sorted1 _) ?_
  unfold Builtin.«sorted»
  refine wpAny_bind (m := checkCount "sorted" 1 1 _) (wpAny_pure ?_)
  refine wpAny_bind (collectTup ht ?_ hL')
  refine wpAny_bind (wpAny_newList ?_ hL')
  have hsz : ((s.heap.push (seqObj "list" #[] 0)).update s.heap.objs.size (Obj.mapSeq (· ++ us.toArray))).objs.size = s.heap.objs.size + 1 := by
    rw [Heap.size_update, size_push']
  show wpAny _ _ _ _ _ { s with heap := copyHeap s.heap us }
  rw [hsz]
  refine wpAny_bind (wpAny_holding (wpAny_call_entry_kw slot_list_sort ⟨_, copyHeap_at s.heap us, rfl⟩ entry_list_sort ?body (args_list_sort _)))
  case body =>
    show wpAny (model prog w) A.in1.in1 (Builtin.«list.sort» ⟨[.ref (s.heap.objs.size + 1)], []⟩) _ _ _
    refine wpAny_mono (list_sort_vals (A := A.in1.in1) (s := { s with heap := copyHeap s.heap us }) (P := fun f s' => f = .done (.ret .none) ∧ Q (.ref (s.heap.objs.size + 1)) s') (copyHeap_at s.heap us) (SortsAt.data (s := { s with heap := sortingHeap (copyHeap s.heap us) (s.heap.objs.size + 1) us }) (each_map (R := fun v d => ∃ as, Reads (sortingHeap (copyHeap s.heap us) (s.heap.objs.size + 1) us) v d as) enc er') hal hk (bound_map hu)) hL' ⟨rfl, h _ (by rw [sortVals_length false rfl]; exact e.length) (sortVals_data false e er' hal)⟩) (fun f s' hf => ?_) fun _ _ e => e
    obtain ⟨rfl, hq⟩ := hf
    exact ⟨_, rfl, wpAny_pure ⟨_, rfl, hq⟩⟩
end
end PySem.W
namespace DL
open PySem PySem.Spec PyProof.Rows L2
def rSortX (K : PySem.W.Frag) : List V → Hp → VK → Prop := fun xs H Q => ∃ (a : Addr) (vs : List V) (ps : List PyData), xs = [.ref a] ∧ (SqL K H a vs ∨ SqT K H a vs) ∧ DpAll K H vs ps ∧ PySem.W.AllAlike ps ∧ PySem.W.Sortable ps ∧ (∀ p ∈ ps, p.depth ≤ 40) ∧ vs.length ≤ 1000000 ∧
  ∀ q, H q = none → Q (.ref q) (upd H q (.lst (((vs.zip ps).mergeSort (PySem.W.dataLe false fun b => b.2)).map (·.1))))
theorem each_rel {vs : List V} {us : List Value} (r : Vals vs us) : ∀ (ps : List PyData), vs.length = ps.length → PySem.W.EachIs (fun u (b : V × PyData) => RelV b.1 u) us (vs.zip ps) := by
  induction r with
  | nil => intro ps h; exact .nil
  | cons hh _ ih =>
    intro ps h
    match ps, h with
    | p :: ps, h => exact .cons hh (ih ps (by simpa using h))
theorem each_reads {hp : Heap} : ∀ {us : List Value} {ps : List PyData} {as : List Addr} (vs : List V), vs.length = ps.length → ReadsAll hp us ps as → PySem.W.EachIs (fun u (b : V × PyData) => ∃ as, Reads hp u b.2 as) us (vs.zip ps)
  | [], [], _, vs, h, r => by
    have : vs = [] := List.length_eq_zero_iff.mp h
    subst this
    exact .nil
  | _ :: us, _ :: ps, _, [], h, r => by cases h
  | u :: us, p :: ps, _, v :: vs, h, r => by
    cases r with
    | cons r1 r2 => exact .cons ⟨_, r1⟩ (each_reads vs (by simpa using h) r2)
theorem DpAll_len {K : PySem.W.Frag} {H : Hp} : ∀ {vs : List V} {ps : List PyData}, DpAll K H vs ps → vs.length = ps.length
  | [], [], _ => rfl
  | _ :: _, _ :: _, h => by
    cases h with
    | cons _ h2 => simp [DpAll_len h2]
  | [], _ :: _, h => by cases h
  | _ :: _, [], h => by cases h
theorem vals_each {us : List Value} {bs : List (V × PyData)} (h : PySem.W.EachIs (fun u (b : V × PyData) => RelV b.1 u) us bs) : Vals (bs.map (·.1)) us := by
  induction h with
  | nil => exact .nil
  | cons hh _ ih => exact .cons hh ih
theorem cr_sortX {X : Cx} {k : Nat} (hr : RoomG k X.A) : CallR X (.builtin "sorted") (rSortX X.K) := by
  intro pins s σ H xs us Q I r h
  obtain ⟨a, vs, ps, rfl, hs, hd, hal, hk, hdep, hlen, q⟩ := h
  rw [Vals.ref1 r]
  have hlp := DpAll_len hd
  have hzl : (vs.zip ps).length = vs.length := by rw [List.length_zip, hlp]; simp
  have hmap : (vs.zip ps).map (fun b => b.2) = ps := List.map_snd_zip (by omega)
  have hu : ∀ b, b ∈ vs.zip ps → X.A.units + 2 + (b.2).depth < cLine := fun b hb => by
    have := hdep b.2 (by rw [← hmap]; exact List.mem_map.mpr ⟨b, hb, rfl⟩)
    have := hr.units
    omega
  have hL : (vs.zip ps).length ≤ sizeLine := by rw [hzl, line_eq]; omega
  have key : ∀ (its : List Value), Vals vs its → ∀ out : List Value, out.length = (vs.zip ps).length → PySem.W.EachIs (fun u (b : V × PyData) => RelV b.1 u) out ((vs.zip ps).mergeSort (PySem.W.dataLe false fun b => b.2)) →
      EP X pins σ Q (.ref (s.heap.objs.size + 1)) { s with heap := sortedAll s.heap its out.toArray } := fun its rv out ho e => by
    obtain ⟨ep, he'⟩ := PyProof.Rows.sortedAll_at s.heap its out.toArray
    have v2 := vals_each e
    have hl2 : (((vs.zip ps).mergeSort (PySem.W.dataLe false fun b => b.2)).map (·.1)).length ≤ sizeLine := by
      rw [v2.length, ho]
      exact hL
    exact ⟨.ref _, upd H (s.heap.objs.size + 1) (.lst (((vs.zip ps).mergeSort (PySem.W.dataLe false fun b => b.2)).map (·.1))), I.laid (t' := s.toks) (fun _ _ => PyProof.Rows.sortedAll_old) (Nat.le_succ _) ⟨hl2, out, ep, v2, he'⟩, rfl, q _ (I.hok.fresh (Nat.le_succ _))⟩
  rcases hs with hs | hs
  · obtain ⟨its, rv, hl, hz⟩ := I.list hs
    obtain ⟨as, hra⟩ := Dp.readsAll I ps _ its hd rv
    exact PySem.W.sorted_data (R := fun u (b : V × PyData) => RelV b.1 u) (enc := fun b => b.2) hl.isList (each_rel rv ps hlp) (each_reads vs hlp hra) (by rw [hmap]; exact hal) (by rw [hmap]; exact hk) hL hu (key its rv)
  · obtain ⟨its, rv, ht, hz⟩ := I.tuple hs
    obtain ⟨as, hra⟩ := Dp.readsAll I ps _ its hd rv
    exact PySem.W.sortedTup (R := fun u (b : V × PyData) => RelV b.1 u) (enc := fun b => b.2) ht (each_rel rv ps hlp) (each_reads vs hlp hra) (by rw [hmap]; exact hal) (by rw [hmap]; exact hk) hL hu (key its rv)
/-! ## at data: numbers, pairs of numbers -/
def seqOf (S : Sto) : D → Option (List D)
  | .tup ds => some ds
  | d => lstOf S d
def insB {α : Type} (le : α → α → Bool) (x : α) : List α → List α
  | [] => [x]
  | y :: ys => if le x y = true then x :: y :: ys else y :: insB le x ys
def isort {α : Type} (le : α → α → Bool) : List α → List α
  | [] => []
  | x :: xs => insB le x (isort le xs)
def leI (a b : Int) : Bool := decide (a ≤ b)
def leP (a b : Int × Int) : Bool := decide (a.1 < b.1 ∨ (a.1 = b.1 ∧ a.2 ≤ b.2))
def pairD (p : Int × Int) : D := .tup [.int p.1, .int p.2]
def asPair : D → Option (Int × Int)
  | .tup [.int a, .int b] => some (a, b)
  | _ => none
def asPairs : List D → Option (List (Int × Int))
  | [] => some []
  | d :: ds => (asPair d).bind fun p => (asPairs ds).map fun r => p :: r
def cSorted : FD
  | [d], S => (seqOf S d).bind fun ds => if ds.length ≤ 1000000 then (match asInts ds with
    | some ns => some (.lst ((isort leI ns).map .int), S)
    | none => (asPairs ds).map fun ps => (.lst ((isort leP ps).map pairD), S)) else none
  | _, _ => none
theorem asPair_eq {d : D} {p : Int × Int} (h : asPair d = some p) : d = pairD p := by
  unfold asPair at h
  split at h
  · cases h; rfl
  · cases h
theorem asPairs_eq : ∀ {ds : List D} {ps : List (Int × Int)}, asPairs ds = some ps → ds = ps.map pairD
  | [], _, h => by cases h; rfl
  | d :: ds, _, h => by
    obtain ⟨p, h1, h⟩ := bind_some h
    obtain ⟨r, h2, rfl⟩ := map_some h
    rw [asPair_eq h1, asPairs_eq h2]
    rfl
theorem asPairs_map : ∀ ps : List (Int × Int), asPairs (ps.map pairD) = some ps
  | [] => rfl
  | p :: ps => by
    show (some p : Option _).bind (fun p => (asPairs (ps.map pairD)).map fun r => p :: r) = _
    rw [asPairs_map ps]
    rfl
theorem asInts_eq : ∀ {ds : List D} {ns : List Int}, asInts ds = some ns → ds = ns.map D.int
  | [], _, h => by cases h; rfl
  | d :: ds, ns, h => by
    cases d with
    | int i =>
      obtain ⟨r, h2, rfl⟩ := map_some (show (asInts ds).map (fun r => i :: r) = some ns from h)
      rw [asInts_eq h2]
      rfl
    | _ => cases h
/-! the sorted list is one -/
theorem ins_perm {α : Type} (le : α → α → Bool) (x : α) : ∀ l : List α, (insB le x l).Perm (x :: l)
  | [] => .refl _
  | y :: ys => by
    unfold insB
    split
    · exact .refl _
    · exact ((ins_perm le x ys).cons y).trans (.swap x y ys)
theorem isort_perm {α : Type} (le : α → α → Bool) : ∀ l : List α, (isort le l).Perm l
  | [] => .refl _
  | x :: xs => (ins_perm le x _).trans ((isort_perm le xs).cons x)
theorem ins_sorted {α : Type} {le : α → α → Bool} (h : PySem.W.TotalLe le) (x : α) : ∀ {l : List α}, l.Pairwise (fun a b => le a b = true) → (insB le x l).Pairwise (fun a b => le a b = true)
  | [], _ => by simp [insB]
  | y :: ys, hp => by
    have hp' := List.pairwise_cons.mp hp
    unfold insB
    split
    · rename_i hxy
      refine List.pairwise_cons.mpr ⟨fun z hz => ?_, hp⟩
      rcases List.mem_cons.mp hz with rfl | hz
      · exact hxy
      · exact h.trans _ _ _ hxy (hp'.1 z hz)
    · rename_i hxy
      refine List.pairwise_cons.mpr ⟨fun z hz => ?_, ins_sorted h x hp'.2⟩
      rcases List.mem_cons.mp ((ins_perm le x ys).mem_iff.mp hz) with rfl | hz
      · rcases h.total z y with q | q
        · exact absurd q hxy
        · exact q
      · exact hp'.1 z hz
theorem isort_sorted {α : Type} {le : α → α → Bool} (h : PySem.W.TotalLe le) : ∀ l : List α, (isort le l).Pairwise (fun a b => le a b = true)
  | [] => List.Pairwise.nil
  | x :: xs => ins_sorted h x (isort_sorted h xs)
theorem merge_isort {α : Type} {le : α → α → Bool} (h : PySem.W.TotalLe le) (ha : ∀ a b, le a b = true → le b a = true → a = b) (l : List α) : l.mergeSort le = isort le l := by
  refine (PySem.W.sort_unique h (isort_sorted h l) fun c => ?_).symm
  have hc : ∀ z ∈ l, PySem.W.sameRank le c z = true → z = c := fun z _ hz => by
    unfold PySem.W.sameRank at hz
    simp only [Bool.and_eq_true] at hz
    exact ha z c hz.2 hz.1
  have rep : ∀ m : List α, (m.filter (PySem.W.sameRank le c)) = List.replicate (m.filter (PySem.W.sameRank le c)).length c := fun m => by
    refine List.eq_replicate_iff.mpr ⟨rfl, fun z hz => ?_⟩
    have := (List.mem_filter.mp hz).2
    unfold PySem.W.sameRank at this
    simp only [Bool.and_eq_true] at this
    exact ha z c this.2 this.1
  rw [rep (isort le l), rep l, ((isort_perm le l).filter _).length_eq]
theorem tot_leI : PySem.W.TotalLe leI := ⟨fun a b c => by simp only [leI, decide_eq_true_eq]; omega, fun a b => by simp only [leI, decide_eq_true_eq]; omega⟩
theorem tot_leP : PySem.W.TotalLe leP := ⟨fun a b c => by simp only [leP, decide_eq_true_eq]; omega, fun a b => by simp only [leP, decide_eq_true_eq]; omega⟩
theorem anti_leI (a b : Int) (h : leI a b = true) (g : leI b a = true) : a = b := by simp only [leI, decide_eq_true_eq] at h g; omega
theorem anti_leP (a b : Int × Int) (h : leP a b = true) (g : leP b a = true) : a = b := by
  simp only [leP, decide_eq_true_eq] at h g
  obtain ⟨a1, a2⟩ := a
  obtain ⟨b1, b2⟩ := b
  simp only [Prod.mk.injEq]
  simp only at h g
  omega
section
variable {ct : CT} {K : PySem.W.Frag}
theorem seq_of {m : List Addr} {F H : Hp} {S : Sto} {d : D} {v : V} {ds : List D} (s : Sim K ct m F S H) (r : Rep K ct m F d v) (h : seqOf S d = some ds) : ∃ a vs, v = .ref a ∧ (SqL K H a vs ∨ SqT K H a vs) ∧ Reps K ct m F ds vs := by
  cases d with
  | tup es =>
    cases h
    obtain ⟨a, vs, e1, e2, e3⟩ := r
    exact ⟨a, vs, e1, .inr (sqT_mono s.same e2), e3⟩
  | lst es =>
    obtain ⟨a, vs, e1, e2, e3⟩ := lst_at s r h
    exact ⟨a, vs, e1, .inl (SqL.of e2), e3⟩
  | ref k =>
    obtain ⟨a, vs, e1, e2, e3⟩ := lst_at s r h
    exact ⟨a, vs, e1, .inl (SqL.of e2), e3⟩
  | _ => cases h
def pairP (p : Int × Int) : PyData := .tuple [.int p.1, .int p.2]
theorem toPs_pairP : ∀ ps : List (Int × Int), toPs (ps.map pairD) = some (ps.map pairP)
  | [] => rfl
  | p :: ps => by
    show ((some (pairP p) : Option PyData).bind fun a => (toPs (ps.map pairD)).map fun r => a :: r) = _
    rw [toPs_pairP ps]
    rfl
theorem reps_mem {m : List Addr} {F : Hp} : ∀ {L : List ((Int × Int) × V)}, (∀ e ∈ L, Rep K ct m F (pairD e.1) e.2) → Reps K ct m F (L.map fun e => pairD e.1) (L.map (·.2))
  | [], _ => rfl
  | e :: L, h => ⟨_, _, rfl, h e (List.mem_cons_self ..), reps_mem fun z hz => h z (List.mem_cons_of_mem _ hz)⟩
theorem reps_zip {m : List Addr} {F : Hp} : ∀ {ps : List (Int × Int)} {vs : List V}, Reps K ct m F (ps.map pairD) vs → ∀ e ∈ ps.zip vs, Rep K ct m F (pairD e.1) e.2
  | [], _, _, _, he => by simp at he
  | p :: ps, _, h, e, he => by
    obtain ⟨v, r, rfl, h1, h2⟩ := h
    rcases List.mem_cons.mp (show e ∈ (p, v) :: ps.zip r from he) with rfl | q
    · exact h1
    · exact reps_zip h2 e q
theorem zip_two {α β γ : Type} (f : α → β) (g : α → γ) : ∀ l : List α, (l.map f).zip (l.map g) = l.map fun x => (f x, g x)
  | [] => rfl
  | x :: l => by simp [zip_two f g l]
theorem zip_turn : ∀ {ps : List (Int × Int)} {vs : List V}, ps.length = vs.length → vs.zip (ps.map pairP) = (ps.zip vs).map fun e => (e.2, pairP e.1)
  | [], [], _ => rfl
  | p :: ps, v :: vs, h => by simp [zip_turn (ps := ps) (vs := vs) (by simpa using h)]
  | [], _ :: _, h => by cases h
  | _ :: _, [], h => by cases h
theorem cd_sorted : CallD ct K (rSortX K) cSorted := by
  intro m F S H xs ds0 d S' Q s r h p
  match ds0, h with
  | [d1], h =>
    obtain ⟨v, rfl, rv⟩ := reps1 r
    obtain ⟨ds, h1, h⟩ := bind_some (show (seqOf S d1).bind _ = some (d, S') from h)
    split at h
    case isFalse => cases h
    rename_i hlen
    obtain ⟨a, vs, e1, e2, e3⟩ := seq_of s rv h1
    subst e1
    split at h
    · rename_i ns hns
      cases h
      have hv := e3.asInts hns
      subst hv
      have hz : (ns.map V.int).zip (ns.map PyData.int) = ns.map fun n => (V.int n, PyData.int n) := zip_two _ _ ns
      refine ⟨a, _, ns.map PyData.int, rfl, e2, DpAll_ints ns, PySem.W.AllAlike.of fun _ _ => rfl, PySem.W.Sortable.others fun b => ⟨by simp, by simp⟩, fun q hq => ?_, by rw [List.length_map]; rw [e3.length, List.length_map] at hlen; exact hlen, fun q hq => ?_⟩
      · obtain ⟨n, _, rfl⟩ := List.mem_map.mp hq
        exact Nat.zero_le _
      · have e : (((ns.map V.int).zip (ns.map PyData.int)).mergeSort (PySem.W.dataLe false fun b => b.2)).map (·.1) = (isort leI ns).map V.int := by
          rw [hz, ← PySem.W.sort_maps (r := leI) (fun n => (V.int n, PyData.int n)), List.map_map, merge_isort tot_leI anti_leI]
          · rfl
          · intro x _ y _
            exact (congrFun (congrFun (PySem.W.dataLe_int (fun n : Int => n)) x) y).symm
        rw [e]
        obtain ⟨s2, x2⟩ := s.frozen hq (.lst ((isort leI ns).map V.int))
        exact p m _ (.ref q) _ x2 s2 ⟨q, _, rfl, upd_same, Reps.ints _⟩
    · obtain ⟨ps, h2, e⟩ := map_some h
      cases e
      have hds := asPairs_eq h2
      subst hds
      have hlv : ps.length = vs.length := by rw [← e3.length, List.length_map]
      refine ⟨a, vs, ps.map pairP, rfl, e2, Reps.dp s.same _ _ _ e3 (toPs_pairP ps), PySem.W.AllAlike.of fun _ _ => rfl, PySem.W.Sortable.tuples fun b => ⟨_, _, rfl⟩, fun q hq => ?_, by rw [e3.length] at hlen; exact hlen, fun q hq => ?_⟩
      · obtain ⟨n, _, rfl⟩ := List.mem_map.mp hq
        show max 0 (max 0 0) + 1 ≤ 40
        decide
      · have hz : vs.zip (ps.map pairP) = (ps.zip vs).map fun e => (e.2, pairP e.1) := zip_turn hlv
        have e : ((vs.zip (ps.map pairP)).mergeSort (PySem.W.dataLe false fun b => b.2)).map (·.1) = ((ps.zip vs).mergeSort fun x y => leP x.1 y.1).map (·.2) := by
          rw [hz, ← PySem.W.sort_maps (r := fun (x y : (Int × Int) × V) => leP x.1 y.1) (fun e : (Int × Int) × V => (e.2, pairP e.1)), List.map_map]
          · rfl
          · intro x _ y _
            exact (congrFun (congrFun (PySem.W.dataLe_ii (fun e : (Int × Int) × V => e.1.1) (fun e => e.1.2)) x) y).symm
        have e2' : ((ps.zip vs).mergeSort fun x y => leP x.1 y.1).map (fun z => pairD z.1) = (isort leP ps).map pairD := by
          rw [← merge_isort tot_leP anti_leP, ← List.map_fst_zip (l₁ := ps) (l₂ := vs) (by omega), ← PySem.W.sort_maps (r := fun (x y : (Int × Int) × V) => leP x.1 y.1) Prod.fst (fun _ _ _ _ => rfl), List.map_map]
          · rw [List.map_fst_zip (by omega)]
            rfl
        rw [e]
        have rr := reps_mem (K := K) (ct := ct) (m := m) (F := F) (L := (ps.zip vs).mergeSort fun x y => leP x.1 y.1) fun z hz => reps_zip e3 z ((List.mergeSort_perm _ _).mem_iff.mp hz)
        rw [e2'] at rr
        obtain ⟨s2, x2⟩ := s.frozen hq (.lst (((ps.zip vs).mergeSort fun x y => leP x.1 y.1).map (·.2)))
        exact p m _ (.ref q) _ x2 s2 ⟨q, _, rfl, upd_same, rr.mono x2⟩
  | [], h => cases h
  | _ :: _ :: _, h => cases h
end
end DL

/-! # t[::-1] -/
namespace HT
open PySem PySem.Spec PyProof.Rows
section
variable {prog : Program} {w : World} {A : Around} {E : Value → Shared → Prop} {s : Shared}
theorem applied_back {sl : Addr} {vs : Value} {n : Nat} {Q : Int × Int × Nat → Shared → Prop} (hs : s.heap.IsSliceOf sl .none .none vs) (ps : IsPart vs (some (-1)))
    (h : Q ((n : Int) - 1, -1, n) s) : wpAny (model prog w) A (Builtin.Slice.sliceApplied (.ref sl) (pure (n : Int))) Q E s := by
  obtain ⟨os, hos, hcs, hds⟩ := id hs
  unfold Builtin.Slice.sliceApplied Builtin.Slice.sliceFields
  refine wpAny_bind (wpAny_bind (wpAny_field hos hds (x := .none) rfl (wpAny_bind (wpAny_field hos hds (x := .none) rfl (wpAny_bind (wpAny_field hos hds (x := vs) rfl (wpAny_pure ?_)))))))
  refine wpAny_bind (slicePart_ ps ?_)
  show wpAny _ _ (if ((-1 : Int) == 0) = true then _ else _) _ _ s
  rw [if_neg (by decide)]
  refine wpAny_bind (slicePart_none (wpAny_bind (slicePart_none (wpAny_bind (wpAny_pure ?_)))))
  show wpAny _ _ (pure (((n : Int) - 1), (-1 : Int), Builtin.Slice.slicePlaces ((n : Int) - 1) (-1) (-1))) _ _ s
  have e : Builtin.Slice.slicePlaces ((n : Int) - 1) (-1) (-1) = n := by
    unfold Builtin.Slice.slicePlaces
    rw [if_neg (by decide)]
    split
    · have : ((n : Int) - 1 - -1 - 1) / (- -1) + 1 = n := by
        rw [show (- -1 : Int) = 1 by decide, Int.ediv_one]
        omega
      rw [this]
      omega
    · omega
  rw [e]
  exact wpAny_pure h
theorem pick_back (xs : Array Value) : ((List.range xs.size).filterMap fun (m : Nat) => xs[(((xs.size : Int) - 1) + (m : Int) * (-1)).toNat]?) = xs.toList.reverse := by
  apply List.ext_getElem?
  intro i
  have e : ∀ k, k ≤ xs.size → (List.range k).filterMap (fun (m : Nat) => xs[(((xs.size : Int) - 1) + (m : Int) * (-1)).toNat]?) = (List.range k).map (fun m => xs.getD (xs.size - 1 - m) .none) := by
    intro k hk
    induction k with
    | zero => rfl
    | succ k ih =>
      rw [List.range_succ, List.filterMap_append, List.map_append, ih (by omega)]
      congr 1
      have hlt : xs.size - 1 - k < xs.size := by omega
      have ei : (((xs.size : Int) - 1) + (k : Int) * (-1)).toNat = xs.size - 1 - k := by omega
      simp only [List.filterMap_cons, List.filterMap_nil, ei, List.map_cons, List.map_nil]
      rw [Array.getElem?_eq_getElem hlt]
      simp [Array.getD, hlt]
  rw [e _ (Nat.le_refl _)]
  by_cases hi : i < xs.size
  · rw [List.getElem?_map, List.getElem?_range hi, List.getElem?_reverse (by simpa using hi)]
    have hlt : xs.size - 1 - i < xs.size := by omega
    simp [Array.getD, hlt]
  · rw [List.getElem?_eq_none (by simpa using hi), List.getElem?_eq_none (by simpa using hi)]
theorem getItem_tuple_back {t sl : Addr} {items : Array Value} {vs : Value} {Q : Value → Shared → Prop} (ht : IsTup s.heap t items) (hs : s.heap.IsSliceOf sl .none .none vs) (ps : IsPart vs (some (-1)))
    (h : Q (.ref s.heap.objs.size) { s with heap := s.heap.push { cls := .type "tuple", data := .seq items.toList.reverse.toArray } })
    (hsz : items.size ≤ sizeLine) : wpAny (model prog w) A (getItem (.ref t) (.ref sl)) Q E s := by
  have htake : sizeOk (.seq items.toList.reverse.toArray) := by
    show items.toList.reverse.toArray.size ≤ sizeLine
    rw [List.size_toArray, List.length_reverse, Array.length_toList]
    exact hsz
  obtain ⟨os, hos, hcs, hds⟩ := id hs
  have hTs : s.TypeIs (.ref sl) "slice" := ⟨os, hos, hcs⟩
  unfold getItem
  try with_reducible refine wpAny_holding ?_
  first | refine wpAny_bind (wpAny_pure ?_) | skip
  refine wpAny_bind (wpAny_sequenceKey ht.typeIs (by decide) ?_)
  refine wpAny_bind (wpAny_callSpecial?_slot (name := Str.ofString "__getitem__") ht.typeIs PyProof.Rows.slot_tuple_getitem
    (wpAny_call_entry PyProof.Rows.slot_tuple_getitem ht.typeIs entry_tuple_getitem ?_ (args_tuple_getitem _ _)))
  show wpAny _ _ (Builtin.Tuple.tupleItemsOf (.ref t) >>= _) _ _ s
  refine wpAny_bind (tupleItemsOf_ ht ?_)
  refine wpAny_bind (wpAny_typeOf hTs ?_)
  rw [if_pos (by decide)]
  refine wpAny_bind (applied_back (n := items.size) hs ps ?_)
  have hno : ¬ ((((items.size : Int) - 1) == 0 && (-1 : Int) == 1 && items.size == items.size) = true) := by simp
  show wpAny _ _ (if (((items.size : Int) - 1) == 0 && (-1 : Int) == 1 && items.size == items.size) = true then _ else _) _ _ s
  rw [if_neg hno, pick_back]
  first
    | exact wpAny_bind (m := Builtin.Tuple.tupleExact _) (wpAny_newObj_type (wpAny_pure ⟨_, rfl, wpAny_pure h⟩) htake)
    | exact wpAny_bind (m := Builtin.Tuple.tupleExact _) (wpAny_newObj_type (wpAny_bind (wpAny_pure (wpAny_pure ⟨_, rfl, wpAny_pure h⟩))) htake)
    | exact wpAny_bind (wpAny_bind (m := Builtin.Tuple.tupleExact _) (wpAny_newObj_type (wpAny_pure (wpAny_pure ⟨_, rfl, wpAny_pure h⟩)) htake))
    | exact wpAny_bind (wpAny_bind (m := Builtin.Tuple.tupleExact _) (wpAny_newObj_type (wpAny_pure ⟨_, rfl, wpAny_pure h⟩) htake))
end
end HT
namespace DL
open PySem PySem.Spec PyProof.Rows L2
section
variable {X : Cx}
def tRevT (K : PySem.W.Frag) (te : TE) : TE := fun σ H Q => te σ H fun x H1 => ∃ a xs, x = .ref a ∧ SqT K H1 a xs ∧ ∀ p, H1 p = none → Q (.ref p) (upd H1 p (.tup xs.reverse))
theorem pe_revT {e : Expr} {te : TE} {k : Nat} {p1 p2 p3 pos : Pos} (he : PE X e te) : PE X (.Subscript e (.Slice none none (some (.UnaryOp .USub (.Constant (.int 1) k p1) p2)) p3) pos) (tRevT X.K te) := by
  refine ⟨fun pins s σ H Q I h => ?_⟩
  refine Subscript_ (thn (he.run pins s σ H _ I h) fun v s1 ⟨x, H1, I1, r1, q1⟩ => ?_)
  obtain ⟨a, xs, ex, hx, q⟩ := q1
  subst ex
  cases r1
  have hst : PO X (some (.UnaryOp .USub (.Constant (.int 1) k p1) p2)) (tPart (tUn (rU fun i => .int (-i)) (tC (.int 1)))) := po_some (pe_un un_neg pe_int)
  refine wpAny_Slice (thn (po_none.run pins s1 σ H1 (fun o H2 => o = none ∧ H2 = H1) I1 ⟨rfl, rfl⟩) fun vl s2 ⟨l, H2, I2, pl, el, e2⟩ => ?_)
  subst el e2
  cases pl
  refine thn (po_none.run pins s2 σ H2 (fun o H3 => o = none ∧ H3 = H2) I2 ⟨rfl, rfl⟩) fun vu s3 ⟨u, H3, I3, pu, eu, e3⟩ => ?_
  subst eu e3
  cases pu
  refine thn (hst.run pins s3 σ H3 (fun o H4 => o = some (-1) ∧ H4 = H3) I3 ⟨1, rfl, -1, rfl, rfl, rfl⟩) fun vs s4 ⟨o, H4, I4, ps, eo, e4⟩ => ?_
  subst eo e4
  have I5 : Inv X pins σ H4 { s4 with heap := s4.heap.push { cls := .type "slice", data := .fields #[.none, .none, vs] } } := I4.kept (t' := s4.toks) fun b ob q => Heap.get?_push_of_some _ q
  obtain ⟨its, r, ht, hz⟩ := I5.tuple hx
  have hlen := r.length
  show wpAny (model X.prog X.w) X.A (subscriptTail e (.Slice none none (some (.UnaryOp .USub (.Constant (.int 1) k p1) p2)) p3) (.ref a) (.ref s4.heap.objs.size)) (EP X pins σ Q) X.xe { s4 with heap := s4.heap.push { cls := .type "slice", data := .fields #[.none, .none, vs] } }
  refine tail_any (ops := [.ref a, .ref s4.heap.objs.size]) ht.typeIs (PyProof.Rows.slot_tuple_getitem.lookup) ?_ (by with_unfolding_all rfl)
  refine HT.getItem_tuple_back ht (Heap.IsSliceOf.new _ .none .none vs) ps ?_ (by rw [List.size_toArray]; omega)
  refine ⟨.ref _, _, I5.laid (t' := s4.toks) (o := .tup xs.reverse) (fun b ob q => Heap.get?_push_of_some _ q) (Nat.le_refl _) ?_, rfl, q _ (I5.hok.fresh (Nat.le_refl _))⟩
  exact ⟨by rw [List.length_reverse]; exact hz, _, r.reverse, IsTup.new _ _⟩
end
def fRevT (f : FE) : FE := fun env S => (f env S).bind fun p => match p.1 with
  | .tup ds => some (.tup ds.reverse, p.2)
  | _ => none
section
variable {ct : CT} {X : Cx} {e : Expr} {f : FE}
theorem Reps.reverse {K : PySem.W.Frag} {m : List Addr} {F : Hp} : ∀ {ds : List D} {vs : List V}, Reps K ct m F ds vs → Reps K ct m F ds.reverse vs.reverse
  | [], _, h => by
    have h : _ = _ := h
    subst h
    exact rfl
  | d :: ds, _, h => by
    obtain ⟨v, r, rfl, h1, h2⟩ := h
    rw [List.reverse_cons, List.reverse_cons]
    exact (Reps.reverse h2).snoc h1
theorem se_revT {k : Nat} {p1 p2 p3 pos : Pos} (he : SE ct X e f) : SE ct X (.Subscript e (.Slice none none (some (.UnaryOp .USub (.Constant (.int 1) k p1) p2)) p3) pos) (fRevT f) := by
  obtain ⟨ta, pa, ra⟩ := he
  refine ⟨_, pe_revT pa, fun m F S σ H env d S' Q s en h p => ?_⟩
  obtain ⟨⟨z, S1⟩, h1, h⟩ := bind_some h
  refine ra m F S σ H env z S1 _ s en h1 fun m1 F1 v1 H1 x1 s1 r1 => ?_
  cases z with
  | tup ds =>
    cases h
    obtain ⟨q, vs, e1, e2, e3⟩ := r1
    refine ⟨q, vs, e1, sqT_mono s1.same e2, fun w hw => ?_⟩
    obtain ⟨s2, x2⟩ := s1.frozen hw (.tup vs.reverse)
    exact p _ _ (.ref w) _ (x1.trans x2) s2 ⟨w, _, rfl, SqT.of upd_same, e3.reverse.mono x2⟩
  | _ => cases h
end
/-! ## list(range(n)), list(x) as cells; tuple(range(n)) -/
def fListRM (fa : FE) : FE := fun env S => (fa env S).bind fun p => match p.1 with
  | .int n => if okR n = true ∧ n ≤ 16777216 then some (.ref p.2.length, p.2 ++ [.lst (rangeD 0 n)]) else none
  | _ => none
def fTupR1 (fa : FE) : FE := fun env S => (fa env S).bind fun p => match p.1 with
  | .int n => if okR n = true ∧ n ≤ 16777216 then some (.tup (rangeD 0 n), p.2) else none
  | _ => none
def cListM : FD
  | [d], S => (seqOf S d).map fun ds => (.ref S.length, S ++ [.lst ds])
  | _, _ => none
def cListX : FD
  | [d], S => (seqOf S d).map fun ds => (.lst ds, S)
  | _, _ => none
def cTupleX : FD
  | [d], S => (seqOf S d).map fun ds => (.tup ds, S)
  | _, _ => none
section
variable {ct : CT} {X : Cx} {a : Expr} {fa : FE} {K : PySem.W.Frag}
theorem se_listRM {p q pos pos' : Pos} (hc : X.calm = true) (hg : Gl X "list") (hm : X.mg "list" = none) (hg2 : Gl X "range") (hm2 : X.mg "range" = none) (ha : SE ct X a fa) (na : starEach [a] X.env = (false, eval a X.env) :: starEach [] X.env := by rfl)
    (nb : starEach [.Call (.Name "range" q) [a] [] pos'] X.env = (false, eval (.Call (.Name "range" q) [a] [] pos') X.env) :: starEach [] X.env := by rfl) : SE ct X (.Call (.Name "list" p) [.Call (.Name "range" q) [a] [] pos'] [] pos) (fListRM fa) := by
  obtain ⟨ta, pa, ra⟩ := ha
  refine ⟨_, pe_listRg hc hg hm (prg_1 hg2 hm2 pa na) nb, fun m F S σ H env d S' Q s en h p => ?_⟩
  obtain ⟨⟨z, S1⟩, h1, h⟩ := bind_some h
  refine ra m F S σ H env z S1 _ s en h1 fun m1 F1 v1 H1 x1 s1 r1 => ?_
  cases z with
  | int n =>
    have h : (if okR n = true ∧ n ≤ 16777216 then some (D.ref S1.length, S1 ++ [Cell.lst (rangeD 0 n)]) else none) = some (d, S') := h
    split at h
    · rename_i hn
      cases h
      refine ⟨n, r1, ⟨by decide, by decide, (okR_ok hn.1).1, (okR_ok hn.1).2, ?_⟩, fun q hq => ?_⟩
      · show (n - 0).toNat ≤ 2 ^ 24
        omega
      · obtain ⟨s2, x2⟩ := s1.fresh hq (o := .lst (rgV 0 n)) (c := .lst (rangeD 0 n)) ⟨_, rfl, range_reps 0 n⟩
        exact p _ _ (.ref q) _ (x1.trans x2) s2 ⟨q, by rw [← s1.len]; simp, rfl⟩
    · cases h
  | _ => cases h
theorem se_tupR1 {p q pos pos' : Pos} (hc : X.calm = true) (hg : Gl X "tuple") (hm : X.mg "tuple" = none) (hg2 : Gl X "range") (hm2 : X.mg "range" = none) (ha : SE ct X a fa) (na : starEach [a] X.env = (false, eval a X.env) :: starEach [] X.env := by rfl)
    (nb : starEach [.Call (.Name "range" q) [a] [] pos'] X.env = (false, eval (.Call (.Name "range" q) [a] [] pos') X.env) :: starEach [] X.env := by rfl) : SE ct X (.Call (.Name "tuple" p) [.Call (.Name "range" q) [a] [] pos'] [] pos) (fTupR1 fa) := by
  obtain ⟨ta, pa, ra⟩ := ha
  refine ⟨_, pe_tupRg hc hg hm (prg_1 hg2 hm2 pa na) nb, fun m F S σ H env d S' Q s en h p => ?_⟩
  obtain ⟨⟨z, S1⟩, h1, h⟩ := bind_some h
  refine ra m F S σ H env z S1 _ s en h1 fun m1 F1 v1 H1 x1 s1 r1 => ?_
  cases z with
  | int n =>
    have h : (if okR n = true ∧ n ≤ 16777216 then some (D.tup (rangeD 0 n), S1) else none) = some (d, S') := h
    split at h
    · rename_i hn
      cases h
      refine ⟨n, r1, ⟨by decide, by decide, (okR_ok hn.1).1, (okR_ok hn.1).2, ?_⟩, fun q hq => ?_⟩
      · show (n - 0).toNat ≤ 2 ^ 24
        omega
      · obtain ⟨s2, x2⟩ := s1.frozen hq (.tup (rgV 0 n))
        exact p _ _ (.ref q) _ (x1.trans x2) s2 ⟨q, _, rfl, SqT.of upd_same, range_reps 0 n⟩
    · cases h
  | _ => cases h
theorem cd_listM : CallD ct K (fun xs H Q => ∃ p ys, xs = [.ref p] ∧ (SqL K H p ys ∨ SqT K H p ys) ∧ ∀ l, H l = none → Q (.ref l) (upd H l (.lst ys))) cListM := by
  intro m F S H xs ds0 d S' Q s r h p
  match ds0, h with
  | [d1], h =>
    obtain ⟨v, rfl, rv⟩ := reps1 r
    obtain ⟨ds, h1, e⟩ := map_some h
    cases e
    obtain ⟨a, vs, e1, e2, e3⟩ := seq_of s rv h1
    refine ⟨a, vs, by rw [e1], e2, fun q hq => ?_⟩
    obtain ⟨s2, x2⟩ := s.fresh hq (o := .lst vs) (c := .lst ds) ⟨_, rfl, e3⟩
    exact p _ _ (.ref q) _ x2 s2 ⟨q, by rw [← s.len]; simp, rfl⟩
  | [], h => cases h
  | _ :: _ :: _, h => cases h
theorem cd_listX : CallD ct K (fun xs H Q => ∃ p ys, xs = [.ref p] ∧ (SqL K H p ys ∨ SqT K H p ys) ∧ ∀ l, H l = none → Q (.ref l) (upd H l (.lst ys))) cListX := by
  intro m F S H xs ds0 d S' Q s r h p
  match ds0, h with
  | [d1], h =>
    obtain ⟨v, rfl, rv⟩ := reps1 r
    obtain ⟨ds, h1, e⟩ := map_some h
    cases e
    obtain ⟨a, vs, e1, e2, e3⟩ := seq_of s rv h1
    refine ⟨a, vs, by rw [e1], e2, fun q hq => ?_⟩
    obtain ⟨s2, x2⟩ := s.frozen hq (.lst vs)
    exact p _ _ (.ref q) _ x2 s2 ⟨q, _, rfl, upd_same, e3.mono x2⟩
  | [], h => cases h
  | _ :: _ :: _, h => cases h
theorem cd_tupleX : CallD ct K (fun xs H Q => ∃ p ys, xs = [.ref p] ∧ ((SqL K H p ys ∧ ∀ l, H l = none → Q (.ref l) (upd H l (.tup ys))) ∨ (SqT K H p ys ∧ Q (.ref p) H))) cTupleX := by
  intro m F S H xs ds0 d S' Q s r h p
  match ds0, h with
  | [d1], h =>
    obtain ⟨v, rfl, rv⟩ := reps1 r
    obtain ⟨ds, h1, e⟩ := map_some h
    cases e
    have lists : ∀ a vs, v = V.ref a → H a = some (.lst vs) → Reps K ct m F ds vs → ∃ p ys, [v] = [V.ref p] ∧ ((SqL K H p ys ∧ ∀ l, H l = none → Q (.ref l) (upd H l (.tup ys))) ∨ (SqT K H p ys ∧ Q (.ref p) H)) := fun a vs e1 e2 e3 => by
      refine ⟨a, vs, by rw [e1], .inl ⟨SqL.of e2, fun q hq => ?_⟩⟩
      obtain ⟨s2, x2⟩ := s.frozen hq (.tup vs)
      exact p _ _ (.ref q) _ x2 s2 ⟨q, _, rfl, SqT.of upd_same, e3.mono x2⟩
    cases d1 with
    | tup es =>
      cases h1
      obtain ⟨a, vs, e1, e2, e3⟩ := rv
      exact ⟨a, vs, by rw [e1], .inr ⟨sqT_mono s.same e2, p.now s ⟨a, vs, rfl, e2, e3⟩⟩⟩
    | lst es =>
      obtain ⟨a, vs, e1, e2, e3⟩ := lst_at s rv h1
      exact lists a vs e1 e2 e3
    | ref k =>
      obtain ⟨a, vs, e1, e2, e3⟩ := lst_at s rv h1
      exact lists a vs e1 e2 e3
    | _ => cases h1
  | [], h => cases h
  | _ :: _ :: _, h => cases h
end
/-! ## a, b, c = x, y, z -/
def sPar3 (i j l : Nat) (fas : FA) : FS := fun env S => (fas env S).bind fun p => match p.1 with
  | [u, v, w] => some (.nx (((env.set i (some u)).set j (some v)).set l (some w)), p.2)
  | _ => none
theorem ss_par3 {ct : CT} {X : Cx} {a b c : Expr} {st : Stmt} {fas : FA} {i j l : Nat} (hp : ∀ ta, PA X [a, b, c] ta → PS X st (tPar3 i j l ta)) (ha : SA ct X [a, b, c] fas) : SS ct X st (sPar3 i j l fas) := by
  obtain ⟨ta, pa, ra⟩ := ha
  refine ⟨_, hp _ pa, fun m F S σ H env fl S' E s en h p => ?_⟩
  obtain ⟨⟨xs, S1⟩, h1, h⟩ := bind_some h
  refine ra m F S σ H env xs S1 _ s en h1 fun m1 F1 vs H1 x1 s1 r1 => ?_
  match xs, h with
  | [u, v, w], h =>
    cases h
    obtain ⟨v1, r, e1, q1, r⟩ := r1
    obtain ⟨v2, r', e2, q2, r⟩ := r
    obtain ⟨v3, r'', e3, q3, r⟩ := r
    have e4 : r'' = [] := r
    subst e4 e3 e2 e1
    exact ⟨v1, v2, v3, rfl, p m1 F1 _ H1 x1 s1 ((((en.mono x1).set i q1).set j q2).set l q3)⟩
  | [], h => cases h
  | [_], h => cases h
  | [_, _], h => cases h
  | _ :: _ :: _ :: _ :: _, h => cases h
/-! ## xs.pop(i) of a cell -/
def fPopAt (fo fe : FE) : FE := fun env S => (fo env S).bind fun p => match p.1 with
  | .ref k => match p.2[k]? with
    | some (.lst _) => (fe env p.2).bind fun q => match q.1, q.2[k]? with
      | .int i, some (.lst ds) => if -1000000 ≤ i ∧ i ≤ 1000000 then (seqIndex? i ds.length).bind fun j => (ds[j]?).map fun d => (d, q.2.set k (.lst (ds.eraseIdx j))) else none
      | _, _ => none
    | _ => none
  | _ => none
section
variable {ct : CT} {X : Cx} {o e : Expr} {fo fe : FE}
theorem Reps.erase {K : PySem.W.Frag} {m : List Addr} {F : Hp} : ∀ {ds : List D} {vs : List V} (j : Nat), Reps K ct m F ds vs → Reps K ct m F (ds.eraseIdx j) (vs.eraseIdx j)
  | [], _, j, h => by
    have h : _ = _ := h
    subst h
    exact rfl
  | d :: ds, _, 0, h => by
    obtain ⟨v, r, rfl, h1, h2⟩ := h
    exact h2
  | d :: ds, _, j + 1, h => by
    obtain ⟨v, r, rfl, h1, h2⟩ := h
    exact ⟨v, _, rfl, h1, h2.erase j⟩
theorem se_popAt {apos cpos : Pos} (ho : SE ct X o fo) (he : SE ct X e fe) (hbase : attributeBase o "pop" X.env (eval o X.env) = eval o X.env := by rfl)
    (hfew : ((backTo cpos (starEach [e] X.env)).all (fun x => !x.1) && (backToKw cpos (keywordEach [] X.env)).all (fun x => x.1.isSome)
      && decide (([e] : List Expr).length + ([] : List Keyword).length + (if ([] : List Keyword).isEmpty then 0 else 1) < 30)) = true := by rfl)
    (hline : (apos.endLine == cpos.line) = true := by rfl) (hs : starEach [e] X.env = (false, eval e X.env) :: starEach [] X.env := by rfl) (hplain : (backTo cpos (starEach [] X.env)).any (·.1) = false := by rfl) :
    SE ct X (.Call (.Attribute o "pop" apos) [e] [] cpos) (fPopAt fo fe) := by
  obtain ⟨ta, pa, ra⟩ := ho
  obtain ⟨tb, pb, rb⟩ := he
  refine ⟨_, pe_bm PySem.F.plainAttrs_list PySem.F.slot_list_pop PySem.F.type_list_pop mt_popAt pa (pa_cons pb pa_nil hs) hbase hfew hline hs hplain, fun m F S σ H env d S' Q s en h p => ?_⟩
  obtain ⟨⟨z, S1⟩, h1, h⟩ := bind_some h
  refine ra m F S σ H env z S1 _ s en h1 fun m1 F1 v1 H1 x1 s1 r1 => ?_
  cases z with
  | ref k =>
    obtain ⟨a, e1, e2⟩ := id r1
    subst e2
    dsimp only at h
    split at h
    case h_2 => cases h
    rename_i ds1 hc1
    obtain ⟨vs1, g1, g2⟩ := s1.cell k a _ e1 hc1
    obtain ⟨⟨w, S2⟩, h2, h⟩ := bind_some h
    refine ⟨.inl ⟨rfl, _, SqL.of g1⟩, rb m1 F1 S1 σ H1 env w S2 _ s1 (en.mono x1) h2 fun m2 F2 v2 H2 x2 s2 r2 => ?_⟩
    have e3 := x2.pre _ _ e1
    dsimp only at h
    split at h
    case h_2 => cases h
    rename_i i ds2 hc2
    split at h
    case isFalse => cases h
    rename_i hi
    obtain ⟨j, hj, h⟩ := bind_some h
    obtain ⟨y, hy, ey⟩ := map_some h
    cases ey
    obtain ⟨vs2, g3, g4⟩ := s2.cell k a _ e3 hc2
    obtain ⟨u, g5, g6⟩ := g4.get hy
    have r2 : v2 = V.int i := r2
    obtain ⟨s3, x3⟩ := s2.change e3 (o := .lst (vs2.eraseIdx j)) (c := .lst (ds2.eraseIdx j)) ⟨_, rfl, g4.erase j⟩
    exact ⟨a, vs2, i, j, u, rfl, by rw [r2], g3, by omega, by omega, by rw [← g4.length]; exact hj, g5, p _ _ u _ ((x1.trans x2).trans x3) s3 (g6.mono x3)⟩
  | _ => cases h
end
end DL

namespace DL
open PySem PySem.Spec PyProof.Rows L2
/-! # str(x) of a number, a text, a tuple or list of data -/
def rStrX (K : PySem.W.Frag) : List V → Hp → VK → Prop := fun xs H Q => ((∃ i : Int, xs = [.int i] ∧ i.natAbs.log2 < 1920 ∧ Q (.str (toString i)) H) ∨ ∃ a, xs = [.str a] ∧ Q (.str a) H) ∨
  ∃ a p, xs = [.ref a] ∧ Dp K H (.ref a) p ∧ (p.showable = true ∧ p.hasDict = false ∧ p.depth ≤ 50 ∧ p.shown.length ≤ sizeLine) ∧ Q (.str p.shown) H
theorem call_strX {X : Cx} {k : Nat} (hr : RoomG k X.A) : CallR X (.type "str") (rStrX X.K) := by
  refine (call_str_int.or SkE.call_str_str).or ?_
  intro pins s σ H xs us Q I r h
  obtain ⟨a, pd, rfl, hd, ⟨h1, h2, h3, h4⟩, q⟩ := h
  obtain ⟨u, rfl, ru⟩ := vals1 r
  obtain ⟨as, rd⟩ := Dp.reads I pd _ u hd ru
  have hu : X.A.units + (pd.depth + 3) < cLine := by
    have := hr.units
    omega
  obtain rfl : u = .ref a := ru
  exact str_of_reads (h₀ := s.heap) rd h1 (PyData.noDict_hsm h2) hr.gd hu (fun _ _ e => e) (fun h' w tk hk => ⟨.str _, H, I.kept hk, ⟨_, rfl⟩, q⟩) h4
def isSeqD : D → Bool
  | .tup _ => true
  | .lst _ => true
  | _ => false
def cStrX : FD
  | [.int i], S => if i.natAbs.log2 < 1920 then some (.str (toString i), S) else none
  | [.str a], S => some (.str a, S)
  | [d], S => (toP d).bind fun p => if isSeqD d = true ∧ p.showable = true ∧ p.hasDict = false ∧ p.depth ≤ 50 ∧ p.shown.length ≤ 16777216 then some (.str p.shown, S) else none
  | _, _ => none
theorem cd_strX {ct : CT} {K : PySem.W.Frag} : CallD ct K (rStrX K) cStrX := by
  intro m F S H xs ds d S' Q s r h p
  unfold cStrX at h
  split at h
  · rename_i i
    obtain ⟨v, rfl, rv⟩ := reps1 r
    have rv : v = _ := rv
    subst rv
    split at h
    · rename_i hi
      cases h
      exact .inl (.inl ⟨i, rfl, hi, p.now s rfl⟩)
    · cases h
  · rename_i a
    obtain ⟨v, rfl, rv⟩ := reps1 r
    have rv : v = _ := rv
    subst rv
    cases h
    exact .inl (.inr ⟨a, rfl, p.now s rfl⟩)
  · rename_i d0 _ _
    obtain ⟨pd, h1, h⟩ := bind_some h
    split at h
    · rename_i hc
      cases h
      obtain ⟨v, rfl, rv⟩ := reps1 r
      have dp := Rep.dp s.same d0 v pd rv h1
      have hv : ∃ a, v = .ref a := by
        cases d0 with
        | tup es => obtain ⟨a, vs, e1, _⟩ := rv; exact ⟨a, e1⟩
        | lst es => obtain ⟨a, vs, e1, _⟩ := rv; exact ⟨a, e1⟩
        | _ => exact absurd hc.1 (by simp [isSeqD])
      obtain ⟨a, rfl⟩ := hv
      exact .inr ⟨a, pd, rfl, dp, ⟨hc.2.1, hc.2.2.1, hc.2.2.2.1, by rw [line_eq]; exact hc.2.2.2.2⟩, p.now s rfl⟩
    · cases h
  · cases h
/-! ## [e for x in xs if ..] where xs may be a cell: nothing is changed within -/
def KeepE (f : FE) : Prop := ∀ env S d S', f env S = some (d, S') → S' = S
def KeepT (f : FT) : Prop := ∀ env S d S', f env S = some (d, S') → S' = S
def KeepG (g : FG) : Prop := ∀ x env S e S', g x env S = some (e, S') → S' = S
def Keep2 (g : D → D → Sto → Option (D × Sto)) : Prop := ∀ x y S d S', g x y S = some (d, S') → S' = S
theorem kp_var (i : Nat) : KeepE (fVar i) := fun env S d S' h => by
  unfold fVar at h
  split at h
  · cases h; rfl
  · cases h
theorem kp_C (d : D) : KeepE (fC d) := fun env S d S' h => by cases h; rfl
theorem kp_bin {g : D → D → Sto → Option (D × Sto)} {fa fb : FE} (h1 : KeepE fa) (h2 : KeepE fb) (hg : Keep2 g) : KeepE (fBin g fa fb) := fun env S d S' h => by
  obtain ⟨⟨x, S1⟩, e1, h⟩ := bind_some h
  obtain ⟨⟨y, S2⟩, e2, h⟩ := bind_some h
  rw [hg _ _ _ _ _ h, h2 _ _ _ _ e2, h1 _ _ _ _ e1]
theorem kp_test {f : FE} (h : KeepE f) : KeepT (fTest f) := fun env S d S' e => by
  obtain ⟨⟨x, S1⟩, e1, e⟩ := bind_some e
  cases x <;> first | (cases e; exact h _ _ _ _ e1) | cases e
theorem kp_yes : KeepT tYesD := fun env S d S' h => by cases h; rfl
theorem kp_N (i : Nat) : KeepG (gN i) := fun x env S e S' h => by cases h; rfl
theorem kp_ne : Keep2 gNe := fun x y S d S' h => by
  unfold gNe at h
  split at h <;> first | (cases h; rfl) | (obtain ⟨z, _, e⟩ := map_some h; cases e; rfl)
theorem kp_eq : Keep2 gEq := fun x y S d S' h => by
  unfold gEq at h
  split at h <;> first | (cases h; rfl) | (obtain ⟨z, _, e⟩ := map_some h; cases e; rfl)
def iRef (f : FE) : FA := fun env S => (f env S).bind fun p => (lstOf p.2 p.1).map fun ds => (ds, p.2)
section
variable {ct : CT} {X : Cx}
theorem lc_runR {f : FE} {g : FG} {gt : FT} {fe : FE} {ta : TE} {own : List Nat} {m : List Addr} {F H : Hp} {S S' : Sto} {σ : L2.St} {env : DEnv} {d : D} {Q : VK} (kg : KeepG g) (kt : KeepT gt) (ke : KeepE fe)
    (ra : ∀ m F S σ H env d S' Q, Sim X.K ct m F S H → EnvR X.K ct m F env σ → f env S = some (d, S') → PostE ct X.K m F H S' d Q → ta σ H Q)
    (s : Sim X.K ct m F S H) (en : EnvR X.K ct m F env σ) (h : fLc (iRef f) g gt fe own env S = some (d, S')) (p : PostE ct X.K m F H S' d Q) :
    tLc (L2.iList X.K ta) (tGw ct X.K own g) (tT ct X.K gt) (tE ct X.K fe) own σ H Q := by
  obtain ⟨⟨items, S1⟩, h0, h⟩ := bind_some h
  obtain ⟨⟨z, S0⟩, h1, h0⟩ := bind_some h0
  obtain ⟨ds, hds, e⟩ := map_some h0
  have e1 : ds = items := congrArg Prod.fst e
  have e2 : S0 = S1 := congrArg Prod.snd e
  subst e1 e2
  split at h
  case isFalse => cases h
  rename_i hlen
  have hlen : ds.length ≤ 1000000 := hlen
  obtain ⟨⟨out, S9⟩, h2, h⟩ := bind_some h
  have ed : D.lst out = d := congrArg Prod.fst (Option.some.inj h)
  have es : S9 = S' := congrArg Prod.snd (Option.some.inj h)
  subst ed es
  have hds : lstOf S0 z = some ds := hds
  have h2 : lcD g gt fe (wipeD env own) ds S0 = some (out, S9) := h2
  refine ra m F S σ H env z S0 _ s en h1 fun m1 F1 v1 H1 x1 s1 r1 => ?_
  obtain ⟨q, vs0, eq1, eq2, eq3⟩ := lst_at s1 r1 hds
  refine ⟨q, eq1, ⟨vs0, SqL.of eq2⟩, fun L hL => ?_⟩
  have nL1 : L ∉ m1 := fun hm => by
    obtain ⟨o, q⟩ := s1.there hm
    rw [hL] at q; cases q
  have fL1 : F1 L = none := by
    cases e : F1 L with
    | none => rfl
    | some o => rw [s1.same _ _ e] at hL; cases hL
  refine ⟨fun i k H' => k = ds.length - i ∧ i ≤ ds.length ∧ ∃ m' F' accV accD rest, Ext m1 F1 H1 m' F' H' ∧ Sim X.K ct m' F' S0 H' ∧ H' L = some (.lst accV) ∧ L ∉ m' ∧ F' L = none ∧ Reps X.K ct m' F' accD accV ∧ accD.length ≤ i ∧
      lcD g gt fe (wipeD env own) (ds.drop i) S0 = some (rest, S9) ∧ out = accD ++ rest,
    ⟨_, rfl, Nat.zero_le _, m1, F1, [], [], out, (Ext.refl _ _ _).put hL _, s1.hidden nL1 fL1 _, upd_same, nL1, fL1, rfl, Nat.le_refl _, h2, rfl⟩, ?_⟩
  rintro i k H' ⟨rfl, hle, m', F', accV, accD, rest, x', s', hH, nL, fL, rp, hal, hlc, eo⟩
  have en' : EnvR X.K ct m' F' (wipeD env own) (wipe σ own) := ((en.mono x1).mono x').wipe own
  obtain ⟨q', vs, e1, e2, e3⟩ := lst_at s' (r1.mono x') hds
  have eqq : q' = q := by rw [eq1] at e1; cases e1; rfl
  subst eqq
  have hq : SqL X.K H' q' vs := SqL.of e2
  cases hd : ds.drop i with
  | nil =>
    rw [hd] at hlc
    cases hlc
    have hl : ds.length = i := by
      have := congrArg List.length hd
      simp at this
      omega
    refine .inl ⟨⟨vs, hq, by rw [← e3.length]; omega⟩, p m' (upd F' L (.lst accV)) (.ref L) H' (x1.trans (x'.freeze hL fL _)) (s'.freeze nL fL hH) ⟨L, accV, rfl, upd_same, ?_⟩⟩
    rw [eo, List.append_nil]
    exact Reps.mono' (fun _ _ q => q) (same_upd fL _) _ _ rp
  | cons a r =>
    rw [hd] at hlc
    obtain ⟨q1, q2⟩ := drop_cons hd
    have hlt : i < ds.length := (List.getElem?_eq_some_iff.mp q1).1
    obtain ⟨v, g1, g2⟩ := e3.get q1
    obtain ⟨⟨env1, S3⟩, h3, hlc⟩ := bind_some hlc
    obtain ⟨⟨b4, S4⟩, h4, hlc⟩ := bind_some hlc
    have k3 : S3 = S0 := kg _ _ _ _ _ h3
    subst k3
    have k4 : S4 = S3 := kt _ _ _ _ h4
    subst k4
    refine .inr ⟨⟨vs, v, hq, g1⟩, fun H5 => ∃ m5 F5 accV accD rest, Ext m1 F1 H1 m5 F5 H5 ∧ Sim X.K ct m5 F5 S4 H5 ∧ H5 L = some (.lst accV) ∧ L ∉ m5 ∧ F5 L = none ∧ Reps X.K ct m5 F5 accD accV ∧ accD.length ≤ i + 1 ∧
      lcD g gt fe (wipeD env own) (ds.drop (i + 1)) S4 = some (rest, S9) ∧ out = accD ++ rest, fun H5 w => ⟨ds.length - (i + 1), by omega, rfl, hlt, w⟩, fun x H5 y => ?_⟩
    obtain ⟨y1, y2⟩ := y
    subst y1
    have := y2 vs hq
    rw [g1] at this
    cases this
    refine ⟨m', F', S4, wipeD env own, a, env1, S4, s', en', g2, h3, fun m6 F6 σ6 H6 x6 s6 en6 w6 => ⟨by rw [w6]; exact wipe_idem, ?_⟩⟩
    obtain ⟨hH6, nL6, fL6⟩ := x6.hid hH nL fL
    refine ⟨m6, F6, S4, env1, b4, S4, s6, en6, h4, fun m7 F7 H7 x7 s7 => ?_⟩
    obtain ⟨hH7, nL7, fL7⟩ := x7.hid hH6 nL6 fL6
    have xx : Ext m1 F1 H1 m7 F7 H7 := (x'.trans x6).trans x7
    have rp7 : Reps X.K ct m7 F7 accD accV := (rp.mono x6).mono x7
    cases b4 with
    | false =>
      refine iteF ⟨m7, F7, accV, accD, rest, xx, s7, hH7, nL7, fL7, rp7, by omega, ?_, eo⟩
      rw [q2]
      exact hlc
    | true =>
      obtain ⟨⟨y8, S8⟩, h8, hlc2⟩ := bind_some (show (fe env1 S4).bind _ = _ from hlc)
      have k8 : S8 = S4 := ke _ _ _ _ h8
      subst k8
      obtain ⟨⟨r9, S10⟩, h9, hlc3⟩ := bind_some hlc2
      cases hlc3
      refine iteT ⟨m7, F7, S8, env1, y8, S8, s7, en6.mono x7, h8, fun m8 F8 v8 H8 x8 s8 r8 => ?_⟩
      obtain ⟨hH8, nL8, fL8⟩ := x8.hid hH7 nL7 fL7
      refine ⟨accV, hH8, ?_, m8, F8, accV ++ [v8], accD ++ [y8], r9, (xx.trans x8).put hL _, s8.hidden nL8 fL8 _, upd_same, nL8, fL8, (rp7.mono x8).snoc r8, by simp; omega, ?_, by rw [eo, List.append_assoc]; rfl⟩
      · rw [← rp.length, line_eq]
        omega
      · rw [q2]
        exact h9
theorem se_lcR {elt tg iter : Expr} {ifs : List Expr} {scope : Scope} {own : List (Str × Nat)} {pos : Pos} {f : FE} {g : FG} {gt : FT} {fe : FE} (hc : X.calm = true) (hN : X.N.Nodup) (kg : KeepG g) (kt : KeepT gt) (ke : KeepE fe) (hi : SE ct X iter f) (ok : BlkOk X.N X.env.scope scope own)
    (hg : ∀ (s : Shared) (H : Hp) (C : Addr) (cl : List (Str × Addr)) (fp : List Addr), SGw ct (X.blk s H scope (compEnvC scope cl C X.env) fp) (own.map (·.2)) tg g) (ht : ∀ (s : Shared) (H : Hp) (C : Addr) (cl : List (Str × Addr)) (fp : List Addr), STs ct (X.blk s H scope (compEnvC scope cl C X.env) fp) ifs gt)
    (he : ∀ (s : Shared) (H : Hp) (C : Addr) (cl : List (Str × Addr)) (fp : List Addr), SE ct (X.blk s H scope (compEnvC scope cl C X.env) fp) elt fe) (hs : ∀ x, foldedSetIterable iter X.env x = pure x := by intro _; rfl) :
    SE ct X (.ListComp elt [⟨tg, iter, ifs, 0⟩] scope pos) (fLc (iRef f) g gt fe (own.map (·.2))) := by
  obtain ⟨ta, pa, ra⟩ := hi
  exact ⟨_, pe_lc (g := tGw ct X.K (own.map (·.2)) g) (tt := tT ct X.K gt) (te := tE ct X.K fe) hc hN (pi_list pa) ok (fun s H C cl fp => (hg s H C cl fp).pg) (fun s H C cl fp => (ht s H C cl fp).pt) (fun s H C cl fp => (he s H C cl fp).pe) hs, fun m F S σ H env d S' Q s en h p => lc_runR kg kt ke ra s en h p⟩
end
end DL

namespace DL
open PySem PySem.Spec PyProof.Rows L2
/-! # the wider rules, by what holds behind them -/
section
variable {S : Sto} {P : D → Sto → Prop} {PA : List D → Sto → Prop} {PS : Fl → Sto → Prop} {env : DEnv} {f fa fb fo fe : FE} {fas : FA}
theorem wp_aXi {i j : Int} : R (gAddX (.int i) (.int j) S) P ↔ P (.int (i + j)) S := R_some
theorem wp_aXs {x y : Str} : R (gAddX (.str x) (.str y) S) P ↔ x.length + y.length ≤ 16777216 ∧ P (.str (x ++ y)) S := R_cond
theorem wp_aXt {a b : List D} : R (gAddX (.tup a) (.tup b) S) P ↔ a.length + b.length ≤ 1000000 ∧ P (.tup (a ++ b)) S := R_cond
theorem wp_aXl {a b : List D} : R (gAddX (.lst a) (.lst b) S) P ↔ a.length + b.length ≤ 1000000 ∧ P (.lst (a ++ b)) S := R_cond
theorem wp_aMl {a b : List D} : R (gAddM (.lst a) (.lst b) S) P ↔ a.length + b.length ≤ 1000000 ∧ P (.ref S.length) (S ++ [.lst (a ++ b)]) := R_cond
theorem wp_ltX {i j : Int} : R (gLtX (.int i) (.int j) S) P ↔ P (.bl (decide (i < j))) S := R_some
theorem wp_leX {i j : Int} : R (gLeX (.int i) (.int j) S) P ↔ P (.bl (decide (i ≤ j))) S := R_some
theorem wp_leX2 {a b c d : Int} : R (gLeX (.tup [.int a, .int b]) (.tup [.int c, .int d]) S) P ↔ P (.bl (leL [a, b] [c, d])) S := R_some
theorem wp_SlX {lo hi : FO} : R (fSlX fa lo hi env S) P ↔ R (fa env S) fun x S1 => R (lo env S1) fun i S2 => R (hi env S2) fun j S3 => R (gSlX x i j S3) P := by unfold fSlX; simp only [R_bind]
theorem wp_sXc {ns : List Int} {lo hi : Option Int} : R (gSlX (.scr ns) lo hi S) P ↔ P (.lst ((cutD ns lo hi).map .int)) S := R_some
theorem wp_sXl {ds : List D} {lo hi : Option Int} : R (gSlX (.lst ds) lo hi S) P ↔ P (.lst (cutD ds lo hi)) S := R_some
theorem wp_sXt {ds : List D} {lo hi : Option Int} : R (gSlX (.tup ds) lo hi S) P ↔ P (.tup (cutD ds lo hi)) S := R_some
theorem wp_sXs {x : Str} {lo hi : Option Int} : R (gSlX (.str x) lo hi S) P ↔ x.length ≤ 16777216 ∧ P (.str (cutS x lo hi)) S := R_cond
theorem wp_RevT : R (fRevT f env S) P ↔ R (f env S) fun d S1 => WTup d fun ds => P (.tup ds.reverse) S1 := by
  unfold fRevT
  simp only [R_bind]
  refine ⟨fun ⟨d, S1, e, q⟩ => ⟨d, S1, e, ?_⟩, fun ⟨d, S1, e, q⟩ => ⟨d, S1, e, ?_⟩⟩
  · cases d <;> first | exact R_some.mp q | exact (R_none.mp q).elim
  · cases d <;> first | exact R_some.mpr q | exact (False.elim q)
theorem wp_sxI {i : Int} : R (cStrX [.int i] S) P ↔ i.natAbs.log2 < 1920 ∧ P (.str (toString i)) S := R_cond
theorem wp_sxS {a : Str} : R (cStrX [.str a] S) P ↔ P (.str a) S := R_some
theorem wp_lxT {ds : List D} : R (cListX [.tup ds] S) P ↔ P (.lst ds) S := R_some
theorem wp_lxL {ds : List D} : R (cListX [.lst ds] S) P ↔ P (.lst ds) S := R_some
theorem wp_txL {ds : List D} : R (cTupleX [.lst ds] S) P ↔ P (.tup ds) S := R_some
theorem wp_txT {ds : List D} : R (cTupleX [.tup ds] S) P ↔ P (.tup ds) S := R_some
theorem wp_lmT {ds : List D} : R (cListM [.tup ds] S) P ↔ P (.ref S.length) (S ++ [.lst ds]) := R_some
theorem wp_lmL {ds : List D} : R (cListM [.lst ds] S) P ↔ P (.ref S.length) (S ++ [.lst ds]) := R_some
theorem wp_Par3 {i j l : Nat} : R (sPar3 i j l fas env S) PS ↔ R (fas env S) fun ds S1 => ∃ u v w, ds = [u, v, w] ∧ PS (.nx (((env.set i (some u)).set j (some v)).set l (some w))) S1 := by
  unfold sPar3
  simp only [R_bind]
  refine ⟨fun ⟨d, S1, e, q⟩ => ⟨d, S1, e, ?_⟩, fun ⟨d, S1, e, q⟩ => ⟨d, S1, e, ?_⟩⟩
  · match d, q with
    | [u, v, w], q => exact ⟨u, v, w, rfl, R_some.mp q⟩
    | [], q => exact (R_none.mp q).elim
    | [_], q => exact (R_none.mp q).elim
    | [_, _], q => exact (R_none.mp q).elim
    | _ :: _ :: _ :: _ :: _, q => exact (R_none.mp q).elim
  · obtain ⟨u, v, w, rfl, q⟩ := q
    exact R_some.mpr q
theorem wp_three {u v w : D} {Q : D → D → D → Prop} : (∃ a b c, [u, v, w] = [a, b, c] ∧ Q a b c) ↔ Q u v w := ⟨fun ⟨a, b, c, e, q⟩ => by cases e; exact q, fun q => ⟨u, v, w, rfl, q⟩⟩
theorem wp_Join : R (fJoin fo fe env S) P ↔ R (fo env S) fun d S1 => WStr d fun a => R (fe env S1) fun x S2 => ∃ ds, lstOf S2 x = some ds ∧ ∃ ys, asStrs ds = some ys ∧ ((ys.map (·.length)).sum + ys.length * a.length ≤ 16777216 ∧ P (.str (Txt.join a ys)) S2) := by
  unfold fJoin
  simp only [R_bind]
  refine ⟨fun ⟨d, S1, e, q⟩ => ⟨d, S1, e, ?_⟩, fun ⟨d, S1, e, q⟩ => ⟨d, S1, e, ?_⟩⟩
  · cases d with
    | str a =>
      obtain ⟨x, S2, e2, q⟩ := R_bind.mp q
      refine ⟨x, S2, e2, ?_⟩
      obtain ⟨r, S3, e3, p⟩ := q
      obtain ⟨ds, h1, e3⟩ := bind_some e3
      obtain ⟨ys, h2, e3⟩ := bind_some e3
      split at e3
      case isFalse => cases e3
      rename_i hl
      cases e3
      exact ⟨ds, h1, ys, h2, hl, p⟩
    | _ => exact (R_none.mp q).elim
  · cases d with
    | str a =>
      obtain ⟨x, S2, e2, ds, h1, ys, h2, hl, p⟩ := q
      refine R_bind.mpr ⟨x, S2, e2, .str (Txt.join a ys), S2, ?_, p⟩
      show (lstOf S2 x).bind _ = _
      rw [h1]
      show (asStrs ds).bind _ = _
      rw [h2]
      exact if_pos hl
    | _ => exact (False.elim q)
/-- pairs in a list of pairs -/
theorem eqv_pairP (p q : Int × Int) : PyData.eqv (pairP p) (pairP q) = decide (p = q) := by
  obtain ⟨a, b⟩ := p
  obtain ⟨c, d⟩ := q
  show (PyData.eqvAll [.int a, .int b] [.int c, .int d]) = _
  rw [Bool.eq_iff_iff]
  simp [PyData.eqvAll, PyData.eqv, Prod.ext_iff]
theorem lay_pairP : ∀ ps : List (Int × Int), PyData.canLayAll0 (ps.map pairP) = true
  | [] => rfl
  | p :: ps => by
    show ((true && (true && true)) && PyData.canLayAll0 (ps.map pairP)) = true
    rw [lay_pairP ps]
    rfl
theorem dep_pairP : ∀ ps : List (Int × Int), PyData.depthAll (ps.map pairP) ≤ 1
  | [] => Nat.zero_le _
  | p :: ps => by
    show max (PyData.depth (pairP p)) (PyData.depthAll (ps.map pairP)) ≤ 1
    exact Nat.max_le.mpr ⟨Nat.le_refl _, dep_pairP ps⟩
theorem sh_pairs (ps : List (Int × Int)) : SeqAt.shaped (.list (ps.map pairP)) = true := by
  unfold SeqAt.shaped
  rw [show PyData.canLay0 (.list (ps.map pairP)) = PyData.canLayAll0 (ps.map pairP) from rfl, lay_pairP]
  have := dep_pairP ps
  have e : PyData.depth (.list (ps.map pairP)) = PyData.depthAll (ps.map pairP) + 1 := rfl
  simp only [e, Bool.true_and, decide_eq_true_eq]
  omega
theorem sh_pair (p : Int × Int) : SeqAt.shaped (pairP p) = true := rfl
theorem eqvAll_pairs : ∀ ps qs : List (Int × Int), PyData.eqvAll (ps.map pairP) (qs.map pairP) = decide (ps = qs)
  | [], [] => rfl
  | [], _ :: _ => rfl
  | _ :: _, [] => rfl
  | p :: ps, q :: qs => by
    show (PyData.eqv (pairP p) (pairP q) && PyData.eqvAll (ps.map pairP) (qs.map pairP)) = _
    rw [eqv_pairP, eqvAll_pairs ps qs]
    simp [Bool.decide_and]
theorem gInB_pairs (neg : Bool) (p : Int × Int) (ds : List D) (S : Sto) : gInB neg (pairD p) (.lst ds) S = none := by
  show inSeq neg (pairD p) ds S = none
  unfold inSeq
  rw [if_neg]
  intro h
  exact absurd h.1 (by simp [pairD, flatD])
theorem in_pairs (neg : Bool) (p : Int × Int) (ps : List (Int × Int)) (S : Sto) : gInX neg (pairD p) (.lst (ps.map pairD)) S = some (.bl (if neg then !decide (p ∈ ps) else decide (p ∈ ps)), S) := by
  unfold gInX
  rw [gInB_pairs]
  show (inDeep neg (pairD p) (ps.map pairD)).map _ = _
  unfold inDeep
  rw [toPs_pairP]
  show ((if SeqAt.shaped (pairP p) = true ∧ SeqAt.shaped (.list (ps.map pairP)) = true then some (D.bl (if neg then !(ps.map pairP).any (fun z => PyData.eqv z (pairP p)) else (ps.map pairP).any fun z => PyData.eqv z (pairP p))) else none).map fun d => (d, S)) = _
  rw [if_pos ⟨sh_pair p, sh_pairs ps⟩]
  have e : ((ps.map pairP).any fun z => PyData.eqv z (pairP p)) = decide (p ∈ ps) := by
    rw [List.any_map]
    rw [Bool.eq_iff_iff]
    simp only [List.any_eq_true, Function.comp, eqv_pairP, decide_eq_true_eq]
    exact ⟨fun ⟨x, h1, h2⟩ => h2 ▸ h1, fun h => ⟨p, h, rfl⟩⟩
  rw [e]
  rfl
theorem toP_lp (ps : List (Int × Int)) : toP (.lst (ps.map pairD)) = some (.list (ps.map pairP)) := by
  show (toPs (ps.map pairD)).map _ = _
  rw [toPs_pairP]
  rfl
theorem ne_pairs (ps qs : List (Int × Int)) (S : Sto) : gNe (.lst (ps.map pairD)) (.lst (qs.map pairD)) S = some (.bl (!decide (ps = qs)), S) := by
  show (eqDeep true (.lst (ps.map pairD)) (.lst (qs.map pairD))).map _ = _
  unfold eqDeep
  rw [toP_lp, toP_lp]
  show ((if SeqAt.shaped (.list (ps.map pairP)) = true ∧ SeqAt.shaped (.list (qs.map pairP)) = true then some (D.bl (!PyData.eqvAll (ps.map pairP) (qs.map pairP))) else none : Option D).map fun d => (d, S)) = _
  rw [if_pos ⟨sh_pairs ps, sh_pairs qs⟩, eqvAll_pairs]
  rfl
theorem ne_pair (p q : Int × Int) (S : Sto) : gNe (pairD p) (pairD q) S = some (.bl (!decide (p = q)), S) := by
  have e : gNe (pairD p) (pairD q) S = (eqDeep true (pairD p) (pairD q)).map fun d => (d, S) := by
    simp only [pairD, gNe]
  rw [e]
  show ((if SeqAt.shaped (pairP p) = true ∧ SeqAt.shaped (pairP q) = true then some (D.bl (!PyData.eqv (pairP p) (pairP q))) else none : Option D).map fun d => (d, S)) = _
  rw [if_pos ⟨sh_pair p, sh_pair q⟩, eqv_pairP]
  rfl
theorem sorted_pairs (ps : List (Int × Int)) (S : Sto) (h : ps.length ≤ 1000000) : cSorted [.lst (ps.map pairD)] S = some (.lst ((isort leP ps).map pairD), S) := by
  show (if (ps.map pairD).length ≤ 1000000 then (match asInts (ps.map pairD) with
    | some ns => some (D.lst ((isort leI ns).map .int), S)
    | none => (asPairs (ps.map pairD)).map fun ps => (.lst ((isort leP ps).map pairD), S)) else none) = _
  rw [if_pos (by rw [List.length_map]; exact h), asPairs_map]
  cases ps with
  | nil => rfl
  | cons p ps => rfl
theorem sortedT_ints (ns : List Int) (S : Sto) (h : ns.length ≤ 1000000) : cSorted [.tup (ns.map D.int)] S = some (.lst ((isort leI ns).map .int), S) := by
  have e : asInts (ns.map D.int) = some ns := by
    induction ns with
    | nil => rfl
    | cons n ns ih =>
      show (asInts (ns.map D.int)).map _ = _
      rw [ih (by simp at h; omega)]
      rfl
  show (if (ns.map D.int).length ≤ 1000000 then (match asInts (ns.map D.int) with
    | some ns => some (D.lst ((isort leI ns).map .int), S)
    | none => (asPairs (ns.map D.int)).map fun ps => (.lst ((isort leP ps).map pairD), S)) else none) = _
  rw [if_pos (by rw [List.length_map]; exact h), e]
end
end DL

namespace LW
open PySem PySem.Spec PyProof.Rows L2 DL
def topS (i : Nat) : Stmt := PySem.Challenge.pw_forcedties_k63_renamings_judged.main.body.getD i (.Pass ⟨0, 0, 0, 0⟩)
def tab_LENGTHS : List (Str × Int) := [("most", 4), ("least", 4), ("follows", 3), ("parted", 4), ("alike", 3), ("shape", 3), ("holds", 3), ("free", 3), ("forcing", 4), ("out", 4)]
structure Txt (w : World) (K : PySem.W.Frag) (mg : Str → Option Value) : Prop where
  n_abs : mg "abs" = none
  n_any : mg "any" = none
  n_bool : mg "bool" = none
  n_enumerate : mg "enumerate" = none
  n_int : mg "int" = none
  n_isinstance : mg "isinstance" = none
  n_len : mg "len" = none
  n_list : mg "list" = none
  n_max : mg "max" = none
  n_min : mg "min" = none
  n_range : mg "range" = none
  n_sorted : mg "sorted" = none
  n_str : mg "str" = none
  n_tuple : mg "tuple" = none
  c_DIGITS : CG mg "DIGITS" (.str "0123456789")
  c_MOST_PEOPLE : CG mg "MOST_PEOPLE" (.int 10)
  c_MOST_SHAPED : CG mg "MOST_SHAPED" (.int 6)
  k_LENGTHS : KG w K mg "LENGTHS" tab_LENGTHS
  d_is_integer : DefAt K mg "is_integer" (topS 25) ["value"]
  d_is_between : DefAt K mg "is_between" (topS 26) ["value", "least", "most"]
  d_natural : DefAt K mg "natural" (topS 32) ["text", "most"]
  d_party_of : DefAt K mg "party_of" (topS 34) ["text"]
  d_are_people : DefAt K mg "are_people" (topS 41) ["value", "people"]
  d_renamed : DefAt K mg "renamed" (topS 49) ["ties", "row"]
  d_is_about_parties : DefAt K mg "is_about_parties" (topS 30) ["word", "party", "other", "certificate"]
  d_accepts : DefAt K mg "accepts" (topS 27) ["claim", "certificate"]
  d__law_stock : DefAt K mg "_law_stock" (topS 54) ["_law_script", "_law_k"]
  d__law_take : DefAt K mg "_law_take" (topS 55) ["_law_stock_here", "_law_many"]
  d__law_agrees : DefAt K mg "_law_agrees" (topS 56) ["_law_claim", "_law_paper", "_law_due_here"]
  d__law_is : DefAt K mg "_law_is" (topS 57) ["_law_value", "_law_least", "_law_most"]
  d__law_line : DefAt K mg "_law_line" (topS 58) ["_law_many", "_law_ties"]
  d__law_pairs : DefAt K mg "_law_pairs" (topS 59) ["_law_many"]
  d__law_flipped : DefAt K mg "_law_flipped" (topS 60) ["_law_ties", "_law_tie_here"]
  d__law_tie : DefAt K mg "_law_tie" (topS 63) ["_law_one", "_law_other"]
  d__law_some_ties : DefAt K mg "_law_some_ties" (topS 61) ["_law_stock_here", "_law_many"]
  d__law_some_order : DefAt K mg "_law_some_order" (topS 62) ["_law_stock_here", "_law_many"]
  d__law_people : DefAt K mg "_law_people" (topS 64) ["_law_paper", "_law_many"]
  d__law_near_rows : DefAt K mg "_law_near_rows" (topS 65) ["_law_stock_here", "_law_many", "_law_paper"]
  d__law_renamed : DefAt K mg "_law_renamed" (topS 66) ["_law_ties", "_law_row"]
  d__law_due : DefAt K mg "_law_due" (topS 67) ["_law_many", "_law_ties", "_law_others", "_law_paper"]
  d__law_judged : DefAt K mg "_law_judged" (topS 68) ["_law_many", "_law_ties", "_law_others", "_law_paper"]
  d__law_right : DefAt K mg "_law_right" (topS 69) ["_law_stock_here"]
  d_law : DefAt K mg "law" (topS 70) ["_law_script"]
variable {P : Program} {w : World} {K : PySem.W.Frag} {mg : Str → Option Value} {base : Heap} {ct : CT}
abbrev s_is_integer : Stmt := topS 25
theorem sc_is_integer : FnScope ["value"] ["value"] (defScope s_is_integer) := ⟨rfl, rfl, rfl, by decide +kernel, rfl, by decide +kernel, by decide +kernel⟩
def b_is_integer : FS :=
  (sRet (fAnd (fIsi "int" (fVar 0)) (fNot (fIsi "bool" (fVar 0)))))
def d_is_integer : FD := runD 1 (b_is_integer)
theorem ok_is_integer {k : Nat} (T : Txt w K mg) : Callee P w K mg base ct (k + 1) "is_integer" 1 (d_is_integer) :=
  callee_of T.d_is_integer sc_is_integer fun f cdv A outer s H E hr =>
    (sss_one (ss_ret (se_and (se_isi (by rfl) T.n_isinstance (se_var 0) (by rfl) T.n_int (by decide +kernel)) (se_one (se_not (se_isi (by rfl) T.n_isinstance (se_var 0) (by rfl) T.n_bool (by decide +kernel)))))))
abbrev s_is_between : Stmt := topS 26
theorem sc_is_between : FnScope ["value", "least", "most"] ["value", "least", "most"] (defScope s_is_between) := ⟨rfl, rfl, rfl, by decide +kernel, rfl, by decide +kernel, by decide +kernel⟩
def b_is_between (c_is_integer : FD) : FS :=
  (sRet (fAnd (fCall c_is_integer (fCons (fVar 0) fNil)) (fChain gLeX gLeX (fVar 1) (fVar 0) (fVar 2))))
def d_is_between (c_is_integer : FD) : FD := runD 3 (b_is_between c_is_integer)
theorem ok_is_between {c_is_integer : FD} {k : Nat} (T : Txt w K mg) (C_is_integer : Callee P w K mg base ct k "is_integer" 1 c_is_integer) : Callee P w K mg base ct (k + 1) "is_between" 3 (d_is_between c_is_integer) :=
  callee_of T.d_is_between sc_is_between fun f cdv A outer s H E hr =>
    (sss_one (ss_ret (se_and (se_fn C_is_integer hr (by rfl) (sa_cons (se_var 0) sa_nil) (fCons_len (fun _ _ _ _ h => fNil_len h))) (se_one (se_chain (op_leX hr) od_leX (op_leX hr) od_leX (se_var 1) (se_var 0) (se_var 2))))))
abbrev s_natural : Stmt := topS 32
theorem sc_natural : FnScope ["text", "most", "sign"] ["text", "most"] (defScope s_natural) := ⟨rfl, rfl, rfl, by decide +kernel, rfl, by decide +kernel, by decide +kernel⟩
def b_natural : FS :=
  (sSeq (sIf (tOrD (tNotD (fTest (fChain gLeX gLeX (fC (.int 1)) (fCall cLen (fCons (fVar 0) fNil)) (fVar 1)))) (fTest (fCall cAny (fCons (fLc (iStrD (fVar 0)) (gN 2) tYesD (fBin (gInX true) (fVar 2) (fC (.str "0123456789"))) [2]) fNil)))) (sRet (fC .non)) sSkip)
    (sRet (fIf (tOrD (fTest (fBin gEq (fVar 0) (fC (.str "0")))) (fTest (fBin gNe (fBin gIx (fVar 0) (fC (.int 0))) (fC (.str "0"))))) (fCall cInt (fCons (fVar 0) fNil)) (fC .non))))
def d_natural : FD := runD 3 (b_natural)
theorem ok_natural {k : Nat} (T : Txt w K mg) : Callee P w K mg base ct (k + 1) "natural" 2 (d_natural) :=
  callee_of T.d_natural sc_natural fun f cdv A outer s H E hr =>
    (sss_cons (ss_if (SW.st (sw_or (st_not (st_chain (op_leX hr) od_leX (op_leX hr) od_leX se_int (se_callB call_lenAll cd_len (by rfl) T.n_len (by decide +kernel) (sa_cons (se_var 0) sa_nil)) (se_var 1))) (sw_or1 (st_val (se_callB (cr_any rfl) cd_any (by rfl) T.n_any (by decide +kernel) (sa_cons (se_lc (own := [("sign", 2)]) rfl sc_natural.nd (si_str (se_var 0)) (blkOk_by (own := [("sign", 2)]) (N := ["text", "most", "sign"]) (sc := defScope s_natural) (by decide +kernel)) (fun _ _ _ _ _ => (sgw_name (i := 2) sc_natural.nd rfl (Or.inl rfl) (by decide))) (fun _ _ _ _ _ => sts_nil) (fun _ _ _ _ _ => (se_cmp (op_notInX hr) od_notInX (se_var 2) (se_globC (d := (.str "0123456789")) (by rfl) T.c_DIGITS (fun _ _ => rfl)) (by rfl)))) sa_nil)))))) (sss_one (ss_ret se_non)) sss_nil)
      (sss_one (ss_ret (se_if (SW.st (sw_or (st_cmp (op_eqAll hr) od_eq (se_var 0) se_str (nomark _)) (sw_or1 (st_cmp (op_neAll hr) od_ne (se_ix ix_seq od_ix (se_var 0) se_int (fun _ _ => rfl)) se_str (nomark _))))) (se_callTy call_intAll cd_int (by rfl) T.n_int (by decide +kernel) (sa_cons (se_var 0) sa_nil)) se_non))))
abbrev s_party_of : Stmt := topS 34
theorem sc_party_of : FnScope ["text", "head", "mark", "rest", "people", "ties", "piece", "left", "hyphen", "right", "one", "other"] ["text"] (defScope s_party_of) := ⟨rfl, rfl, rfl, by decide +kernel, rfl, by decide +kernel, by decide +kernel⟩
def b_party_of (c_natural : FD) : FS :=
  (sSeq (sIf (tNotD (fTest (fIsi "str" (fVar 0)))) (sRet (fC .non)) sSkip)
    (sSeq (sAsg (fPart (fVar 0) (fC (.str ":"))) (gTup 3 (gCons (gN 1) (gCons (gN 2) (gCons (gN 3) gNil)))))
    (sSeq (sPar 4 5 (fCons (fCall c_natural (fCons (fVar 1) (fCons (fC (.int 2)) fNil))) (fCons (fLstM fNil) fNil)))
    (sSeq (sIf (tOrD (fTest (fBin gEq (fVar 2) (fC (.str "")))) (tOrD (fTest (fBin gIsN (fVar 4) (fC .non))) (tOrD (fTest (fBin gGt (fVar 4) (fC (.int 10)))) (fTest (fBin (gInX true) (fSlX (fVar 3) oNone (oSome (fC (.int 1)))) (fTup (fCons (fC (.str "")) (fCons (fC (.str " ")) fNil)))))))) (sRet (fC .non)) sSkip)
    (sSeq (sFor (iLst (fSlX (fSplit (fVar 3) (fC (.str " "))) (oSome (fC (.int 1))) oNone)) (gN 6) (sSeq (sAsg (fPart (fVar 6) (fC (.str "-"))) (gTup 3 (gCons (gN 7) (gCons (gN 8) (gCons (gN 9) gNil)))))
    (sSeq (sPar 10 11 (fCons (fCall c_natural (fCons (fVar 7) (fCons (fC (.int 1)) fNil))) (fCons (fCall c_natural (fCons (fVar 9) (fCons (fC (.int 1)) fNil))) fNil)))
    (sSeq (sIf (tOrD (fTest (fBin gIsN (fVar 10) (fC .non))) (tOrD (fTest (fBin gIsN (fVar 11) (fC .non))) (tOrD (tNotD (fTest (fChain gLtX gLtX (fVar 10) (fVar 11) (fVar 4)))) (tAndD (fTest (fBin gNeR (fVar 5) (fLst fNil))) (fTest (fBin gLeX (fTup (fCons (fVar 10) (fCons (fVar 11) fNil))) (fBin gIx (fVar 5) (fUn gNeg (fC (.int 1)))))))))) (sRet (fC .non)) sSkip)
    (sExpr (fAppend (fVar 5) (fTup (fCons (fVar 10) (fCons (fVar 11) fNil)))))))))
    (sRet (fTup (fCons (fVar 4) (fCons (fVar 5) fNil)))))))))
def d_party_of (c_natural : FD) : FD := runD 12 (b_party_of c_natural)
theorem ok_party_of {c_natural : FD} {k : Nat} (T : Txt w K mg) (C_natural : Callee P w K mg base ct k "natural" 2 c_natural) : Callee P w K mg base ct (k + 1) "party_of" 1 (d_party_of c_natural) :=
  callee_of T.d_party_of sc_party_of fun f cdv A outer s H E hr =>
    (sss_cons (ss_if (st_not (st_val (se_isi (by rfl) T.n_isinstance (se_var 0) (by rfl) T.n_str (by decide +kernel)))) (sss_one (ss_ret se_non)) sss_nil)
      (sss_cons (ss_asg (se_part (se_var 0) se_str) (sg_tup rfl (sgs_cons (sg_name (i := 1) sc_party_of.nd rfl (Or.inl rfl)) (sgs_cons (sg_name (i := 2) sc_party_of.nd rfl (Or.inl rfl)) (sgs_cons (sg_name (i := 3) sc_party_of.nd rfl (Or.inl rfl)) sgs_nil)))))
      (sss_cons (ss_par (i := 4) (j := 5) (fun ta h => ps_par rfl sc_party_of.nd rfl rfl (by decide) rfl rfl h (by rfl)) (sa_cons (se_fn C_natural hr (by rfl) (sa_cons (se_var 1) (sa_cons se_int sa_nil)) (fCons_len (fCons_len (fun _ _ _ _ h => fNil_len h)))) (sa_cons (se_lstM sa_nil) sa_nil)))
      (sss_cons (ss_if (SW.st (sw_or (st_cmp (op_eqAll hr) od_eq (se_var 2) se_str (nomark _)) (sw_or (st_cmp op_isN od_isN (se_var 4) se_non (nomark _)) (sw_or (st_cmp op_gt od_gt (se_var 4) (se_globC (d := (.int 10)) (by rfl) T.c_MOST_PEOPLE (fun _ _ => rfl)) (nomark _)) (sw_or1 (st_cmp (op_notInX hr) od_notInX (se_sliceX (se_var 3) so_none (so_some se_int)) (se_tup (sa_cons se_str (sa_cons se_str sa_nil))) (by rfl))))))) (sss_one (ss_ret se_non)) sss_nil)
      (sss_cons (ss_for PassesOwn.never rfl (si_list (se_sliceX (se_split (se_var 3) se_str) (so_some se_int) so_none)) (sg_name (i := 6) sc_party_of.nd rfl (Or.inl rfl)) (sss_cons (ss_asg (se_part (se_var 6) se_str) (sg_tup rfl (sgs_cons (sg_name (i := 7) sc_party_of.nd rfl (Or.inl rfl)) (sgs_cons (sg_name (i := 8) sc_party_of.nd rfl (Or.inl rfl)) (sgs_cons (sg_name (i := 9) sc_party_of.nd rfl (Or.inl rfl)) sgs_nil)))))
      (sss_cons (ss_par (i := 10) (j := 11) (fun ta h => ps_par rfl sc_party_of.nd rfl rfl (by decide) rfl rfl h (by rfl)) (sa_cons (se_fn C_natural hr (by rfl) (sa_cons (se_var 7) (sa_cons se_int sa_nil)) (fCons_len (fCons_len (fun _ _ _ _ h => fNil_len h)))) (sa_cons (se_fn C_natural hr (by rfl) (sa_cons (se_var 9) (sa_cons se_int sa_nil)) (fCons_len (fCons_len (fun _ _ _ _ h => fNil_len h)))) sa_nil)))
      (sss_cons (ss_if (SW.st (sw_or (st_cmp op_isN od_isN (se_var 10) se_non (nomark _)) (sw_or (st_cmp op_isN od_isN (se_var 11) se_non (nomark _)) (sw_or (st_not (st_chain (op_ltX hr) od_ltX (op_ltX hr) od_ltX (se_var 10) (se_var 11) (se_var 4))) (sw_or1 (SW.st (sw_and (st_cmp (op_neAll hr) od_neR (se_var 5) (se_lst sa_nil) (nomark _)) (sw_and1 (st_cmp (op_leX hr) od_leX (se_tup (sa_cons (se_var 10) (sa_cons (se_var 11) sa_nil))) (se_ix ix_seq od_ix (se_var 5) (se_neg se_int) (fun _ _ => rfl)) (nomark _)))))))))) (sss_one (ss_ret se_non)) sss_nil)
      (sss_one (ss_expr (se_append (se_var 5) (se_tup (sa_cons (se_var 10) (sa_cons (se_var 11) sa_nil))))))))))
      (sss_one (ss_ret (se_tup (sa_cons (se_var 4) (sa_cons (se_var 5) sa_nil))))))))))
abbrev s_are_people : Stmt := topS 41
theorem sc_are_people : FnScope ["value", "people", "k", "person"] ["value", "people"] (defScope s_are_people) := ⟨rfl, rfl, rfl, by decide +kernel, rfl, by decide +kernel, by decide +kernel⟩
def b_are_people (c_is_between : FD) : FS :=
  (sSeq (sIf (tNotD (fTest (fIsi "tuple" (fVar 0)))) (sRet (fC (.bl false))) sSkip)
    (sSeq (sFor (iEnum (iTup (fVar 0))) (gTup 2 (gCons (gN 2) (gCons (gN 3) gNil))) (sIf (tOrD (tNotD (fTest (fCall c_is_between (fCons (fVar 3) (fCons (fC (.int 0)) (fCons (fBin gSubI (fVar 1) (fC (.int 1))) fNil)))))) (fTest (fBin (gInX false) (fVar 3) (fSlX (fVar 0) oNone (oSome (fVar 2)))))) (sRet (fC (.bl false))) sSkip))
    (sRet (fC (.bl true)))))
def d_are_people (c_is_between : FD) : FD := runD 4 (b_are_people c_is_between)
theorem ok_are_people {c_is_between : FD} {k : Nat} (T : Txt w K mg) (C_is_between : Callee P w K mg base ct k "is_between" 3 c_is_between) : Callee P w K mg base ct (k + 1) "are_people" 2 (d_are_people c_is_between) :=
  callee_of T.d_are_people sc_are_people fun f cdv A outer s H E hr =>
    (sss_cons (ss_if (st_not (st_val (se_isi (by rfl) T.n_isinstance (se_var 0) (by rfl) T.n_tuple (by decide +kernel)))) (sss_one (ss_ret se_bl)) sss_nil)
      (sss_cons (ss_for PassesOwn.never rfl (si_enumT (by rfl) T.n_enumerate (se_var 0)) (sg_tup rfl (sgs_cons (sg_name (i := 2) sc_are_people.nd rfl (Or.inl rfl)) (sgs_cons (sg_name (i := 3) sc_are_people.nd rfl (Or.inl rfl)) sgs_nil))) (sss_one (ss_if (SW.st (sw_or (st_not (st_val (se_fn C_is_between hr (by rfl) (sa_cons (se_var 3) (sa_cons se_int (sa_cons (se_op op_sub od_sub (se_var 1) se_int) sa_nil))) (fCons_len (fCons_len (fCons_len (fun _ _ _ _ h => fNil_len h))))))) (sw_or1 (st_cmp (op_inX hr) od_inX (se_var 3) (se_sliceX (se_var 0) so_none (so_some (se_var 2))) (by rfl))))) (sss_one (ss_ret se_bl)) sss_nil)))
      (sss_one (ss_ret se_bl))))
abbrev s_renamed : Stmt := topS 49
theorem sc_renamed : FnScope ["ties", "row", "one", "other"] ["ties", "row"] (defScope s_renamed) := ⟨rfl, rfl, rfl, by decide +kernel, rfl, by decide +kernel, by decide +kernel⟩
def b_renamed : FS :=
  (sRet (fCall cSorted (fCons (fLc (iLst (fVar 0)) (gTup 2 (gCons (gN 2) (gCons (gN 3) gNil))) tYesD (fTup (fCons (fCall cMin2 (fCons (fBin gIx (fVar 1) (fVar 2)) (fCons (fBin gIx (fVar 1) (fVar 3)) fNil))) (fCons (fCall cMax2 (fCons (fBin gIx (fVar 1) (fVar 2)) (fCons (fBin gIx (fVar 1) (fVar 3)) fNil))) fNil))) [2, 3]) fNil)))
def d_renamed : FD := runD 4 (b_renamed)
theorem ok_renamed {k : Nat} (T : Txt w K mg) : Callee P w K mg base ct (k + 1) "renamed" 2 (d_renamed) :=
  callee_of T.d_renamed sc_renamed fun f cdv A outer s H E hr =>
    (sss_one (ss_ret (se_callB (cr_sortX hr) cd_sorted (by rfl) T.n_sorted (by decide +kernel) (sa_cons (se_lc (own := [("one", 2), ("other", 3)]) rfl sc_renamed.nd (si_list (se_var 0)) (blkOk_by (own := [("one", 2), ("other", 3)]) (N := ["ties", "row", "one", "other"]) (sc := defScope s_renamed) (by decide +kernel)) (fun _ _ _ _ _ => (sgw_tup rfl (sgws_cons (sgw_name (i := 2) sc_renamed.nd rfl (Or.inl rfl) (by decide)) (sgws_cons (sgw_name (i := 3) sc_renamed.nd rfl (Or.inl rfl) (by decide)) sgws_nil)))) (fun _ _ _ _ _ => sts_nil) (fun _ _ _ _ _ => (se_tup (sa_cons (se_callB (call_min2 rfl) cd_min2 (by rfl) T.n_min (by decide +kernel) (sa_cons (se_ix ix_seq od_ix (se_var 1) (se_var 2) (fun _ _ => rfl)) (sa_cons (se_ix ix_seq od_ix (se_var 1) (se_var 3) (fun _ _ => rfl)) sa_nil))) (sa_cons (se_callB (call_max2 rfl) cd_max2 (by rfl) T.n_max (by decide +kernel) (sa_cons (se_ix ix_seq od_ix (se_var 1) (se_var 2) (fun _ _ => rfl)) (sa_cons (se_ix ix_seq od_ix (se_var 1) (se_var 3) (fun _ _ => rfl)) sa_nil))) sa_nil))))) sa_nil))))
abbrev s_is_about_parties : Stmt := topS 30
theorem sc_is_about_parties : FnScope ["word", "party", "other", "certificate", "people", "ties", "row"] ["word", "party", "other", "certificate"] (defScope s_is_about_parties) := ⟨rfl, rfl, rfl, by decide +kernel, rfl, by decide +kernel, by decide +kernel⟩
def b_is_about_parties (c_renamed : FD) (c_are_people : FD) : FS :=
  (sSeq (sIf (tOrD (fTest (fBin gIsN (fVar 1) (fC .non))) (tOrD (fTest (fBin gIsN (fVar 2) (fC .non))) (fTest (fBin gNe (fBin gIx (fVar 1) (fC (.int 0))) (fBin gIx (fVar 2) (fC (.int 0))))))) (sRet (fC (.bl false))) sSkip)
    (sSeq (sAsg (fVar 1) (gTup 2 (gCons (gN 4) (gCons (gN 5) gNil))))
    (sSeq (sIf (tOrD (tNotD (fTest (fCall c_are_people (fCons (fVar 3) (fCons (fVar 4) fNil))))) (tOrD (fTest (fBin gNe (fCall cLen (fCons (fVar 3) fNil)) (fVar 4))) (fTest (fBin gNe (fCall c_renamed (fCons (fVar 5) (fCons (fVar 3) fNil))) (fBin gIx (fVar 2) (fC (.int 1))))))) (sRet (fC (.bl false))) sSkip)
    (sSeq (sIf (fTest (fBin gEq (fVar 0) (fC (.str "alike")))) (sRet (fC (.bl true))) sSkip)
    (sSeq (sIf (fTest (fBin gGt (fVar 4) (fC (.int 6)))) (sRet (fC (.bl false))) sSkip)
    (sRet (fNot (fCall cAny (fCons (fLc (iLst fNever) (gN 6) tYesD (fBin gLtX (fCall c_renamed (fCons (fVar 5) (fCons (fVar 6) fNil))) (fBin gIx (fVar 2) (fC (.int 1)))) [6]) fNil)))))))))
def d_is_about_parties (c_renamed : FD) (c_are_people : FD) : FD := runD 7 (b_is_about_parties c_renamed c_are_people)
theorem ok_is_about_parties {c_renamed : FD} {c_are_people : FD} {k : Nat} (T : Txt w K mg) (C_renamed : Callee P w K mg base ct k "renamed" 2 c_renamed) (C_are_people : Callee P w K mg base ct k "are_people" 2 c_are_people) : Callee P w K mg base ct (k + 1) "is_about_parties" 4 (d_is_about_parties c_renamed c_are_people) :=
  callee_of T.d_is_about_parties sc_is_about_parties fun f cdv A outer s H E hr =>
    (sss_cons (ss_if (SW.st (sw_or (st_cmp op_isN od_isN (se_var 1) se_non (nomark _)) (sw_or (st_cmp op_isN od_isN (se_var 2) se_non (nomark _)) (sw_or1 (st_cmp (op_neAll hr) od_ne (se_ix ix_seq od_ix (se_var 1) se_int (fun _ _ => rfl)) (se_ix ix_seq od_ix (se_var 2) se_int (fun _ _ => rfl)) (nomark _)))))) (sss_one (ss_ret se_bl)) sss_nil)
      (sss_cons (ss_asg (se_var 1) (sg_tup rfl (sgs_cons (sg_name (i := 4) sc_is_about_parties.nd rfl (Or.inl rfl)) (sgs_cons (sg_name (i := 5) sc_is_about_parties.nd rfl (Or.inr rfl)) sgs_nil))))
      (sss_cons (ss_if (SW.st (sw_or (st_not (st_val (se_fn C_are_people hr (by rfl) (sa_cons (se_var 3) (sa_cons (se_var 4) sa_nil)) (fCons_len (fCons_len (fun _ _ _ _ h => fNil_len h)))))) (sw_or (st_cmp (op_neAll hr) od_ne (se_callB call_lenAll cd_len (by rfl) T.n_len (by decide +kernel) (sa_cons (se_var 3) sa_nil)) (se_var 4) (nomark _)) (sw_or1 (st_cmp (op_neAll hr) od_ne (se_fn C_renamed hr (by rfl) (sa_cons (se_var 5) (sa_cons (se_var 3) sa_nil)) (fCons_len (fCons_len (fun _ _ _ _ h => fNil_len h)))) (se_ix ix_seq od_ix (se_var 2) se_int (fun _ _ => rfl)) (nomark _)))))) (sss_one (ss_ret se_bl)) sss_nil)
      (sss_cons (ss_if (st_cmp (op_eqAll hr) od_eq (se_var 0) se_str (nomark _)) (sss_one (ss_ret se_bl)) sss_nil)
      (sss_cons (ss_if (st_cmp op_gt od_gt (se_var 4) (se_globC (d := (.int 6)) (by rfl) T.c_MOST_SHAPED (fun _ _ => rfl)) (nomark _)) (sss_one (ss_ret se_bl)) sss_nil)
      (sss_one (ss_ret (se_not (se_callB (cr_any rfl) cd_any (by rfl) T.n_any (by decide +kernel) (sa_cons (se_lc (own := [("row", 6)]) rfl sc_is_about_parties.nd (si_list se_never) (blkOk_by (own := [("row", 6)]) (N := ["word", "party", "other", "certificate", "people", "ties", "row"]) (sc := defScope s_is_about_parties) (by decide +kernel)) (fun _ _ _ _ _ => (sgw_name (i := 6) sc_is_about_parties.nd rfl (Or.inl rfl) (by decide))) (fun _ _ _ _ _ => sts_nil) (fun _ _ _ _ _ => (se_cmp (op_ltX hr) od_ltX (se_fn C_renamed hr (by rfl) (sa_cons (se_var 5) (sa_cons (se_var 6) sa_nil)) (fCons_len (fCons_len (fun _ _ _ _ h => fNil_len h)))) (se_ix ix_seq od_ix (se_var 2) se_int (fun _ _ => rfl)) (nomark _)))) sa_nil))))))))))
abbrev s_accepts : Stmt := topS 27
theorem sc_accepts : FnScope ["claim", "certificate", "word", "more", "thing", "party"] ["claim", "certificate"] (defScope s_accepts) := ⟨rfl, rfl, rfl, by decide +kernel, rfl, by decide +kernel, by decide +kernel⟩
def b_accepts (c_party_of : FD) (c_is_about_parties : FD) : FS :=
  (sSeq (sIf (tOrD (tNotD (fTest (fIsi "tuple" (fVar 0)))) (tOrD (fTest (fBin gLtX (fCall cLen (fCons (fVar 0) fNil)) (fC (.int 3)))) (tNotD (fTest (fIsi "str" (fBin gIx (fVar 0) (fC (.int 0)))))))) (sRet (fC (.bl false))) sSkip)
    (sSeq (sPar 2 3 (fCons (fBin gIx (fVar 0) (fC (.int 0))) (fCons (fSlX (fVar 0) (oSome (fC (.int 3))) oNone) fNil)))
    (sSeq (sIf (fTest (fBin gNe (fKGet2 tab_LENGTHS (fVar 2) (fC (.int 0))) (fCall cLen (fCons (fVar 0) fNil)))) (sRet (fC (.bl false))) sSkip)
    (sSeq (sIf (fTest (fBin (gInX false) (fVar 2) (fTup (fCons (fC (.str "alike")) (fCons (fC (.str "shape")) fNil))))) (sRet (fCall c_is_about_parties (fCons (fVar 2) (fCons (fCall c_party_of (fCons (fBin gIx (fVar 0) (fC (.int 1))) fNil)) (fCons (fCall c_party_of (fCons (fBin gIx (fVar 0) (fC (.int 2))) fNil)) (fCons (fVar 1) fNil)))))) sSkip)
    (sSeq (sAsg fNever (gN 4))
    (sSeq (sIf (fTest (fBin gIsN (fVar 4) (fC .non))) (sRet (fC (.bl false))) sSkip)
    (sSeq (sIf (fTest (fBin (gInX false) (fVar 2) (fTup (fCons (fC (.str "most")) (fCons (fC (.str "least")) fNil))))) (sRet (fAnd (fBin gIsN (fVar 1) (fC .non)) fNever)) sSkip)
    (sSeq (sIf (fTest (fBin (gInX false) (fVar 2) (fTup (fCons (fC (.str "follows")) (fCons (fC (.str "parted")) fNil))))) (sRet fNever) sSkip)
    (sSeq (sAsg (fCall c_party_of (fCons (fBin gIx (fVar 0) (fC (.int 2))) fNil)) (gN 5))
    (sRet (fAnd (fBin gNotN (fVar 5) (fC .non)) fNever)))))))))))
def d_accepts (c_party_of : FD) (c_is_about_parties : FD) : FD := runD 6 (b_accepts c_party_of c_is_about_parties)
theorem ok_accepts {c_party_of : FD} {c_is_about_parties : FD} {k : Nat} (T : Txt w K mg) (C_party_of : Callee P w K mg base ct k "party_of" 1 c_party_of) (C_is_about_parties : Callee P w K mg base ct k "is_about_parties" 4 c_is_about_parties) : Callee P w K mg base ct (k + 1) "accepts" 2 (d_accepts c_party_of c_is_about_parties) :=
  callee_of T.d_accepts sc_accepts fun f cdv A outer s H E hr =>
    (sss_cons (ss_if (SW.st (sw_or (st_not (st_val (se_isi (by rfl) T.n_isinstance (se_var 0) (by rfl) T.n_tuple (by decide +kernel)))) (sw_or (st_cmp (op_ltX hr) od_ltX (se_callB call_lenAll cd_len (by rfl) T.n_len (by decide +kernel) (sa_cons (se_var 0) sa_nil)) se_int (nomark _)) (sw_or1 (st_not (st_val (se_isi (by rfl) T.n_isinstance (se_ix ix_seq od_ix (se_var 0) se_int (fun _ _ => rfl)) (by rfl) T.n_str (by decide +kernel)))))))) (sss_one (ss_ret se_bl)) sss_nil)
      (sss_cons (ss_par (i := 2) (j := 3) (fun ta h => ps_par rfl sc_accepts.nd rfl rfl (by decide) rfl rfl h (by rfl)) (sa_cons (se_ix ix_seq od_ix (se_var 0) se_int (fun _ _ => rfl)) (sa_cons (se_sliceX (se_var 0) (so_some se_int) so_none) sa_nil)))
      (sss_cons (ss_if (st_cmp (op_neAll hr) od_ne (se_kget2G T.k_LENGTHS (by rfl) (se_var 2) se_int ⟨rfl, rfl, rfl, rfl⟩) (se_callB call_lenAll cd_len (by rfl) T.n_len (by decide +kernel) (sa_cons (se_var 0) sa_nil)) (nomark _)) (sss_one (ss_ret se_bl)) sss_nil)
      (sss_cons (ss_if (st_cmp (op_inX hr) od_inX (se_var 2) (se_tup (sa_cons se_str (sa_cons se_str sa_nil))) (by rfl)) (sss_one (ss_ret (se_fn C_is_about_parties hr (by rfl) (sa_cons (se_var 2) (sa_cons (se_fn C_party_of hr (by rfl) (sa_cons (se_ix ix_seq od_ix (se_var 0) se_int (fun _ _ => rfl)) sa_nil) (fCons_len (fun _ _ _ _ h => fNil_len h))) (sa_cons (se_fn C_party_of hr (by rfl) (sa_cons (se_ix ix_seq od_ix (se_var 0) se_int (fun _ _ => rfl)) sa_nil) (fCons_len (fun _ _ _ _ h => fNil_len h))) (sa_cons (se_var 1) sa_nil)))) (fCons_len (fCons_len (fCons_len (fCons_len (fun _ _ _ _ h => fNil_len h)))))))) sss_nil)
      (sss_cons (ss_set (i := 4) sc_accepts.nd rfl (Or.inl rfl) se_never)
      (sss_cons (ss_if (st_cmp op_isN od_isN (se_var 4) se_non (nomark _)) (sss_one (ss_ret se_bl)) sss_nil)
      (sss_cons (ss_if (st_cmp (op_inX hr) od_inX (se_var 2) (se_tup (sa_cons se_str (sa_cons se_str sa_nil))) (by rfl)) (sss_one (ss_ret (se_and (se_cmp op_isN od_isN (se_var 1) se_non (nomark _)) (se_one se_never)))) sss_nil)
      (sss_cons (ss_if (st_cmp (op_inX hr) od_inX (se_var 2) (se_tup (sa_cons se_str (sa_cons se_str sa_nil))) (by rfl)) (sss_one (ss_ret se_never)) sss_nil)
      (sss_cons (ss_set (i := 5) sc_accepts.nd rfl (Or.inl rfl) (se_fn C_party_of hr (by rfl) (sa_cons (se_ix ix_seq od_ix (se_var 0) se_int (fun _ _ => rfl)) sa_nil) (fCons_len (fun _ _ _ _ h => fNil_len h))))
      (sss_one (ss_ret (se_and (se_cmp op_notN od_notN (se_var 5) se_non (nomark _)) (se_one se_never)))))))))))))
abbrev s__law_stock : Stmt := topS 54
theorem sc__law_stock : FnScope ["_law_script", "_law_k", "_law_cell", "_law_state", "_law_each", "_law_part"] ["_law_script", "_law_k"] (defScope s__law_stock) := ⟨rfl, rfl, rfl, by decide +kernel, rfl, by decide +kernel, by decide +kernel⟩
def b__law_stock : FS :=
  (sSeq (sAsg (fIf (fTest (fBin gLtX (fVar 1) (fCall cLen (fCons (fVar 0) fNil)))) (fCall cInt (fCons (fBin gIx (fVar 0) (fVar 1)) fNil)) (fBin gMul (fC (.int 611953)) (fBin gAddX (fVar 1) (fC (.int 1))))) (gN 2))
    (sSeq (sAsg (fBin gAddX (fC (.int 2750159)) (fBin gMul (fC (.int 15485863)) (fVar 1))) (gN 3))
    (sSeq (sFor (iLst (fBin gAddX (fSlX (fVar 0) oNone (oSome (fC (.int 8)))) (fLst (fCons (fVar 2) fNil)))) (gN 4) (sSeq (sAsg (fBin gAddX (fBin gMul (fBin gMod (fCall cInt (fCons (fCall cAbs (fCons (fVar 4) fNil)) fNil)) (fC (.int 999999999989))) (fC (.int 2))) (fCall cInt (fCons (fBin gLtX (fVar 4) (fC (.int 0))) fNil))) (gN 5))
    (sAsg (fBin gMod (fCall cInt (fCons (fBin gAddX (fBin gAddX (fBin gMul (fVar 3) (fC (.int 7664345821815920749))) (fVar 5)) (fC (.int 1))) fNil)) (fC (.int 9223372036854775783))) (gN 3))))
    (sRet (fLstM (fCons (fIf (fTest (fBin gGe (fCall cAbs (fCons (fVar 2) fNil)) (fBin gPow (fC (.int 10)) (fC (.int 18))))) (fCall cAbs (fCons (fVar 2) fNil)) (fC (.int 0))) (fCons (fVar 3) (fCons (fC (.int 0)) fNil))))))))
def d__law_stock : FD := runD 6 (b__law_stock)
theorem ok__law_stock {k : Nat} (T : Txt w K mg) : Callee P w K mg base ct (k + 1) "_law_stock" 2 (d__law_stock) :=
  callee_of T.d__law_stock sc__law_stock fun f cdv A outer s H E hr =>
    (sss_cons (ss_set (i := 2) sc__law_stock.nd rfl (Or.inl rfl) (se_if (st_cmp (op_ltX hr) od_ltX (se_var 1) (se_callB call_lenAll cd_len (by rfl) T.n_len (by decide +kernel) (sa_cons (se_var 0) sa_nil)) (nomark _)) (se_callTy call_intAll cd_int (by rfl) T.n_int (by decide +kernel) (sa_cons (se_ix ix_seq od_ix (se_var 0) (se_var 1) (fun _ _ => rfl)) sa_nil)) (se_op op_mulW od_mul se_int (se_op op_addX od_addX (se_var 1) se_int))))
      (sss_cons (ss_set (i := 3) sc__law_stock.nd rfl (Or.inl rfl) (se_op op_addX od_addX se_int (se_op op_mulW od_mul se_int (se_var 1))))
      (sss_cons (ss_for PassesOwn.never rfl (si_list (se_op op_addX od_addX (se_sliceX (se_var 0) so_none (so_some se_int)) (se_lst (sa_cons (se_var 2) sa_nil)))) (sg_name (i := 4) sc__law_stock.nd rfl (Or.inl rfl)) (sss_cons (ss_set (i := 5) sc__law_stock.nd rfl (Or.inl rfl) (se_op op_addX od_addX (se_op op_mulW od_mul (se_op op_mod od_mod (se_callTy call_intAll cd_int (by rfl) T.n_int (by decide +kernel) (sa_cons (se_callB call_abs cd_abs (by rfl) T.n_abs (by decide +kernel) (sa_cons (se_var 4) sa_nil)) sa_nil)) se_int) se_int) (se_callTy call_intAll cd_int (by rfl) T.n_int (by decide +kernel) (sa_cons (se_cmp (op_ltX hr) od_ltX (se_var 4) se_int (nomark _)) sa_nil))))
      (sss_one (ss_set (i := 3) sc__law_stock.nd rfl (Or.inl rfl) (se_op op_mod od_mod (se_callTy call_intAll cd_int (by rfl) T.n_int (by decide +kernel) (sa_cons (se_op op_addX od_addX (se_op op_addX od_addX (se_op op_mulW od_mul (se_var 3) se_int) (se_var 5)) se_int) sa_nil)) se_int)))))
      (sss_one (ss_ret (se_lstM (sa_cons (se_if (st_cmp op_ge od_ge (se_callB call_abs cd_abs (by rfl) T.n_abs (by decide +kernel) (sa_cons (se_var 2) sa_nil)) (se_op op_pow od_pow se_int se_int) (nomark _)) (se_callB call_abs cd_abs (by rfl) T.n_abs (by decide +kernel) (sa_cons (se_var 2) sa_nil)) se_int) (sa_cons (se_var 3) (sa_cons se_int sa_nil)))))))))
abbrev s__law_take : Stmt := topS 55
theorem sc__law_take : FnScope ["_law_stock_here", "_law_many", "_law_digit", "_law_more"] ["_law_stock_here", "_law_many"] (defScope s__law_take) := ⟨rfl, rfl, rfl, by decide +kernel, rfl, by decide +kernel, by decide +kernel⟩
def b__law_take : FS :=
  (sSeq (sIf (fTest (fBin gGt (fBin gIx (fVar 0) (fC (.int 0))) (fC (.int 0)))) (sSeq (sAsg (fBin gMod (fCall cInt (fCons (fBin gIx (fVar 0) (fC (.int 0))) fNil)) (fVar 1)) (gN 2))
    (sSeq (sAsg (fBin gFdiv (fBin gIx (fVar 0) (fC (.int 0))) (fVar 1)) (gSub gSetA (fVar 0) (fC (.int 0))))
    (sRet (fVar 2)))) sSkip)
    (sSeq (sAsg (fBin gAddX (fBin gIx (fVar 0) (fC (.int 2))) (fC (.int 1))) (gSub gSetA (fVar 0) (fC (.int 2))))
    (sSeq (sAsg (fBin gAddX (fBin gMul (fBin gIx (fVar 0) (fC (.int 2))) (fC (.int 32452843))) (fC (.int 49979687))) (gN 3))
    (sSeq (sAsg (fBin gMod (fCall cInt (fCons (fBin gAddX (fBin gMul (fBin gIx (fVar 0) (fC (.int 1))) (fC (.int 1181783497276652981))) (fVar 3)) fNil)) (fC (.int 9223372036854775783))) (gSub gSetA (fVar 0) (fC (.int 1))))
    (sRet (fBin gMod (fCall cInt (fCons (fBin gFdiv (fBin gIx (fVar 0) (fC (.int 1))) (fC (.int 131072))) fNil)) (fVar 1)))))))
def d__law_take : FD := runD 4 (b__law_take)
theorem ok__law_take {k : Nat} (T : Txt w K mg) : Callee P w K mg base ct (k + 1) "_law_take" 2 (d__law_take) :=
  callee_of T.d__law_take sc__law_take fun f cdv A outer s H E hr =>
    (sss_cons (ss_if (st_cmp op_gt od_gt (se_ix ix_seq od_ix (se_var 0) se_int (fun _ _ => rfl)) se_int (nomark _)) (sss_cons (ss_set (i := 2) sc__law_take.nd rfl (Or.inl rfl) (se_op op_mod od_mod (se_callTy call_intAll cd_int (by rfl) T.n_int (by decide +kernel) (sa_cons (se_ix ix_seq od_ix (se_var 0) se_int (fun _ _ => rfl)) sa_nil)) (se_var 1)))
      (sss_cons (ss_asg (se_op op_fdivW od_fdiv (se_ix ix_seq od_ix (se_var 0) se_int (fun _ _ => rfl)) (se_var 1)) (sg_sub (se_var 0) se_int (set_all hr) sd_all))
      (sss_one (ss_ret (se_var 2))))) sss_nil)
      (sss_cons (ss_asg (se_op op_addX od_addX (se_ix ix_seq od_ix (se_var 0) se_int (fun _ _ => rfl)) se_int) (sg_sub (se_var 0) se_int (set_all hr) sd_all))
      (sss_cons (ss_set (i := 3) sc__law_take.nd rfl (Or.inl rfl) (se_op op_addX od_addX (se_op op_mulW od_mul (se_ix ix_seq od_ix (se_var 0) se_int (fun _ _ => rfl)) se_int) se_int))
      (sss_cons (ss_asg (se_op op_mod od_mod (se_callTy call_intAll cd_int (by rfl) T.n_int (by decide +kernel) (sa_cons (se_op op_addX od_addX (se_op op_mulW od_mul (se_ix ix_seq od_ix (se_var 0) se_int (fun _ _ => rfl)) se_int) (se_var 3)) sa_nil)) se_int) (sg_sub (se_var 0) se_int (set_all hr) sd_all))
      (sss_one (ss_ret (se_op op_mod od_mod (se_callTy call_intAll cd_int (by rfl) T.n_int (by decide +kernel) (sa_cons (se_op op_fdivW od_fdiv (se_ix ix_seq od_ix (se_var 0) se_int (fun _ _ => rfl)) se_int) sa_nil)) (se_var 1))))))))
abbrev s__law_agrees : Stmt := topS 56
theorem sc__law_agrees : FnScope ["_law_claim", "_law_paper", "_law_due_here", "_law_told"] ["_law_claim", "_law_paper", "_law_due_here"] (defScope s__law_agrees) := ⟨rfl, rfl, rfl, by decide +kernel, rfl, by decide +kernel, by decide +kernel⟩
def b__law_agrees (c_accepts : FD) : FS :=
  (sSeq (sAsg (fCall c_accepts (fCons (fVar 0) (fCons (fVar 1) fNil))) (gN 3))
    (sRet (fAnd (fIsi "bool" (fVar 3)) (fBin gEq (fVar 3) (fVar 2)))))
def d__law_agrees (c_accepts : FD) : FD := runD 4 (b__law_agrees c_accepts)
theorem ok__law_agrees {c_accepts : FD} {k : Nat} (T : Txt w K mg) (C_accepts : Callee P w K mg base ct k "accepts" 2 c_accepts) : Callee P w K mg base ct (k + 1) "_law_agrees" 3 (d__law_agrees c_accepts) :=
  callee_of T.d__law_agrees sc__law_agrees fun f cdv A outer s H E hr =>
    (sss_cons (ss_set (i := 3) sc__law_agrees.nd rfl (Or.inl rfl) (se_fn C_accepts hr (by rfl) (sa_cons (se_var 0) (sa_cons (se_var 1) sa_nil)) (fCons_len (fCons_len (fun _ _ _ _ h => fNil_len h)))))
      (sss_one (ss_ret (se_and (se_isi (by rfl) T.n_isinstance (se_var 3) (by rfl) T.n_bool (by decide +kernel)) (se_one (se_cmp (op_eqAll hr) od_eq (se_var 3) (se_var 2) (nomark _)))))))
abbrev s__law_is : Stmt := topS 57
theorem sc__law_is : FnScope ["_law_value", "_law_least", "_law_most"] ["_law_value", "_law_least", "_law_most"] (defScope s__law_is) := ⟨rfl, rfl, rfl, by decide +kernel, rfl, by decide +kernel, by decide +kernel⟩
def b__law_is : FS :=
  (sRet (fAnd (fIsi "int" (fVar 0)) (fAnd (fNot (fIsi "bool" (fVar 0))) (fAnd (fBin gLeX (fVar 1) (fVar 0)) (fBin gLeX (fVar 0) (fVar 2))))))
def d__law_is : FD := runD 3 (b__law_is)
theorem ok__law_is {k : Nat} (T : Txt w K mg) : Callee P w K mg base ct (k + 1) "_law_is" 3 (d__law_is) :=
  callee_of T.d__law_is sc__law_is fun f cdv A outer s H E hr =>
    (sss_one (ss_ret (se_and (se_isi (by rfl) T.n_isinstance (se_var 0) (by rfl) T.n_int (by decide +kernel)) (se_and (se_not (se_isi (by rfl) T.n_isinstance (se_var 0) (by rfl) T.n_bool (by decide +kernel))) (se_and (se_cmp (op_leX hr) od_leX (se_var 1) (se_var 0) (nomark _)) (se_one (se_cmp (op_leX hr) od_leX (se_var 0) (se_var 2) (nomark _))))))))
abbrev s__law_line : Stmt := topS 58
theorem sc__law_line : FnScope ["_law_many", "_law_ties", "_law_tie_here"] ["_law_many", "_law_ties"] (defScope s__law_line) := ⟨rfl, rfl, rfl, by decide +kernel, rfl, by decide +kernel, by decide +kernel⟩
def b__law_line : FS :=
  (sRet (fJoin (fC (.str " ")) (fBin gAddX (fLst (fCons (fBin gAddX (fCall cStrX (fCons (fVar 0) fNil)) (fC (.str ":"))) fNil)) (fLc (iLst (fVar 1)) (gN 2) tYesD (fBin gAddX (fBin gAddX (fCall cStrX (fCons (fBin gIx (fVar 2) (fC (.int 0))) fNil)) (fC (.str "-"))) (fCall cStrX (fCons (fBin gIx (fVar 2) (fC (.int 1))) fNil))) [2]))))
def d__law_line : FD := runD 3 (b__law_line)
theorem ok__law_line {k : Nat} (T : Txt w K mg) : Callee P w K mg base ct (k + 1) "_law_line" 2 (d__law_line) :=
  callee_of T.d__law_line sc__law_line fun f cdv A outer s H E hr =>
    (sss_one (ss_ret (se_join se_str (se_op op_addX od_addX (se_lst (sa_cons (se_op op_addX od_addX (se_callTy (call_strX hr) cd_strX (by rfl) T.n_str (by decide +kernel) (sa_cons (se_var 0) sa_nil)) se_str) sa_nil)) (se_lc (own := [("_law_tie_here", 2)]) rfl sc__law_line.nd (si_list (se_var 1)) (blkOk_by (own := [("_law_tie_here", 2)]) (N := ["_law_many", "_law_ties", "_law_tie_here"]) (sc := defScope s__law_line) (by decide +kernel)) (fun _ _ _ _ _ => (sgw_name (i := 2) sc__law_line.nd rfl (Or.inl rfl) (by decide))) (fun _ _ _ _ _ => sts_nil) (fun _ _ _ _ _ => (se_op op_addX od_addX (se_op op_addX od_addX (se_callTy (call_strX hr) cd_strX (by rfl) T.n_str (by decide +kernel) (sa_cons (se_ix ix_seq od_ix (se_var 2) se_int (fun _ _ => rfl)) sa_nil)) se_str) (se_callTy (call_strX hr) cd_strX (by rfl) T.n_str (by decide +kernel) (sa_cons (se_ix ix_seq od_ix (se_var 2) se_int (fun _ _ => rfl)) sa_nil)))))))))
abbrev s__law_pairs : Stmt := topS 59
theorem sc__law_pairs : FnScope ["_law_many", "_law_found", "_law_one", "_law_other"] ["_law_many"] (defScope s__law_pairs) := ⟨rfl, rfl, rfl, by decide +kernel, rfl, by decide +kernel, by decide +kernel⟩
def b__law_pairs : FS :=
  (sSeq (sAsg (fLstM fNil) (gN 1))
    (sSeq (sFor (iRange1 (fCons (fVar 0) fNil)) (gN 2) (sFor (iRange2 (fCons (fBin gAddX (fVar 2) (fC (.int 1))) (fCons (fVar 0) fNil))) (gN 3) (sExpr (fAppend (fVar 1) (fTup (fCons (fVar 2) (fCons (fVar 3) fNil)))))))
    (sRet (fVar 1))))
def d__law_pairs : FD := runD 4 (b__law_pairs)
theorem ok__law_pairs {k : Nat} (T : Txt w K mg) : Callee P w K mg base ct (k + 1) "_law_pairs" 1 (d__law_pairs) :=
  callee_of T.d__law_pairs sc__law_pairs fun f cdv A outer s H E hr =>
    (sss_cons (ss_set (i := 1) sc__law_pairs.nd rfl (Or.inl rfl) (se_lstM sa_nil))
      (sss_cons (ss_for PassesOwn.never rfl (si_range1 (by rfl) T.n_range (sa_cons (se_var 0) sa_nil)) (sg_name (i := 2) sc__law_pairs.nd rfl (Or.inl rfl)) (sss_one (ss_for PassesOwn.never rfl (si_range2 (by rfl) T.n_range (sa_cons (se_op op_addX od_addX (se_var 2) se_int) (sa_cons (se_var 0) sa_nil))) (sg_name (i := 3) sc__law_pairs.nd rfl (Or.inl rfl)) (sss_one (ss_expr (se_append (se_var 1) (se_tup (sa_cons (se_var 2) (sa_cons (se_var 3) sa_nil)))))))))
      (sss_one (ss_ret (se_var 1)))))
abbrev s__law_flipped : Stmt := topS 60
theorem sc__law_flipped : FnScope ["_law_ties", "_law_tie_here", "_law_held"] ["_law_ties", "_law_tie_here"] (defScope s__law_flipped) := ⟨rfl, rfl, rfl, by decide +kernel, rfl, by decide +kernel, by decide +kernel⟩
def b__law_flipped : FS :=
  (sRet (fCall cSorted (fCons (fBin gAddX (fLc (iRef (fVar 0)) (gN 2) (fTest (fBin gNe (fVar 2) (fVar 1))) (fVar 2) [2]) (fIf (fTest (fBin (gInX false) (fVar 1) (fVar 0))) (fLst fNil) (fLst (fCons (fVar 1) fNil)))) fNil)))
def d__law_flipped : FD := runD 3 (b__law_flipped)
theorem ok__law_flipped {k : Nat} (T : Txt w K mg) : Callee P w K mg base ct (k + 1) "_law_flipped" 2 (d__law_flipped) :=
  callee_of T.d__law_flipped sc__law_flipped fun f cdv A outer s H E hr =>
    (sss_one (ss_ret (se_callB (cr_sortX hr) cd_sorted (by rfl) T.n_sorted (by decide +kernel) (sa_cons (se_op op_addX od_addX (se_lcR (own := [("_law_held", 2)]) rfl sc__law_flipped.nd (kp_N 2) (kp_test (kp_bin (kp_var 2) (kp_var 1) kp_ne)) (kp_var 2) (se_var 0) (blkOk_by (own := [("_law_held", 2)]) (N := ["_law_ties", "_law_tie_here", "_law_held"]) (sc := defScope s__law_flipped) (by decide +kernel)) (fun _ _ _ _ _ => (sgw_name (i := 2) sc__law_flipped.nd rfl (Or.inl rfl) (by decide))) (fun _ _ _ _ _ => (sts_one (st_cmp (op_neAll hr) od_ne (se_var 2) (se_var 1) (nomark _)))) (fun _ _ _ _ _ => (se_var 2))) (se_if (st_cmp (op_inX hr) od_inX (se_var 1) (se_var 0) (by rfl)) (se_lst sa_nil) (se_lst (sa_cons (se_var 1) sa_nil)))) sa_nil))))
abbrev s__law_tie : Stmt := topS 63
theorem sc__law_tie : FnScope ["_law_one", "_law_other"] ["_law_one", "_law_other"] (defScope s__law_tie) := ⟨rfl, rfl, rfl, by decide +kernel, rfl, by decide +kernel, by decide +kernel⟩
def b__law_tie : FS :=
  (sRet (fTup (fCons (fCall cMin2 (fCons (fVar 0) (fCons (fVar 1) fNil))) (fCons (fCall cMax2 (fCons (fVar 0) (fCons (fVar 1) fNil))) fNil))))
def d__law_tie : FD := runD 2 (b__law_tie)
theorem ok__law_tie {k : Nat} (T : Txt w K mg) : Callee P w K mg base ct (k + 1) "_law_tie" 2 (d__law_tie) :=
  callee_of T.d__law_tie sc__law_tie fun f cdv A outer s H E hr =>
    (sss_one (ss_ret (se_tup (sa_cons (se_callB (call_min2 rfl) cd_min2 (by rfl) T.n_min (by decide +kernel) (sa_cons (se_var 0) (sa_cons (se_var 1) sa_nil))) (sa_cons (se_callB (call_max2 rfl) cd_max2 (by rfl) T.n_max (by decide +kernel) (sa_cons (se_var 0) (sa_cons (se_var 1) sa_nil))) sa_nil)))))
abbrev s__law_some_ties : Stmt := topS 61
theorem sc__law_some_ties : FnScope ["_law_stock_here", "_law_many", "_law_form", "_law_parts", "_law_found", "_law_pairs_here", "_law_one", "_law_other", "_law_held", "_law_turn"] ["_law_stock_here", "_law_many"] (defScope s__law_some_ties) := ⟨rfl, rfl, rfl, by decide +kernel, rfl, by decide +kernel, by decide +kernel⟩
def b__law_some_ties (c__law_take : FD) (c__law_flipped : FD) (c__law_pairs : FD) : FS :=
  (sSeq (sPar3 2 3 4 (fCons (fCall c__law_take (fCons (fVar 0) (fCons (fC (.int 9)) fNil))) (fCons (fBin gAddX (fC (.int 1)) (fCall c__law_take (fCons (fVar 0) (fCons (fC (.int 4)) fNil)))) (fCons (fLstM fNil) fNil))))
    (sSeq (sAsg (fCall c__law_pairs (fCons (fVar 1) fNil)) (gN 5))
    (sSeq (sFor (iLst (fVar 5)) (gTup 2 (gCons (gN 6) (gCons (gN 7) gNil))) (sSeq (sAsg (fAnd (fBin gLtX (fVar 2) (fC (.int 4))) (fBin gLeX (fCall c__law_take (fCons (fVar 0) (fCons (fC (.int 4)) fNil))) (fVar 2))) (gN 8))
    (sSeq (sIf (fTest (fBin gEq (fVar 2) (fC (.int 4)))) (sAsg (fBin gNe (fBin gMod (fCall cInt (fCons (fVar 6) fNil)) (fVar 3)) (fBin gMod (fCall cInt (fCons (fVar 7) fNil)) (fVar 3))) (gN 8)) sSkip)
    (sSeq (sIf (fTest (fBin gEq (fVar 2) (fC (.int 5)))) (sAsg (fBin gEq (fBin gFdiv (fVar 6) (fVar 3)) (fBin gFdiv (fVar 7) (fVar 3))) (gN 8)) sSkip)
    (sSeq (sIf (fTest (fBin gEq (fVar 2) (fC (.int 6)))) (sAsg (fOr (fBin gEq (fVar 6) (fC (.int 0))) (fBin gEq (fBin gFdiv (fBin gSubI (fVar 6) (fC (.int 1))) (fVar 3)) (fBin gFdiv (fBin gSubI (fVar 7) (fC (.int 1))) (fVar 3)))) (gN 8)) sSkip)
    (sSeq (sIf (fTest (fBin gEq (fVar 2) (fC (.int 7)))) (sAsg (fBin gLtX (fVar 6) (fBin gSubI (fVar 3) (fC (.int 1)))) (gN 8)) sSkip)
    (sSeq (sIf (fTest (fBin gEq (fVar 2) (fC (.int 8)))) (sAsg (fBin gLeX (fBin gMod (fCall cInt (fCons (fBin gAddX (fBin gSubI (fVar 7) (fVar 6)) (fVar 3)) fNil)) (fVar 1)) (fBin gMul (fC (.int 2)) (fVar 3))) (gN 8)) sSkip)
    (sIf (fTest (fVar 8)) (sExpr (fAppend (fVar 4) (fTup (fCons (fVar 6) (fCons (fVar 7) fNil))))) sSkip))))))))
    (sSeq (sFor (iRange1 (fCons (fCall c__law_take (fCons (fVar 0) (fCons (fC (.int 3)) fNil))) fNil)) (gN 9) (sIf (fTest (fBin gNe (fVar 5) (fLst fNil))) (sAsg (fCall c__law_flipped (fCons (fVar 4) (fCons (fBin gIx (fVar 5) (fCall c__law_take (fCons (fVar 0) (fCons (fCall cLen (fCons (fVar 5) fNil)) fNil)))) fNil))) (gN 4)) sSkip))
    (sRet (fVar 4))))))
def d__law_some_ties (c__law_take : FD) (c__law_flipped : FD) (c__law_pairs : FD) : FD := runD 10 (b__law_some_ties c__law_take c__law_flipped c__law_pairs)
theorem ok__law_some_ties {c__law_take : FD} {c__law_flipped : FD} {c__law_pairs : FD} {k : Nat} (T : Txt w K mg) (C__law_take : Callee P w K mg base ct k "_law_take" 2 c__law_take) (C__law_flipped : Callee P w K mg base ct k "_law_flipped" 2 c__law_flipped) (C__law_pairs : Callee P w K mg base ct k "_law_pairs" 1 c__law_pairs) : Callee P w K mg base ct (k + 1) "_law_some_ties" 2 (d__law_some_ties c__law_take c__law_flipped c__law_pairs) :=
  callee_of T.d__law_some_ties sc__law_some_ties fun f cdv A outer s H E hr =>
    (sss_cons (ss_par3 (i := 2) (j := 3) (l := 4) (fun ta h => ps_par3 rfl sc__law_some_ties.nd rfl rfl rfl (by decide) (by decide) (by decide) rfl rfl rfl h (by rfl)) (sa_cons (se_fn C__law_take hr (by rfl) (sa_cons (se_var 0) (sa_cons se_int sa_nil)) (fCons_len (fCons_len (fun _ _ _ _ h => fNil_len h)))) (sa_cons (se_op op_addX od_addX se_int (se_fn C__law_take hr (by rfl) (sa_cons (se_var 0) (sa_cons se_int sa_nil)) (fCons_len (fCons_len (fun _ _ _ _ h => fNil_len h))))) (sa_cons (se_lstM sa_nil) sa_nil))))
      (sss_cons (ss_set (i := 5) sc__law_some_ties.nd rfl (Or.inl rfl) (se_fn C__law_pairs hr (by rfl) (sa_cons (se_var 1) sa_nil) (fCons_len (fun _ _ _ _ h => fNil_len h))))
      (sss_cons (ss_for PassesOwn.never rfl (si_list (se_var 5)) (sg_tup rfl (sgs_cons (sg_name (i := 6) sc__law_some_ties.nd rfl (Or.inl rfl)) (sgs_cons (sg_name (i := 7) sc__law_some_ties.nd rfl (Or.inl rfl)) sgs_nil))) (sss_cons (ss_set (i := 8) sc__law_some_ties.nd rfl (Or.inl rfl) (se_and (se_cmp (op_ltX hr) od_ltX (se_var 2) se_int (nomark _)) (se_one (se_cmp (op_leX hr) od_leX (se_fn C__law_take hr (by rfl) (sa_cons (se_var 0) (sa_cons se_int sa_nil)) (fCons_len (fCons_len (fun _ _ _ _ h => fNil_len h)))) (se_var 2) (nomark _)))))
      (sss_cons (ss_if (st_cmp (op_eqAll hr) od_eq (se_var 2) se_int (nomark _)) (sss_one (ss_set (i := 8) sc__law_some_ties.nd rfl (Or.inl rfl) (se_cmp (op_neAll hr) od_ne (se_op op_mod od_mod (se_callTy call_intAll cd_int (by rfl) T.n_int (by decide +kernel) (sa_cons (se_var 6) sa_nil)) (se_var 3)) (se_op op_mod od_mod (se_callTy call_intAll cd_int (by rfl) T.n_int (by decide +kernel) (sa_cons (se_var 7) sa_nil)) (se_var 3)) (nomark _)))) sss_nil)
      (sss_cons (ss_if (st_cmp (op_eqAll hr) od_eq (se_var 2) se_int (nomark _)) (sss_one (ss_set (i := 8) sc__law_some_ties.nd rfl (Or.inl rfl) (se_cmp (op_eqAll hr) od_eq (se_op op_fdivW od_fdiv (se_var 6) (se_var 3)) (se_op op_fdivW od_fdiv (se_var 7) (se_var 3)) (nomark _)))) sss_nil)
      (sss_cons (ss_if (st_cmp (op_eqAll hr) od_eq (se_var 2) se_int (nomark _)) (sss_one (ss_set (i := 8) sc__law_some_ties.nd rfl (Or.inl rfl) (se_or (se_cmp (op_eqAll hr) od_eq (se_var 6) se_int (nomark _)) (se_one (se_cmp (op_eqAll hr) od_eq (se_op op_fdivW od_fdiv (se_op op_sub od_sub (se_var 6) se_int) (se_var 3)) (se_op op_fdivW od_fdiv (se_op op_sub od_sub (se_var 7) se_int) (se_var 3)) (nomark _)))))) sss_nil)
      (sss_cons (ss_if (st_cmp (op_eqAll hr) od_eq (se_var 2) se_int (nomark _)) (sss_one (ss_set (i := 8) sc__law_some_ties.nd rfl (Or.inl rfl) (se_cmp (op_ltX hr) od_ltX (se_var 6) (se_op op_sub od_sub (se_var 3) se_int) (nomark _)))) sss_nil)
      (sss_cons (ss_if (st_cmp (op_eqAll hr) od_eq (se_var 2) se_int (nomark _)) (sss_one (ss_set (i := 8) sc__law_some_ties.nd rfl (Or.inl rfl) (se_cmp (op_leX hr) od_leX (se_op op_mod od_mod (se_callTy call_intAll cd_int (by rfl) T.n_int (by decide +kernel) (sa_cons (se_op op_addX od_addX (se_op op_sub od_sub (se_var 7) (se_var 6)) (se_var 3)) sa_nil)) (se_var 1)) (se_op op_mulW od_mul se_int (se_var 3)) (nomark _)))) sss_nil)
      (sss_one (ss_if (st_val (se_var 8)) (sss_one (ss_expr (se_append (se_var 4) (se_tup (sa_cons (se_var 6) (sa_cons (se_var 7) sa_nil)))))) sss_nil)))))))))
      (sss_cons (ss_for PassesOwn.never rfl (si_range1 (by rfl) T.n_range (sa_cons (se_fn C__law_take hr (by rfl) (sa_cons (se_var 0) (sa_cons se_int sa_nil)) (fCons_len (fCons_len (fun _ _ _ _ h => fNil_len h)))) sa_nil)) (sg_name (i := 9) sc__law_some_ties.nd rfl (Or.inl rfl)) (sss_one (ss_if (st_cmp (op_neAll hr) od_ne (se_var 5) (se_lst sa_nil) (nomark _)) (sss_one (ss_set (i := 4) sc__law_some_ties.nd rfl (Or.inl rfl) (se_fn C__law_flipped hr (by rfl) (sa_cons (se_var 4) (sa_cons (se_ix ix_seq od_ix (se_var 5) (se_fn C__law_take hr (by rfl) (sa_cons (se_var 0) (sa_cons (se_callB call_lenAll cd_len (by rfl) T.n_len (by decide +kernel) (sa_cons (se_var 5) sa_nil)) sa_nil)) (fCons_len (fCons_len (fun _ _ _ _ h => fNil_len h)))) (fun _ _ => rfl)) sa_nil)) (fCons_len (fCons_len (fun _ _ _ _ h => fNil_len h)))))) sss_nil)))
      (sss_one (ss_ret (se_var 4)))))))
abbrev s__law_some_order : Stmt := topS 62
theorem sc__law_some_order : FnScope ["_law_stock_here", "_law_many", "_law_left", "_law_found", "_law_turn"] ["_law_stock_here", "_law_many"] (defScope s__law_some_order) := ⟨rfl, rfl, rfl, by decide +kernel, rfl, by decide +kernel, by decide +kernel⟩
def b__law_some_order (c__law_take : FD) : FS :=
  (sSeq (sPar 2 3 (fCons (fListRM (fVar 1)) (fCons (fLstM fNil) fNil)))
    (sSeq (sFor (iRange1 (fCons (fVar 1) fNil)) (gN 4) (sExpr (fAppend (fVar 3) (fPopAt (fVar 2) (fCall c__law_take (fCons (fVar 0) (fCons (fCall cLen (fCons (fVar 2) fNil)) fNil)))))))
    (sRet (fVar 3))))
def d__law_some_order (c__law_take : FD) : FD := runD 5 (b__law_some_order c__law_take)
theorem ok__law_some_order {c__law_take : FD} {k : Nat} (T : Txt w K mg) (C__law_take : Callee P w K mg base ct k "_law_take" 2 c__law_take) : Callee P w K mg base ct (k + 1) "_law_some_order" 2 (d__law_some_order c__law_take) :=
  callee_of T.d__law_some_order sc__law_some_order fun f cdv A outer s H E hr =>
    (sss_cons (ss_par (i := 2) (j := 3) (fun ta h => ps_par rfl sc__law_some_order.nd rfl rfl (by decide) rfl rfl h (by rfl)) (sa_cons (se_listRM rfl (by rfl) T.n_list (by rfl) T.n_range (se_var 1)) (sa_cons (se_lstM sa_nil) sa_nil)))
      (sss_cons (ss_for PassesOwn.never rfl (si_range1 (by rfl) T.n_range (sa_cons (se_var 1) sa_nil)) (sg_name (i := 4) sc__law_some_order.nd rfl (Or.inl rfl)) (sss_one (ss_expr (se_append (se_var 3) (se_popAt (se_var 2) (se_fn C__law_take hr (by rfl) (sa_cons (se_var 0) (sa_cons (se_callB call_lenAll cd_len (by rfl) T.n_len (by decide +kernel) (sa_cons (se_var 2) sa_nil)) sa_nil)) (fCons_len (fCons_len (fun _ _ _ _ h => fNil_len h)))))))))
      (sss_one (ss_ret (se_var 3)))))
abbrev s__law_people : Stmt := topS 64
theorem sc__law_people : FnScope ["_law_paper", "_law_many", "_law_k"] ["_law_paper", "_law_many"] (defScope s__law_people) := ⟨rfl, rfl, rfl, by decide +kernel, rfl, by decide +kernel, by decide +kernel⟩
def b__law_people (c__law_is : FD) : FS :=
  (sSeq (sIf (tNotD (fTest (fIsi "tuple" (fVar 0)))) (sRet (fC (.bl false))) sSkip)
    (sSeq (sFor (iRange1 (fCons (fCall cLen (fCons (fVar 0) fNil)) fNil)) (gN 2) (sIf (tOrD (tNotD (fTest (fCall c__law_is (fCons (fBin gIx (fVar 0) (fVar 2)) (fCons (fC (.int 0)) (fCons (fBin gSubI (fVar 1) (fC (.int 1))) fNil)))))) (fTest (fBin (gInX false) (fBin gIx (fVar 0) (fVar 2)) (fSlX (fVar 0) oNone (oSome (fVar 2)))))) (sRet (fC (.bl false))) sSkip))
    (sRet (fC (.bl true)))))
def d__law_people (c__law_is : FD) : FD := runD 3 (b__law_people c__law_is)
theorem ok__law_people {c__law_is : FD} {k : Nat} (T : Txt w K mg) (C__law_is : Callee P w K mg base ct k "_law_is" 3 c__law_is) : Callee P w K mg base ct (k + 1) "_law_people" 2 (d__law_people c__law_is) :=
  callee_of T.d__law_people sc__law_people fun f cdv A outer s H E hr =>
    (sss_cons (ss_if (st_not (st_val (se_isi (by rfl) T.n_isinstance (se_var 0) (by rfl) T.n_tuple (by decide +kernel)))) (sss_one (ss_ret se_bl)) sss_nil)
      (sss_cons (ss_for PassesOwn.never rfl (si_range1 (by rfl) T.n_range (sa_cons (se_callB call_lenAll cd_len (by rfl) T.n_len (by decide +kernel) (sa_cons (se_var 0) sa_nil)) sa_nil)) (sg_name (i := 2) sc__law_people.nd rfl (Or.inl rfl)) (sss_one (ss_if (SW.st (sw_or (st_not (st_val (se_fn C__law_is hr (by rfl) (sa_cons (se_ix ix_seq od_ix (se_var 0) (se_var 2) (fun _ _ => rfl)) (sa_cons se_int (sa_cons (se_op op_sub od_sub (se_var 1) se_int) sa_nil))) (fCons_len (fCons_len (fCons_len (fun _ _ _ _ h => fNil_len h))))))) (sw_or1 (st_cmp (op_inX hr) od_inX (se_ix ix_seq od_ix (se_var 0) (se_var 2) (fun _ _ => rfl)) (se_sliceX (se_var 0) so_none (so_some (se_var 2))) (by rfl))))) (sss_one (ss_ret se_bl)) sss_nil)))
      (sss_one (ss_ret se_bl))))
abbrev s__law_near_rows : Stmt := topS 65
theorem sc__law_near_rows : FnScope ["_law_stock_here", "_law_many", "_law_paper", "_law_spare", "_law_found", "_law_at", "_law_late", "_law_part", "_law_changed", "_law_odd", "_law_value"] ["_law_stock_here", "_law_many", "_law_paper"] (defScope s__law_near_rows) := ⟨rfl, rfl, rfl, by decide +kernel, rfl, by decide +kernel, by decide +kernel⟩
def b__law_near_rows (c__law_is : FD) (c__law_take : FD) : FS :=
  (sSeq (sAsg (fCall c__law_take (fCons (fVar 0) (fCons (fBin gAddX (fVar 1) (fC (.int 1))) fNil))) (gN 3))
    (sSeq (sAsg (fLst (fCons (fCall cListX (fCons (fVar 2) fNil)) (fCons (fC .non) (fCons (fTup fNil) (fCons (fRevT (fVar 2)) (fCons (fSlX (fVar 2) (oSome (fC (.int 1))) oNone) (fCons (fSlX (fVar 2) oNone (oSome (fUn gNeg (fC (.int 1))))) (fCons (fBin gAddX (fVar 2) (fSlX (fVar 2) oNone (oSome (fC (.int 1))))) (fCons (fTup (fCons (fVar 2) fNil)) (fCons (fCall cStrX (fCons (fVar 2) fNil)) (fCons (fC (.int 0)) (fCons (fC (.dct [] [])) fNil)))))))))))) (gN 4))
    (sSeq (sAsg (fBin gAddM (fVar 4) (fLst (fCons (fC (.bl true)) (fCons (fBin gAddX (fVar 2) (fTup (fCons (fVar 3) fNil))) (fCons (fBin gAddX (fTup (fCons (fVar 3) fNil)) (fVar 2)) (fCons (fCall cTupleX (fCons (fCall cSorted (fCons (fVar 2) fNil)) fNil)) (fCons (fBin gAddX (fSlX (fVar 2) (oSome (fC (.int 1))) oNone) (fSlX (fVar 2) oNone (oSome (fC (.int 1))))) (fCons (fVar 2) fNil)))))))) (gN 4))
    (sSeq (sIf (fTest (fBin gNe (fVar 2) (fTup fNil))) (sSeq (sPar 5 6 (fCons (fCall c__law_take (fCons (fVar 0) (fCons (fCall cLen (fCons (fVar 2) fNil)) fNil))) (fCons (fCall c__law_take (fCons (fVar 0) (fCons (fCall cLen (fCons (fVar 2) fNil)) fNil))) fNil)))
    (sSeq (sPar 7 8 (fCons (fBin gIx (fVar 2) (fVar 5)) (fCons (fCall cListM (fCons (fVar 2) fNil)) fNil)))
    (sSeq (sAsg (fTup (fCons (fBin gIx (fVar 2) (fVar 6)) (fCons (fBin gIx (fVar 2) (fVar 5)) fNil))) (gTup 2 (gCons (gSub gSetA (fVar 8) (fVar 5)) (gCons (gSub gSetA (fVar 8) (fVar 6)) gNil))))
    (sSeq (sAsg (fLst (fCons (fUn gNeg (fC (.int 1))) (fCons (fBin gSubI (fVar 7) (fVar 1)) (fCons (fBin gAddX (fVar 7) (fVar 1)) (fCons (fC (.bl true)) (fCons (fC (.bl false)) (fCons (fC .non) (fCons (fCall cStrX (fCons (fVar 7) fNil)) (fCons (fTup (fCons (fVar 7) fNil)) (fCons (fLst (fCons (fVar 7) fNil)) (fCons (fC (.dct [] [])) (fCons (fBin gPow (fC (.int 10)) (fC (.int 40))) fNil)))))))))))) (gN 9))
    (sSeq (sFor (iLst (fBin gAddX (fListR1 (fBin gAddX (fVar 1) (fC (.int 1)))) (fVar 9))) (gN 10) (sSeq (sExpr (fAppend (fVar 4) (fBin gAddX (fBin gAddX (fSlX (fVar 2) oNone (oSome (fVar 5))) (fTup (fCons (fVar 10) fNil))) (fSlX (fVar 2) (oSome (fBin gAddX (fVar 5) (fC (.int 1)))) oNone))))
    (sIf (fTest (fCall c__law_is (fCons (fVar 10) (fCons (fC (.int 0)) (fCons (fVar 1) fNil))))) (sExpr (fAppend (fVar 4) (fCall cTupleX (fCons (fCall cSorted (fCons (fBin gAddX (fBin gAddX (fSlX (fVar 2) oNone (oSome (fVar 5))) (fTup (fCons (fVar 10) fNil))) (fSlX (fVar 2) (oSome (fBin gAddX (fVar 5) (fC (.int 1)))) oNone)) fNil)) fNil)))) sSkip)))
    (sAsg (fBin gAddX (fVar 4) (fLst (fCons (fCall cTupleX (fCons (fVar 8) fNil)) (fCons (fBin gAddX (fSlX (fVar 2) oNone (oSome (fVar 5))) (fSlX (fVar 2) (oSome (fBin gAddX (fVar 5) (fC (.int 1)))) oNone)) (fCons (fBin gAddX (fBin gAddX (fSlX (fVar 2) oNone (oSome (fVar 5))) (fTup (fCons (fVar 7) fNil))) (fSlX (fVar 2) (oSome (fVar 5)) oNone)) fNil))))) (gN 4))))))) sSkip)
    (sRet (fVar 4))))))
def d__law_near_rows (c__law_is : FD) (c__law_take : FD) : FD := runD 11 (b__law_near_rows c__law_is c__law_take)
theorem ok__law_near_rows {c__law_is : FD} {c__law_take : FD} {k : Nat} (T : Txt w K mg) (C__law_is : Callee P w K mg base ct k "_law_is" 3 c__law_is) (C__law_take : Callee P w K mg base ct k "_law_take" 2 c__law_take) : Callee P w K mg base ct (k + 1) "_law_near_rows" 3 (d__law_near_rows c__law_is c__law_take) :=
  callee_of T.d__law_near_rows sc__law_near_rows fun f cdv A outer s H E hr =>
    (sss_cons (ss_set (i := 3) sc__law_near_rows.nd rfl (Or.inl rfl) (se_fn C__law_take hr (by rfl) (sa_cons (se_var 0) (sa_cons (se_op op_addX od_addX (se_var 1) se_int) sa_nil)) (fCons_len (fCons_len (fun _ _ _ _ h => fNil_len h)))))
      (sss_cons (ss_set (i := 4) sc__law_near_rows.nd rfl (Or.inl rfl) (se_lst (sa_cons (se_callTy call_list_of cd_listX (by rfl) T.n_list (by decide +kernel) (sa_cons (se_var 2) sa_nil)) (sa_cons se_non (sa_cons (se_tup sa_nil) (sa_cons (se_revT (se_var 2)) (sa_cons (se_sliceX (se_var 2) (so_some se_int) so_none) (sa_cons (se_sliceX (se_var 2) so_none (so_some (se_neg se_int))) (sa_cons (se_op op_addX od_addX (se_var 2) (se_sliceX (se_var 2) so_none (so_some se_int))) (sa_cons (se_tup (sa_cons (se_var 2) sa_nil)) (sa_cons (se_callTy (call_strX hr) cd_strX (by rfl) T.n_str (by decide +kernel) (sa_cons (se_var 2) sa_nil)) (sa_cons se_int (sa_cons se_dnewF sa_nil)))))))))))))
      (sss_cons (ss_set (i := 4) sc__law_near_rows.nd rfl (Or.inl rfl) (se_op op_addX od_addM (se_var 4) (se_lst (sa_cons se_bl (sa_cons (se_op op_addX od_addX (se_var 2) (se_tup (sa_cons (se_var 3) sa_nil))) (sa_cons (se_op op_addX od_addX (se_tup (sa_cons (se_var 3) sa_nil)) (se_var 2)) (sa_cons (se_callTy call_tuple_of cd_tupleX (by rfl) T.n_tuple (by decide +kernel) (sa_cons (se_callB (cr_sortX hr) cd_sorted (by rfl) T.n_sorted (by decide +kernel) (sa_cons (se_var 2) sa_nil)) sa_nil)) (sa_cons (se_op op_addX od_addX (se_sliceX (se_var 2) (so_some se_int) so_none) (se_sliceX (se_var 2) so_none (so_some se_int))) (sa_cons (se_var 2) sa_nil)))))))))
      (sss_cons (ss_if (st_cmp (op_neAll hr) od_ne (se_var 2) (se_tup sa_nil) (nomark _)) (sss_cons (ss_par (i := 5) (j := 6) (fun ta h => ps_par rfl sc__law_near_rows.nd rfl rfl (by decide) rfl rfl h (by rfl)) (sa_cons (se_fn C__law_take hr (by rfl) (sa_cons (se_var 0) (sa_cons (se_callB call_lenAll cd_len (by rfl) T.n_len (by decide +kernel) (sa_cons (se_var 2) sa_nil)) sa_nil)) (fCons_len (fCons_len (fun _ _ _ _ h => fNil_len h)))) (sa_cons (se_fn C__law_take hr (by rfl) (sa_cons (se_var 0) (sa_cons (se_callB call_lenAll cd_len (by rfl) T.n_len (by decide +kernel) (sa_cons (se_var 2) sa_nil)) sa_nil)) (fCons_len (fCons_len (fun _ _ _ _ h => fNil_len h)))) sa_nil)))
      (sss_cons (ss_par (i := 7) (j := 8) (fun ta h => ps_par rfl sc__law_near_rows.nd rfl rfl (by decide) rfl rfl h (by rfl)) (sa_cons (se_ix ix_seq od_ix (se_var 2) (se_var 5) (fun _ _ => rfl)) (sa_cons (se_callTy call_list_of cd_listM (by rfl) T.n_list (by decide +kernel) (sa_cons (se_var 2) sa_nil)) sa_nil)))
      (sss_cons (ss_asg (se_tup (sa_cons (se_ix ix_seq od_ix (se_var 2) (se_var 6) (fun _ _ => rfl)) (sa_cons (se_ix ix_seq od_ix (se_var 2) (se_var 5) (fun _ _ => rfl)) sa_nil))) (sg_tup rfl (sgs_cons (sg_sub (se_var 8) (se_var 5) (set_all hr) sd_all) (sgs_cons (sg_sub (se_var 8) (se_var 6) (set_all hr) sd_all) sgs_nil))))
      (sss_cons (ss_set (i := 9) sc__law_near_rows.nd rfl (Or.inl rfl) (se_lst (sa_cons (se_neg se_int) (sa_cons (se_op op_sub od_sub (se_var 7) (se_var 1)) (sa_cons (se_op op_addX od_addX (se_var 7) (se_var 1)) (sa_cons se_bl (sa_cons se_bl (sa_cons se_non (sa_cons (se_callTy (call_strX hr) cd_strX (by rfl) T.n_str (by decide +kernel) (sa_cons (se_var 7) sa_nil)) (sa_cons (se_tup (sa_cons (se_var 7) sa_nil)) (sa_cons (se_lst (sa_cons (se_var 7) sa_nil)) (sa_cons se_dnewF (sa_cons (se_op op_pow od_pow se_int se_int) sa_nil)))))))))))))
      (sss_cons (ss_for PassesOwn.never rfl (si_list (se_op op_addX od_addX (se_listR1 rfl (by rfl) T.n_list (by rfl) T.n_range (se_op op_addX od_addX (se_var 1) se_int)) (se_var 9))) (sg_name (i := 10) sc__law_near_rows.nd rfl (Or.inl rfl)) (sss_cons (ss_expr (se_append (se_var 4) (se_op op_addX od_addX (se_op op_addX od_addX (se_sliceX (se_var 2) so_none (so_some (se_var 5))) (se_tup (sa_cons (se_var 10) sa_nil))) (se_sliceX (se_var 2) (so_some (se_op op_addX od_addX (se_var 5) se_int)) so_none))))
      (sss_one (ss_if (st_val (se_fn C__law_is hr (by rfl) (sa_cons (se_var 10) (sa_cons se_int (sa_cons (se_var 1) sa_nil))) (fCons_len (fCons_len (fCons_len (fun _ _ _ _ h => fNil_len h)))))) (sss_one (ss_expr (se_append (se_var 4) (se_callTy call_tuple_of cd_tupleX (by rfl) T.n_tuple (by decide +kernel) (sa_cons (se_callB (cr_sortX hr) cd_sorted (by rfl) T.n_sorted (by decide +kernel) (sa_cons (se_op op_addX od_addX (se_op op_addX od_addX (se_sliceX (se_var 2) so_none (so_some (se_var 5))) (se_tup (sa_cons (se_var 10) sa_nil))) (se_sliceX (se_var 2) (so_some (se_op op_addX od_addX (se_var 5) se_int)) so_none)) sa_nil)) sa_nil))))) sss_nil))))
      (sss_one (ss_set (i := 4) sc__law_near_rows.nd rfl (Or.inl rfl) (se_op op_addX od_addX (se_var 4) (se_lst (sa_cons (se_callTy call_tuple_of cd_tupleX (by rfl) T.n_tuple (by decide +kernel) (sa_cons (se_var 8) sa_nil)) (sa_cons (se_op op_addX od_addX (se_sliceX (se_var 2) so_none (so_some (se_var 5))) (se_sliceX (se_var 2) (so_some (se_op op_addX od_addX (se_var 5) se_int)) so_none)) (sa_cons (se_op op_addX od_addX (se_op op_addX od_addX (se_sliceX (se_var 2) so_none (so_some (se_var 5))) (se_tup (sa_cons (se_var 7) sa_nil))) (se_sliceX (se_var 2) (so_some (se_var 5)) so_none)) sa_nil)))))))))))) sss_nil)
      (sss_one (ss_ret (se_var 4)))))))
abbrev s__law_renamed : Stmt := topS 66
theorem sc__law_renamed : FnScope ["_law_ties", "_law_row", "_law_one", "_law_other"] ["_law_ties", "_law_row"] (defScope s__law_renamed) := ⟨rfl, rfl, rfl, by decide +kernel, rfl, by decide +kernel, by decide +kernel⟩
def b__law_renamed (c__law_tie : FD) : FS :=
  (sRet (fCall cSorted (fCons (fLc (iLst (fVar 0)) (gTup 2 (gCons (gN 2) (gCons (gN 3) gNil))) tYesD (fCall c__law_tie (fCons (fBin gIx (fVar 1) (fVar 2)) (fCons (fBin gIx (fVar 1) (fVar 3)) fNil))) [2, 3]) fNil)))
def d__law_renamed (c__law_tie : FD) : FD := runD 4 (b__law_renamed c__law_tie)
theorem ok__law_renamed {c__law_tie : FD} {k : Nat} (T : Txt w K mg) (C__law_tie : Callee P w K mg base ct k "_law_tie" 2 c__law_tie) : Callee P w K mg base ct (k + 1) "_law_renamed" 2 (d__law_renamed c__law_tie) :=
  callee_of T.d__law_renamed sc__law_renamed fun f cdv A outer s H E hr =>
    (sss_one (ss_ret (se_callB (cr_sortX hr) cd_sorted (by rfl) T.n_sorted (by decide +kernel) (sa_cons (se_lc (own := [("_law_one", 2), ("_law_other", 3)]) rfl sc__law_renamed.nd (si_list (se_var 0)) (blkOk_by (own := [("_law_one", 2), ("_law_other", 3)]) (N := ["_law_ties", "_law_row", "_law_one", "_law_other"]) (sc := defScope s__law_renamed) (by decide +kernel)) (fun _ _ _ _ _ => (sgw_tup rfl (sgws_cons (sgw_name (i := 2) sc__law_renamed.nd rfl (Or.inl rfl) (by decide)) (sgws_cons (sgw_name (i := 3) sc__law_renamed.nd rfl (Or.inl rfl) (by decide)) sgws_nil)))) (fun _ _ _ _ _ => sts_nil) (fun _ _ _ _ _ => (se_fn C__law_tie hr (by rfl) (sa_cons (se_ix ix_seq od_ix (se_var 1) (se_var 2) (fun _ _ => rfl)) (sa_cons (se_ix ix_seq od_ix (se_var 1) (se_var 3) (fun _ _ => rfl)) sa_nil)) (fCons_len (fCons_len (fun _ _ _ _ h => fNil_len h)))))) sa_nil))))
abbrev s__law_due : Stmt := topS 67
theorem sc__law_due : FnScope ["_law_many", "_law_ties", "_law_others", "_law_paper", "_law_one", "_law_other"] ["_law_many", "_law_ties", "_law_others", "_law_paper"] (defScope s__law_due) := ⟨rfl, rfl, rfl, by decide +kernel, rfl, by decide +kernel, by decide +kernel⟩
def b__law_due (c__law_pairs : FD) (c__law_tie : FD) (c__law_people : FD) : FS :=
  (sSeq (sIf (tOrD (tNotD (fTest (fCall c__law_people (fCons (fVar 3) (fCons (fVar 0) fNil))))) (fTest (fBin gNe (fCall cLen (fCons (fVar 3) fNil)) (fVar 0)))) (sRet (fC (.bl false))) sSkip)
    (sSeq (sFor (iLst (fCall c__law_pairs (fCons (fVar 0) fNil))) (gTup 2 (gCons (gN 4) (gCons (gN 5) gNil))) (sIf (fTest (fBin gNe (fBin (gInX false) (fTup (fCons (fVar 4) (fCons (fVar 5) fNil))) (fVar 1)) (fBin (gInX false) (fCall c__law_tie (fCons (fBin gIx (fVar 3) (fVar 4)) (fCons (fBin gIx (fVar 3) (fVar 5)) fNil))) (fVar 2)))) (sRet (fC (.bl false))) sSkip))
    (sRet (fC (.bl true)))))
def d__law_due (c__law_pairs : FD) (c__law_tie : FD) (c__law_people : FD) : FD := runD 6 (b__law_due c__law_pairs c__law_tie c__law_people)
theorem ok__law_due {c__law_pairs : FD} {c__law_tie : FD} {c__law_people : FD} {k : Nat} (T : Txt w K mg) (C__law_pairs : Callee P w K mg base ct k "_law_pairs" 1 c__law_pairs) (C__law_tie : Callee P w K mg base ct k "_law_tie" 2 c__law_tie) (C__law_people : Callee P w K mg base ct k "_law_people" 2 c__law_people) : Callee P w K mg base ct (k + 1) "_law_due" 4 (d__law_due c__law_pairs c__law_tie c__law_people) :=
  callee_of T.d__law_due sc__law_due fun f cdv A outer s H E hr =>
    (sss_cons (ss_if (SW.st (sw_or (st_not (st_val (se_fn C__law_people hr (by rfl) (sa_cons (se_var 3) (sa_cons (se_var 0) sa_nil)) (fCons_len (fCons_len (fun _ _ _ _ h => fNil_len h)))))) (sw_or1 (st_cmp (op_neAll hr) od_ne (se_callB call_lenAll cd_len (by rfl) T.n_len (by decide +kernel) (sa_cons (se_var 3) sa_nil)) (se_var 0) (nomark _))))) (sss_one (ss_ret se_bl)) sss_nil)
      (sss_cons (ss_for PassesOwn.never rfl (si_list (se_fn C__law_pairs hr (by rfl) (sa_cons (se_var 0) sa_nil) (fCons_len (fun _ _ _ _ h => fNil_len h)))) (sg_tup rfl (sgs_cons (sg_name (i := 4) sc__law_due.nd rfl (Or.inl rfl)) (sgs_cons (sg_name (i := 5) sc__law_due.nd rfl (Or.inl rfl)) sgs_nil))) (sss_one (ss_if (st_cmp (op_neAll hr) od_ne (se_cmp (op_inX hr) od_inX (se_tup (sa_cons (se_var 4) (sa_cons (se_var 5) sa_nil))) (se_var 1) (by rfl)) (se_cmp (op_inX hr) od_inX (se_fn C__law_tie hr (by rfl) (sa_cons (se_ix ix_seq od_ix (se_var 3) (se_var 4) (fun _ _ => rfl)) (sa_cons (se_ix ix_seq od_ix (se_var 3) (se_var 5) (fun _ _ => rfl)) sa_nil)) (fCons_len (fCons_len (fun _ _ _ _ h => fNil_len h)))) (se_var 2) (by rfl)) (nomark _)) (sss_one (ss_ret se_bl)) sss_nil)))
      (sss_one (ss_ret se_bl))))
abbrev s__law_judged : Stmt := topS 68
theorem sc__law_judged : FnScope ["_law_many", "_law_ties", "_law_others", "_law_paper", "_law_claim"] ["_law_many", "_law_ties", "_law_others", "_law_paper"] (defScope s__law_judged) := ⟨rfl, rfl, rfl, by decide +kernel, rfl, by decide +kernel, by decide +kernel⟩
def b__law_judged (c__law_agrees : FD) (c__law_due : FD) (c__law_line : FD) : FS :=
  (sSeq (sAsg (fTup (fCons (fC (.str "alike")) (fCons (fCall c__law_line (fCons (fVar 0) (fCons (fVar 1) fNil))) (fCons (fCall c__law_line (fCons (fVar 0) (fCons (fVar 2) fNil))) fNil)))) (gN 4))
    (sRet (fCall c__law_agrees (fCons (fVar 4) (fCons (fVar 3) (fCons (fCall c__law_due (fCons (fVar 0) (fCons (fVar 1) (fCons (fVar 2) (fCons (fVar 3) fNil))))) fNil))))))
def d__law_judged (c__law_agrees : FD) (c__law_due : FD) (c__law_line : FD) : FD := runD 5 (b__law_judged c__law_agrees c__law_due c__law_line)
theorem ok__law_judged {c__law_agrees : FD} {c__law_due : FD} {c__law_line : FD} {k : Nat} (T : Txt w K mg) (C__law_agrees : Callee P w K mg base ct k "_law_agrees" 3 c__law_agrees) (C__law_due : Callee P w K mg base ct k "_law_due" 4 c__law_due) (C__law_line : Callee P w K mg base ct k "_law_line" 2 c__law_line) : Callee P w K mg base ct (k + 1) "_law_judged" 4 (d__law_judged c__law_agrees c__law_due c__law_line) :=
  callee_of T.d__law_judged sc__law_judged fun f cdv A outer s H E hr =>
    (sss_cons (ss_set (i := 4) sc__law_judged.nd rfl (Or.inl rfl) (se_tup (sa_cons se_str (sa_cons (se_fn C__law_line hr (by rfl) (sa_cons (se_var 0) (sa_cons (se_var 1) sa_nil)) (fCons_len (fCons_len (fun _ _ _ _ h => fNil_len h)))) (sa_cons (se_fn C__law_line hr (by rfl) (sa_cons (se_var 0) (sa_cons (se_var 2) sa_nil)) (fCons_len (fCons_len (fun _ _ _ _ h => fNil_len h)))) sa_nil)))))
      (sss_one (ss_ret (se_fn C__law_agrees hr (by rfl) (sa_cons (se_var 4) (sa_cons (se_var 3) (sa_cons (se_fn C__law_due hr (by rfl) (sa_cons (se_var 0) (sa_cons (se_var 1) (sa_cons (se_var 2) (sa_cons (se_var 3) sa_nil)))) (fCons_len (fCons_len (fCons_len (fCons_len (fun _ _ _ _ h => fNil_len h)))))) sa_nil))) (fCons_len (fCons_len (fCons_len (fun _ _ _ _ h => fNil_len h))))))))
abbrev s__law_right : Stmt := topS 69
theorem sc__law_right : FnScope ["_law_stock_here", "_law_many", "_law_ties", "_law_row", "_law_others", "_law_paper", "_law_inverse", "_law_value", "_law_pairs_here", "_law_turn", "_law_tie_here", "_law_one", "_law_late", "_law_changed", "_law_lines", "_law_person"] ["_law_stock_here"] (defScope s__law_right) := ⟨rfl, rfl, rfl, by decide +kernel, rfl, by decide +kernel, by decide +kernel⟩
def b__law_right (c__law_judged : FD) (c__law_agrees : FD) (c__law_line : FD) (c__law_flipped : FD) (c__law_take : FD) (c__law_pairs : FD) (c__law_near_rows : FD) (c__law_renamed : FD) (c__law_some_order : FD) (c__law_some_ties : FD) : FS :=
  (sSeq (sAsg (fBin gIx (fLst (fCons (fC (.int 4)) (fCons (fC (.int 5)) (fCons (fC (.int 6)) (fCons (fC (.int 7)) (fCons (fC (.int 8)) (fCons (fC (.int 9)) (fCons (fC (.int 10)) (fCons (fC (.int 3)) (fCons (fC (.int 2)) (fCons (fC (.int 1)) (fCons (fC (.int 0)) fNil)))))))))))) (fCall c__law_take (fCons (fVar 0) (fCons (fC (.int 11)) fNil)))) (gN 1))
    (sSeq (sAsg (fTup (fCons (fCall c__law_some_ties (fCons (fVar 0) (fCons (fVar 1) fNil))) (fCons (fCall c__law_some_order (fCons (fVar 0) (fCons (fVar 1) fNil))) fNil))) (gTup 2 (gCons (gN 2) (gCons (gN 3) gNil))))
    (sSeq (sPar 4 5 (fCons (fCall c__law_renamed (fCons (fVar 2) (fCons (fVar 3) fNil))) (fCons (fCall cTupleX (fCons (fVar 3) fNil)) fNil)))
    (sSeq (sAsg (fCall cTupleX (fCons (fLc (iRange1 (fCons (fVar 1) fNil)) (gN 15) tYesD (fIndex (fVar 3) (fVar 15)) [15]) fNil)) (gN 6))
    (sSeq (sFor (iLst (fBin gAddX (fCall c__law_near_rows (fCons (fVar 0) (fCons (fVar 1) (fCons (fVar 5) fNil)))) (fLst (fCons (fVar 6) (fCons (fTupR1 (fVar 1)) fNil))))) (gN 7) (sIf (tNotD (fTest (fCall c__law_judged (fCons (fVar 1) (fCons (fVar 2) (fCons (fVar 4) (fCons (fVar 7) fNil))))))) (sRet (fC (.bl false))) sSkip))
    (sSeq (sIf (tOrD (tNotD (fTest (fCall c__law_judged (fCons (fVar 1) (fCons (fVar 4) (fCons (fVar 2) (fCons (fVar 6) fNil))))))) (tNotD (fTest (fCall c__law_judged (fCons (fVar 1) (fCons (fVar 4) (fCons (fVar 2) (fCons (fVar 5) fNil)))))))) (sRet (fC (.bl false))) sSkip)
    (sSeq (sAsg (fCall c__law_pairs (fCons (fVar 1) fNil)) (gN 8))
    (sSeq (sFor (iRange1 (fCons (fCall cMin2 (fCons (fC (.int 6)) (fCons (fCall cLen (fCons (fVar 8) fNil)) fNil))) fNil)) (gN 9) (sSeq (sAsg (fBin gIx (fVar 8) (fCall c__law_take (fCons (fVar 0) (fCons (fCall cLen (fCons (fVar 8) fNil)) fNil)))) (gN 10))
    (sSeq (sIf (tNotD (fTest (fCall c__law_judged (fCons (fVar 1) (fCons (fVar 2) (fCons (fCall c__law_flipped (fCons (fVar 4) (fCons (fVar 10) fNil))) (fCons (fVar 5) fNil))))))) (sRet (fC (.bl false))) sSkip)
    (sIf (tNotD (fTest (fCall c__law_judged (fCons (fVar 1) (fCons (fCall c__law_flipped (fCons (fVar 2) (fCons (fVar 10) fNil))) (fCons (fVar 4) (fCons (fVar 5) fNil))))))) (sRet (fC (.bl false))) sSkip))))
    (sSeq (sFor (iLst (fSlX (fVar 8) oNone (oSome (fC (.int 20))))) (gTup 2 (gCons (gN 11) (gCons (gN 12) gNil))) (sSeq (sAsg (fCall cListM (fCons (fVar 3) fNil)) (gN 13))
    (sSeq (sAsg (fTup (fCons (fBin gIx (fVar 3) (fVar 12)) (fCons (fBin gIx (fVar 3) (fVar 11)) fNil))) (gTup 2 (gCons (gSub gSetA (fVar 13) (fVar 11)) (gCons (gSub gSetA (fVar 13) (fVar 12)) gNil))))
    (sIf (tNotD (fTest (fCall c__law_judged (fCons (fVar 1) (fCons (fVar 2) (fCons (fVar 4) (fCons (fCall cTupleX (fCons (fVar 13) fNil)) fNil))))))) (sRet (fC (.bl false))) sSkip))))
    (sSeq (sIf (fTest (fBin gEq (fVar 1) (fC (.int 10)))) (sRet (fC (.bl true))) sSkip)
    (sSeq (sFor (iLst (fLst (fCons (fCall cTupleX (fCons (fVar 3) fNil)) (fCons (fBin gAddX (fCall cTupleX (fCons (fVar 3) fNil)) (fTup (fCons (fVar 1) fNil))) (fCons (fBin gAddX (fTup (fCons (fVar 1) fNil)) (fCall cTupleX (fCons (fVar 3) fNil))) fNil))))) (gN 5) (sFor (iLst (fLst (fCons (fLst (fCons (fVar 1) (fCons (fBin gAddX (fVar 1) (fC (.int 1))) fNil))) (fCons (fLst (fCons (fBin gAddX (fVar 1) (fC (.int 1))) (fCons (fVar 1) fNil))) fNil)))) (gN 14) (sIf (tNotD (fTest (fCall c__law_agrees (fCons (fTup (fCons (fC (.str "alike")) (fCons (fCall c__law_line (fCons (fBin gIx (fVar 14) (fC (.int 0))) (fCons (fVar 2) fNil))) (fCons (fCall c__law_line (fCons (fBin gIx (fVar 14) (fC (.int 1))) (fCons (fVar 4) fNil))) fNil)))) (fCons (fVar 5) (fCons (fC (.bl false)) fNil)))))) (sRet (fC (.bl false))) sSkip)))
    (sRet (fCall c__law_judged (fCons (fBin gAddX (fVar 1) (fC (.int 1))) (fCons (fVar 2) (fCons (fVar 4) (fCons (fBin gAddX (fCall cTupleX (fCons (fVar 3) fNil)) (fTup (fCons (fVar 1) fNil))) fNil)))))))))))))))))
def d__law_right (c__law_judged : FD) (c__law_agrees : FD) (c__law_line : FD) (c__law_flipped : FD) (c__law_take : FD) (c__law_pairs : FD) (c__law_near_rows : FD) (c__law_renamed : FD) (c__law_some_order : FD) (c__law_some_ties : FD) : FD := runD 16 (b__law_right c__law_judged c__law_agrees c__law_line c__law_flipped c__law_take c__law_pairs c__law_near_rows c__law_renamed c__law_some_order c__law_some_ties)
theorem ok__law_right {c__law_judged : FD} {c__law_agrees : FD} {c__law_line : FD} {c__law_flipped : FD} {c__law_take : FD} {c__law_pairs : FD} {c__law_near_rows : FD} {c__law_renamed : FD} {c__law_some_order : FD} {c__law_some_ties : FD} {k : Nat} (T : Txt w K mg) (C__law_judged : Callee P w K mg base ct k "_law_judged" 4 c__law_judged) (C__law_agrees : Callee P w K mg base ct k "_law_agrees" 3 c__law_agrees) (C__law_line : Callee P w K mg base ct k "_law_line" 2 c__law_line) (C__law_flipped : Callee P w K mg base ct k "_law_flipped" 2 c__law_flipped) (C__law_take : Callee P w K mg base ct k "_law_take" 2 c__law_take) (C__law_pairs : Callee P w K mg base ct k "_law_pairs" 1 c__law_pairs) (C__law_near_rows : Callee P w K mg base ct k "_law_near_rows" 3 c__law_near_rows) (C__law_renamed : Callee P w K mg base ct k "_law_renamed" 2 c__law_renamed) (C__law_some_order : Callee P w K mg base ct k "_law_some_order" 2 c__law_some_order) (C__law_some_ties : Callee P w K mg base ct k "_law_some_ties" 2 c__law_some_ties) : Callee P w K mg base ct (k + 1) "_law_right" 1 (d__law_right c__law_judged c__law_agrees c__law_line c__law_flipped c__law_take c__law_pairs c__law_near_rows c__law_renamed c__law_some_order c__law_some_ties) :=
  callee_of T.d__law_right sc__law_right fun f cdv A outer s H E hr =>
    (sss_cons (ss_set (i := 1) sc__law_right.nd rfl (Or.inl rfl) (se_ix ix_seq od_ix (se_lst (sa_cons se_int (sa_cons se_int (sa_cons se_int (sa_cons se_int (sa_cons se_int (sa_cons se_int (sa_cons se_int (sa_cons se_int (sa_cons se_int (sa_cons se_int (sa_cons se_int sa_nil)))))))))))) (se_fn C__law_take hr (by rfl) (sa_cons (se_var 0) (sa_cons se_int sa_nil)) (fCons_len (fCons_len (fun _ _ _ _ h => fNil_len h)))) (fun _ _ => rfl)))
      (sss_cons (ss_asg (se_tup (sa_cons (se_fn C__law_some_ties hr (by rfl) (sa_cons (se_var 0) (sa_cons (se_var 1) sa_nil)) (fCons_len (fCons_len (fun _ _ _ _ h => fNil_len h)))) (sa_cons (se_fn C__law_some_order hr (by rfl) (sa_cons (se_var 0) (sa_cons (se_var 1) sa_nil)) (fCons_len (fCons_len (fun _ _ _ _ h => fNil_len h)))) sa_nil))) (sg_tup rfl (sgs_cons (sg_name (i := 2) sc__law_right.nd rfl (Or.inl rfl)) (sgs_cons (sg_name (i := 3) sc__law_right.nd rfl (Or.inr rfl)) sgs_nil))))
      (sss_cons (ss_par (i := 4) (j := 5) (fun ta h => ps_par rfl sc__law_right.nd rfl rfl (by decide) rfl rfl h (by rfl)) (sa_cons (se_fn C__law_renamed hr (by rfl) (sa_cons (se_var 2) (sa_cons (se_var 3) sa_nil)) (fCons_len (fCons_len (fun _ _ _ _ h => fNil_len h)))) (sa_cons (se_callTy call_tuple_of cd_tupleX (by rfl) T.n_tuple (by decide +kernel) (sa_cons (se_var 3) sa_nil)) sa_nil)))
      (sss_cons (ss_set (i := 6) sc__law_right.nd rfl (Or.inl rfl) (se_callTy call_tuple_of cd_tupleX (by rfl) T.n_tuple (by decide +kernel) (sa_cons (se_lc (own := [("_law_person", 15)]) rfl sc__law_right.nd (si_range1 (by rfl) T.n_range (sa_cons (se_var 1) sa_nil)) (blkOk_by (own := [("_law_person", 15)]) (N := ["_law_stock_here", "_law_many", "_law_ties", "_law_row", "_law_others", "_law_paper", "_law_inverse", "_law_value", "_law_pairs_here", "_law_turn", "_law_tie_here", "_law_one", "_law_late", "_law_changed", "_law_lines", "_law_person"]) (sc := defScope s__law_right) (by decide +kernel)) (fun _ _ _ _ _ => (sgw_name (i := 15) sc__law_right.nd rfl (Or.inl rfl) (by decide))) (fun _ _ _ _ _ => sts_nil) (fun _ _ _ _ _ => (se_index (se_var 3) (se_var 15)))) sa_nil)))
      (sss_cons (ss_for PassesOwn.never rfl (si_list (se_op op_addX od_addX (se_fn C__law_near_rows hr (by rfl) (sa_cons (se_var 0) (sa_cons (se_var 1) (sa_cons (se_var 5) sa_nil))) (fCons_len (fCons_len (fCons_len (fun _ _ _ _ h => fNil_len h))))) (se_lst (sa_cons (se_var 6) (sa_cons (se_tupR1 rfl (by rfl) T.n_tuple (by rfl) T.n_range (se_var 1)) sa_nil))))) (sg_name (i := 7) sc__law_right.nd rfl (Or.inl rfl)) (sss_one (ss_if (st_not (st_val (se_fn C__law_judged hr (by rfl) (sa_cons (se_var 1) (sa_cons (se_var 2) (sa_cons (se_var 4) (sa_cons (se_var 7) sa_nil)))) (fCons_len (fCons_len (fCons_len (fCons_len (fun _ _ _ _ h => fNil_len h)))))))) (sss_one (ss_ret se_bl)) sss_nil)))
      (sss_cons (ss_if (SW.st (sw_or (st_not (st_val (se_fn C__law_judged hr (by rfl) (sa_cons (se_var 1) (sa_cons (se_var 4) (sa_cons (se_var 2) (sa_cons (se_var 6) sa_nil)))) (fCons_len (fCons_len (fCons_len (fCons_len (fun _ _ _ _ h => fNil_len h)))))))) (sw_or1 (st_not (st_val (se_fn C__law_judged hr (by rfl) (sa_cons (se_var 1) (sa_cons (se_var 4) (sa_cons (se_var 2) (sa_cons (se_var 5) sa_nil)))) (fCons_len (fCons_len (fCons_len (fCons_len (fun _ _ _ _ h => fNil_len h))))))))))) (sss_one (ss_ret se_bl)) sss_nil)
      (sss_cons (ss_set (i := 8) sc__law_right.nd rfl (Or.inl rfl) (se_fn C__law_pairs hr (by rfl) (sa_cons (se_var 1) sa_nil) (fCons_len (fun _ _ _ _ h => fNil_len h))))
      (sss_cons (ss_for PassesOwn.never rfl (si_range1 (by rfl) T.n_range (sa_cons (se_callB (call_min2 rfl) cd_min2 (by rfl) T.n_min (by decide +kernel) (sa_cons se_int (sa_cons (se_callB call_lenAll cd_len (by rfl) T.n_len (by decide +kernel) (sa_cons (se_var 8) sa_nil)) sa_nil))) sa_nil)) (sg_name (i := 9) sc__law_right.nd rfl (Or.inl rfl)) (sss_cons (ss_set (i := 10) sc__law_right.nd rfl (Or.inl rfl) (se_ix ix_seq od_ix (se_var 8) (se_fn C__law_take hr (by rfl) (sa_cons (se_var 0) (sa_cons (se_callB call_lenAll cd_len (by rfl) T.n_len (by decide +kernel) (sa_cons (se_var 8) sa_nil)) sa_nil)) (fCons_len (fCons_len (fun _ _ _ _ h => fNil_len h)))) (fun _ _ => rfl)))
      (sss_cons (ss_if (st_not (st_val (se_fn C__law_judged hr (by rfl) (sa_cons (se_var 1) (sa_cons (se_var 2) (sa_cons (se_fn C__law_flipped hr (by rfl) (sa_cons (se_var 4) (sa_cons (se_var 10) sa_nil)) (fCons_len (fCons_len (fun _ _ _ _ h => fNil_len h)))) (sa_cons (se_var 5) sa_nil)))) (fCons_len (fCons_len (fCons_len (fCons_len (fun _ _ _ _ h => fNil_len h)))))))) (sss_one (ss_ret se_bl)) sss_nil)
      (sss_one (ss_if (st_not (st_val (se_fn C__law_judged hr (by rfl) (sa_cons (se_var 1) (sa_cons (se_fn C__law_flipped hr (by rfl) (sa_cons (se_var 2) (sa_cons (se_var 10) sa_nil)) (fCons_len (fCons_len (fun _ _ _ _ h => fNil_len h)))) (sa_cons (se_var 4) (sa_cons (se_var 5) sa_nil)))) (fCons_len (fCons_len (fCons_len (fCons_len (fun _ _ _ _ h => fNil_len h)))))))) (sss_one (ss_ret se_bl)) sss_nil)))))
      (sss_cons (ss_for PassesOwn.never rfl (si_list (se_sliceX (se_var 8) so_none (so_some se_int))) (sg_tup rfl (sgs_cons (sg_name (i := 11) sc__law_right.nd rfl (Or.inl rfl)) (sgs_cons (sg_name (i := 12) sc__law_right.nd rfl (Or.inl rfl)) sgs_nil))) (sss_cons (ss_set (i := 13) sc__law_right.nd rfl (Or.inl rfl) (se_callTy call_list_of cd_listM (by rfl) T.n_list (by decide +kernel) (sa_cons (se_var 3) sa_nil)))
      (sss_cons (ss_asg (se_tup (sa_cons (se_ix ix_seq od_ix (se_var 3) (se_var 12) (fun _ _ => rfl)) (sa_cons (se_ix ix_seq od_ix (se_var 3) (se_var 11) (fun _ _ => rfl)) sa_nil))) (sg_tup rfl (sgs_cons (sg_sub (se_var 13) (se_var 11) (set_all hr) sd_all) (sgs_cons (sg_sub (se_var 13) (se_var 12) (set_all hr) sd_all) sgs_nil))))
      (sss_one (ss_if (st_not (st_val (se_fn C__law_judged hr (by rfl) (sa_cons (se_var 1) (sa_cons (se_var 2) (sa_cons (se_var 4) (sa_cons (se_callTy call_tuple_of cd_tupleX (by rfl) T.n_tuple (by decide +kernel) (sa_cons (se_var 13) sa_nil)) sa_nil)))) (fCons_len (fCons_len (fCons_len (fCons_len (fun _ _ _ _ h => fNil_len h)))))))) (sss_one (ss_ret se_bl)) sss_nil)))))
      (sss_cons (ss_if (st_cmp (op_eqAll hr) od_eq (se_var 1) se_int (nomark _)) (sss_one (ss_ret se_bl)) sss_nil)
      (sss_cons (ss_for PassesOwn.never rfl (si_list (se_lst (sa_cons (se_callTy call_tuple_of cd_tupleX (by rfl) T.n_tuple (by decide +kernel) (sa_cons (se_var 3) sa_nil)) (sa_cons (se_op op_addX od_addX (se_callTy call_tuple_of cd_tupleX (by rfl) T.n_tuple (by decide +kernel) (sa_cons (se_var 3) sa_nil)) (se_tup (sa_cons (se_var 1) sa_nil))) (sa_cons (se_op op_addX od_addX (se_tup (sa_cons (se_var 1) sa_nil)) (se_callTy call_tuple_of cd_tupleX (by rfl) T.n_tuple (by decide +kernel) (sa_cons (se_var 3) sa_nil))) sa_nil))))) (sg_name (i := 5) sc__law_right.nd rfl (Or.inl rfl)) (sss_one (ss_for PassesOwn.never rfl (si_list (se_lst (sa_cons (se_lst (sa_cons (se_var 1) (sa_cons (se_op op_addX od_addX (se_var 1) se_int) sa_nil))) (sa_cons (se_lst (sa_cons (se_op op_addX od_addX (se_var 1) se_int) (sa_cons (se_var 1) sa_nil))) sa_nil)))) (sg_name (i := 14) sc__law_right.nd rfl (Or.inl rfl)) (sss_one (ss_if (st_not (st_val (se_fn C__law_agrees hr (by rfl) (sa_cons (se_tup (sa_cons se_str (sa_cons (se_fn C__law_line hr (by rfl) (sa_cons (se_ix ix_seq od_ix (se_var 14) se_int (fun _ _ => rfl)) (sa_cons (se_var 2) sa_nil)) (fCons_len (fCons_len (fun _ _ _ _ h => fNil_len h)))) (sa_cons (se_fn C__law_line hr (by rfl) (sa_cons (se_ix ix_seq od_ix (se_var 14) se_int (fun _ _ => rfl)) (sa_cons (se_var 4) sa_nil)) (fCons_len (fCons_len (fun _ _ _ _ h => fNil_len h)))) sa_nil)))) (sa_cons (se_var 5) (sa_cons se_bl sa_nil))) (fCons_len (fCons_len (fCons_len (fun _ _ _ _ h => fNil_len h))))))) (sss_one (ss_ret se_bl)) sss_nil)))))
      (sss_one (ss_ret (se_fn C__law_judged hr (by rfl) (sa_cons (se_op op_addX od_addX (se_var 1) se_int) (sa_cons (se_var 2) (sa_cons (se_var 4) (sa_cons (se_op op_addX od_addX (se_callTy call_tuple_of cd_tupleX (by rfl) T.n_tuple (by decide +kernel) (sa_cons (se_var 3) sa_nil)) (se_tup (sa_cons (se_var 1) sa_nil))) sa_nil)))) (fCons_len (fCons_len (fCons_len (fCons_len (fun _ _ _ _ h => fNil_len h)))))))))))))))))))
abbrev s_law : Stmt := topS 70
theorem sc_law : FnScope ["_law_script", "_law_k"] ["_law_script"] (defScope s_law) := ⟨rfl, rfl, rfl, by decide +kernel, rfl, by decide +kernel, by decide +kernel⟩
def b_law (c__law_right : FD) (c__law_stock : FD) : FS :=
  (sSeq (sFor (iRange1 (fCons (fCall cMax2 (fCons (fC (.int 2)) (fCons (fCall cMin2 (fCons (fCall cLen (fCons (fVar 0) fNil)) (fCons (fC (.int 4)) fNil))) fNil))) fNil)) (gN 1) (sIf (tNotD (fTest (fCall c__law_right (fCons (fCall c__law_stock (fCons (fVar 0) (fCons (fVar 1) fNil))) fNil)))) (sRet (fC (.bl false))) sSkip))
    (sRet (fC (.bl true))))
def d_law (c__law_right : FD) (c__law_stock : FD) : FD := runD 2 (b_law c__law_right c__law_stock)
theorem fn_law {c__law_right : FD} {c__law_stock : FD} {k : Nat} {f : Addr} {fd : FuncData} (F : Fun K "law" "law" s_law f fd) (T : Txt w K mg) (C__law_right : Callee P w K mg base ct k "_law_right" 1 c__law_right) (C__law_stock : Callee P w K mg base ct k "_law_stock" 2 c__law_stock) : FnG P w K mg base (k + 1) f fd ["_law_script"] (spD K ct 1 (d_law c__law_right c__law_stock)) :=
  def_ok F sc_law fun cdv A outer s H E hr =>
    (sss_cons (ss_for PassesOwn.never rfl (si_range1 (by rfl) T.n_range (sa_cons (se_callB (call_max2 rfl) cd_max2 (by rfl) T.n_max (by decide +kernel) (sa_cons se_int (sa_cons (se_callB (call_min2 rfl) cd_min2 (by rfl) T.n_min (by decide +kernel) (sa_cons (se_callB call_lenAll cd_len (by rfl) T.n_len (by decide +kernel) (sa_cons (se_var 0) sa_nil)) (sa_cons se_int sa_nil))) sa_nil))) sa_nil)) (sg_name (i := 1) sc_law.nd rfl (Or.inl rfl)) (sss_one (ss_if (st_not (st_val (se_fn C__law_right hr (by rfl) (sa_cons (se_fn C__law_stock hr (by rfl) (sa_cons (se_var 0) (sa_cons (se_var 1) sa_nil)) (fCons_len (fCons_len (fun _ _ _ _ h => fNil_len h)))) sa_nil) (fCons_len (fun _ _ _ _ h => fNil_len h))))) (sss_one (ss_ret se_bl)) sss_nil)))
      (sss_one (ss_ret se_bl)))
abbrev w_is_integer : FD := d_is_integer
theorem wk_is_integer (T : Txt w K mg) : Callee P w K mg base ct 1 "is_integer" 1 w_is_integer :=
  ok_is_integer (k := 0) T
abbrev w_is_between : FD := d_is_between w_is_integer
theorem wk_is_between (T : Txt w K mg) : Callee P w K mg base ct 2 "is_between" 3 w_is_between :=
  ok_is_between (k := 1) T ((wk_is_integer T).mono (by decide))
abbrev w_natural : FD := d_natural
theorem wk_natural (T : Txt w K mg) : Callee P w K mg base ct 1 "natural" 2 w_natural :=
  ok_natural (k := 0) T
abbrev w_party_of : FD := pureD (d_party_of w_natural)
theorem wk_party_of (T : Txt w K mg) : Callee P w K mg base ct 2 "party_of" 1 w_party_of :=
  (ok_party_of (k := 1) T ((wk_natural T).mono (by decide))).pure
abbrev w_are_people : FD := d_are_people w_is_between
theorem wk_are_people (T : Txt w K mg) : Callee P w K mg base ct 3 "are_people" 2 w_are_people :=
  ok_are_people (k := 2) T ((wk_is_between T).mono (by decide))
abbrev w_renamed : FD := d_renamed
theorem wk_renamed (T : Txt w K mg) : Callee P w K mg base ct 1 "renamed" 2 w_renamed :=
  ok_renamed (k := 0) T
abbrev w_is_about_parties : FD := d_is_about_parties w_renamed w_are_people
theorem wk_is_about_parties (T : Txt w K mg) : Callee P w K mg base ct 4 "is_about_parties" 4 w_is_about_parties :=
  ok_is_about_parties (k := 3) T ((wk_renamed T).mono (by decide)) ((wk_are_people T).mono (by decide))
abbrev w_accepts : FD := d_accepts w_party_of w_is_about_parties
theorem wk_accepts (T : Txt w K mg) : Callee P w K mg base ct 5 "accepts" 2 w_accepts :=
  ok_accepts (k := 4) T ((wk_party_of T).mono (by decide)) ((wk_is_about_parties T).mono (by decide))
abbrev w__law_stock : FD := d__law_stock
theorem wk__law_stock (T : Txt w K mg) : Callee P w K mg base ct 1 "_law_stock" 2 w__law_stock :=
  ok__law_stock (k := 0) T
abbrev w__law_take : FD := d__law_take
theorem wk__law_take (T : Txt w K mg) : Callee P w K mg base ct 1 "_law_take" 2 w__law_take :=
  ok__law_take (k := 0) T
abbrev w__law_agrees : FD := d__law_agrees w_accepts
theorem wk__law_agrees (T : Txt w K mg) : Callee P w K mg base ct 6 "_law_agrees" 3 w__law_agrees :=
  ok__law_agrees (k := 5) T ((wk_accepts T).mono (by decide))
abbrev w__law_is : FD := d__law_is
theorem wk__law_is (T : Txt w K mg) : Callee P w K mg base ct 1 "_law_is" 3 w__law_is :=
  ok__law_is (k := 0) T
abbrev w__law_line : FD := d__law_line
theorem wk__law_line (T : Txt w K mg) : Callee P w K mg base ct 1 "_law_line" 2 w__law_line :=
  ok__law_line (k := 0) T
abbrev w__law_pairs : FD := pureD (d__law_pairs)
theorem wk__law_pairs (T : Txt w K mg) : Callee P w K mg base ct 1 "_law_pairs" 1 w__law_pairs :=
  (ok__law_pairs (k := 0) T).pure
abbrev w__law_flipped : FD := d__law_flipped
theorem wk__law_flipped (T : Txt w K mg) : Callee P w K mg base ct 1 "_law_flipped" 2 w__law_flipped :=
  ok__law_flipped (k := 0) T
abbrev w__law_tie : FD := d__law_tie
theorem wk__law_tie (T : Txt w K mg) : Callee P w K mg base ct 1 "_law_tie" 2 w__law_tie :=
  ok__law_tie (k := 0) T
abbrev w__law_some_ties : FD := pure1D (d__law_some_ties w__law_take w__law_flipped w__law_pairs)
theorem wk__law_some_ties (T : Txt w K mg) : Callee P w K mg base ct 2 "_law_some_ties" 2 w__law_some_ties :=
  (ok__law_some_ties (k := 1) T ((wk__law_take T).mono (by decide)) ((wk__law_flipped T).mono (by decide)) ((wk__law_pairs T).mono (by decide))).pure1
abbrev w__law_some_order : FD := pure1D (d__law_some_order w__law_take)
theorem wk__law_some_order (T : Txt w K mg) : Callee P w K mg base ct 2 "_law_some_order" 2 w__law_some_order :=
  (ok__law_some_order (k := 1) T ((wk__law_take T).mono (by decide))).pure1
abbrev w__law_people : FD := d__law_people w__law_is
theorem wk__law_people (T : Txt w K mg) : Callee P w K mg base ct 2 "_law_people" 2 w__law_people :=
  ok__law_people (k := 1) T ((wk__law_is T).mono (by decide))
abbrev w__law_near_rows : FD := pure1D (d__law_near_rows w__law_is w__law_take)
theorem wk__law_near_rows (T : Txt w K mg) : Callee P w K mg base ct 2 "_law_near_rows" 3 w__law_near_rows :=
  (ok__law_near_rows (k := 1) T ((wk__law_is T).mono (by decide)) ((wk__law_take T).mono (by decide))).pure1
abbrev w__law_renamed : FD := d__law_renamed w__law_tie
theorem wk__law_renamed (T : Txt w K mg) : Callee P w K mg base ct 2 "_law_renamed" 2 w__law_renamed :=
  ok__law_renamed (k := 1) T ((wk__law_tie T).mono (by decide))
abbrev w__law_due : FD := d__law_due w__law_pairs w__law_tie w__law_people
theorem wk__law_due (T : Txt w K mg) : Callee P w K mg base ct 3 "_law_due" 4 w__law_due :=
  ok__law_due (k := 2) T ((wk__law_pairs T).mono (by decide)) ((wk__law_tie T).mono (by decide)) ((wk__law_people T).mono (by decide))
abbrev w__law_judged : FD := d__law_judged w__law_agrees w__law_due w__law_line
theorem wk__law_judged (T : Txt w K mg) : Callee P w K mg base ct 7 "_law_judged" 4 w__law_judged :=
  ok__law_judged (k := 6) T ((wk__law_agrees T).mono (by decide)) ((wk__law_due T).mono (by decide)) ((wk__law_line T).mono (by decide))
abbrev w__law_right : FD := d__law_right w__law_judged w__law_agrees w__law_line w__law_flipped w__law_take w__law_pairs w__law_near_rows w__law_renamed w__law_some_order w__law_some_ties
theorem wk__law_right (T : Txt w K mg) : Callee P w K mg base ct 8 "_law_right" 1 w__law_right :=
  ok__law_right (k := 7) T ((wk__law_judged T).mono (by decide)) ((wk__law_agrees T).mono (by decide)) ((wk__law_line T).mono (by decide)) ((wk__law_flipped T).mono (by decide)) ((wk__law_take T).mono (by decide)) ((wk__law_pairs T).mono (by decide)) ((wk__law_near_rows T).mono (by decide)) ((wk__law_renamed T).mono (by decide)) ((wk__law_some_order T).mono (by decide)) ((wk__law_some_ties T).mono (by decide))
def lawD : FD := d_law w__law_right w__law_stock
theorem law_fn {f : Addr} {fd : FuncData} (F : Fun K "law" "law" s_law f fd) (T : Txt w K mg) : FnG P w K mg base 14 f fd ["_law_script"] (spD K ct 1 lawD) :=
  fn_law (k := 13) F T ((wk__law_right T).mono (by decide)) ((wk__law_stock T).mono (by decide))
end LW

namespace LW
open PySem PySem.Spec PyProof.Rows L2 TL DL
/-! # ties, rows and renamings, no program in sight -/
def ltP (p q : Int × Int) : Prop := p.1 < q.1 ∨ (p.1 = q.1 ∧ p.2 < q.2)
structure Ties (n : Int) (T : List (Int × Int)) : Prop where
  rng : ∀ p ∈ T, 0 ≤ p.1 ∧ p.1 < p.2 ∧ p.2 < n
  asc : T.Pairwise ltP
theorem asc_len : ∀ (l : List Int) (lo hi : Int), l.Pairwise (· < ·) → (∀ x ∈ l, lo ≤ x ∧ x < hi) → (l.length : Int) ≤ max 0 (hi - lo)
  | [], _, _, _, _ => by simp only [List.length_nil]; omega
  | x :: l, lo, hi, h, g => by
    rw [List.pairwise_cons] at h
    have ih := asc_len l (x + 1) hi h.2 fun y hy => ⟨h.1 y hy, (g y (List.mem_cons_of_mem _ hy)).2⟩
    have := g x (List.mem_cons_self ..)
    rw [List.length_cons]
    omega
theorem isort_asc {l : List Int} (h : l.Nodup) : (isort leI l).Pairwise (· < ·) := by
  have h1 := isort_sorted tot_leI l
  have h2 : (isort leI l).Nodup := ((isort_perm leI l).nodup_iff).mpr h
  refine (h1.and h2).imp ?_
  intro a b ⟨h, g⟩
  simp only [leI, decide_eq_true_eq] at h
  omega
theorem nodup_len {l : List Int} {n : Int} (hn : 0 ≤ n) (h : l.Nodup) (g : ∀ x ∈ l, 0 ≤ x ∧ x < n) : (l.length : Int) ≤ n := by
  have := asc_len (isort leI l) 0 n (isort_asc h) fun x hx => g x ((isort_perm leI l).mem_iff.mp hx)
  rw [(isort_perm leI l).length_eq] at this
  omega
/-- n different ones below n: all of them -/
theorem row_all {l : List Int} {n : Int} (hn : 0 ≤ n) (h : l.Nodup) (g : ∀ x ∈ l, 0 ≤ x ∧ x < n) (hl : (l.length : Int) = n) {x : Int} (h0 : 0 ≤ x) (h1 : x < n) : x ∈ l := by
  apply Classical.byContradiction
  intro hx
  have := nodup_len (l := x :: l) hn (List.nodup_cons.mpr ⟨hx, h⟩) (fun y hy => by
    rcases List.mem_cons.mp hy with rfl | hy
    · exact ⟨h0, h1⟩
    · exact g y hy)
  rw [List.length_cons] at this
  omega
theorem ltP_ne {p q : Int × Int} (h : ltP p q) : p ≠ q := fun e => by subst e; unfold ltP at h; omega
theorem Ties.nodup {n : Int} {T : List (Int × Int)} (h : Ties n T) : T.Nodup := h.asc.imp fun h => ltP_ne h
theorem Ties.len {n : Int} {T : List (Int × Int)} (h : Ties n T) (hn : n ≤ 10) : T.length ≤ 100 := by
  have := asc_len (T.map fun p => 10 * p.1 + p.2) 0 100 (by
    rw [List.pairwise_map]
    refine (List.Pairwise.and_mem.mp h.asc).imp ?_
    intro p q ⟨hp, hq, l⟩
    have a := h.rng p hp
    have b := h.rng q hq
    unfold ltP at l
    omega) (fun x hx => by
      obtain ⟨p, hp, rfl⟩ := List.mem_map.mp hx
      have a := h.rng p hp
      omega)
  rw [List.length_map] at this
  omega
theorem asc_ext {T U : List (Int × Int)} (hT : T.Pairwise ltP) (hU : U.Pairwise ltP) (h : ∀ p, p ∈ T ↔ p ∈ U) : T = U := by
  have p := (List.perm_ext_iff_of_nodup (hT.imp fun h => ltP_ne h) (hU.imp fun h => ltP_ne h)).mpr h
  refine p.eq_of_pairwise (le := ltP) ?_ hT hU
  intro a b _ _ h1 h2
  unfold ltP at h1 h2
  omega
theorem isortP_asc {l : List (Int × Int)} (h : l.Nodup) : (isort leP l).Pairwise ltP := by
  have h1 := isort_sorted tot_leP l
  have h2 : (isort leP l).Nodup := ((isort_perm leP l).nodup_iff).mpr h
  refine (h1.and h2).imp ?_
  intro a b ⟨h, g⟩
  simp only [leP, decide_eq_true_eq] at h
  unfold ltP
  rcases h with h | ⟨h, h2⟩
  · exact Or.inl h
  · refine Or.inr ⟨h, ?_⟩
    have : a.2 ≠ b.2 := fun e => g (Prod.ext h e)
    omega
theorem mem_isort {α : Type} {le : α → α → Bool} {l : List α} {x : α} : x ∈ isort le l ↔ x ∈ l := (isort_perm le l).mem_iff
theorem sorted_ties {n : Int} {l : List (Int × Int)} (h : l.Nodup) (g : ∀ p ∈ l, 0 ≤ p.1 ∧ p.1 < p.2 ∧ p.2 < n) : Ties n (isort leP l) := ⟨fun p hp => g p (mem_isort.mp hp), isortP_asc h⟩
/-! ## a row of people -/
structure Row (n : Int) (xs : List Int) : Prop where
  nd : xs.Nodup
  rng : ∀ x ∈ xs, 0 ≤ x ∧ x < n
def sg (xs : List Int) (i : Int) : Int := xs.getD i.toNat 0
def tieP (xs : List Int) (p : Int × Int) : Int × Int := (min (sg xs p.1) (sg xs p.2), max (sg xs p.1) (sg xs p.2))
theorem sg_get {xs : List Int} {n i : Int} (hl : (xs.length : Int) = n) (h0 : 0 ≤ i) (h1 : i < n) : xs[i.toNat]? = some (sg xs i) := by
  unfold sg
  have : i.toNat < xs.length := by omega
  rw [List.getD_eq_getElem?_getD, List.getElem?_eq_getElem this]
  rfl
theorem sg_rng {n : Int} {xs : List Int} (h : Row n xs) (hl : (xs.length : Int) = n) {i : Int} (h0 : 0 ≤ i) (h1 : i < n) : 0 ≤ sg xs i ∧ sg xs i < n := h.rng _ (List.mem_of_getElem? (sg_get hl h0 h1))
theorem sg_inj {n : Int} {xs : List Int} (h : Row n xs) (hl : (xs.length : Int) = n) {i j : Int} (h0 : 0 ≤ i) (h1 : i < n) (g0 : 0 ≤ j) (g1 : j < n) (e : sg xs i = sg xs j) : i = j := by
  have a := sg_get hl h0 h1
  have b := sg_get hl g0 g1
  rw [e] at a
  have := (List.getElem?_inj (i := i.toNat) (j := j.toNat) (by omega) h.nd).mp (a.trans b.symm)
  omega
theorem sg_onto {n : Int} {xs : List Int} (h : Row n xs) (hl : (xs.length : Int) = n) {x : Int} (h0 : 0 ≤ x) (h1 : x < n) : ∃ i, 0 ≤ i ∧ i < n ∧ sg xs i = x := by
  have m := row_all (by omega) h.nd h.rng hl h0 h1
  obtain ⟨k, hk, e⟩ := List.mem_iff_getElem.mp m
  refine ⟨k, by omega, by omega, ?_⟩
  unfold sg
  rw [Int.toNat_natCast, List.getD_eq_getElem?_getD, List.getElem?_eq_getElem hk, e]
  rfl
theorem tieP_rng {n : Int} {xs : List Int} (h : Row n xs) (hl : (xs.length : Int) = n) {p : Int × Int} (hp : 0 ≤ p.1 ∧ p.1 < p.2 ∧ p.2 < n) : 0 ≤ (tieP xs p).1 ∧ (tieP xs p).1 < (tieP xs p).2 ∧ (tieP xs p).2 < n := by
  have a := sg_rng h hl (i := p.1) (by omega) (by omega)
  have b := sg_rng h hl (i := p.2) (by omega) (by omega)
  have c : sg xs p.1 ≠ sg xs p.2 := fun e => by
    have := sg_inj h hl (i := p.1) (j := p.2) (by omega) (by omega) (by omega) (by omega) e
    omega
  show 0 ≤ min _ _ ∧ min _ _ < max _ _ ∧ max _ _ < n
  omega
theorem tieP_inj {n : Int} {xs : List Int} (h : Row n xs) (hl : (xs.length : Int) = n) {p q : Int × Int} (hp : 0 ≤ p.1 ∧ p.1 < p.2 ∧ p.2 < n) (hq : 0 ≤ q.1 ∧ q.1 < q.2 ∧ q.2 < n) (e : tieP xs p = tieP xs q) : p = q := by
  have e1 : min (sg xs p.1) (sg xs p.2) = min (sg xs q.1) (sg xs q.2) := congrArg Prod.fst e
  have e2 : max (sg xs p.1) (sg xs p.2) = max (sg xs q.1) (sg xs q.2) := congrArg Prod.snd e
  have i11 := sg_inj h hl (i := p.1) (j := q.1) (by omega) (by omega) (by omega) (by omega)
  have i12 := sg_inj h hl (i := p.1) (j := q.2) (by omega) (by omega) (by omega) (by omega)
  have i21 := sg_inj h hl (i := p.2) (j := q.1) (by omega) (by omega) (by omega) (by omega)
  have i22 := sg_inj h hl (i := p.2) (j := q.2) (by omega) (by omega) (by omega) (by omega)
  have : p.1 = q.1 ∧ p.2 = q.2 := by omega
  exact Prod.ext this.1 this.2
theorem tieP_onto {n : Int} {xs : List Int} (h : Row n xs) (hl : (xs.length : Int) = n) {p : Int × Int} (hp : 0 ≤ p.1 ∧ p.1 < p.2 ∧ p.2 < n) : ∃ q : Int × Int, (0 ≤ q.1 ∧ q.1 < q.2 ∧ q.2 < n) ∧ tieP xs q = p := by
  obtain ⟨i, i0, i1, ie⟩ := sg_onto h hl (x := p.1) (by omega) (by omega)
  obtain ⟨j, j0, j1, je⟩ := sg_onto h hl (x := p.2) (by omega) (by omega)
  have hij : i ≠ j := fun e => by subst e; omega
  by_cases hlt : i < j
  · refine ⟨(i, j), ⟨i0, hlt, j1⟩, ?_⟩
    refine Prod.ext ?_ ?_
    · show min (sg xs i) (sg xs j) = p.1
      omega
    · show max (sg xs i) (sg xs j) = p.2
      omega
  · refine ⟨(j, i), ⟨j0, by show j < i; omega, i1⟩, ?_⟩
    refine Prod.ext ?_ ?_
    · show min (sg xs j) (sg xs i) = p.1
      omega
    · show max (sg xs j) (sg xs i) = p.2
      omega
def renL (xs : List Int) (T : List (Int × Int)) : List (Int × Int) := isort leP (T.map (tieP xs))
theorem ren_nodup {n : Int} {xs : List Int} {T : List (Int × Int)} (h : Row n xs) (hl : (xs.length : Int) = n) (hT : Ties n T) : (T.map (tieP xs)).Nodup := by
  unfold List.Nodup
  rw [List.pairwise_map]
  refine (List.Pairwise.and_mem.mp hT.nodup).imp ?_
  intro p q ⟨hp, hq, l⟩ e
  exact l (tieP_inj h hl (hT.rng p hp) (hT.rng q hq) e)
theorem ren_ties {n : Int} {xs : List Int} {T : List (Int × Int)} (h : Row n xs) (hl : (xs.length : Int) = n) (hT : Ties n T) : Ties n (renL xs T) :=
  sorted_ties (ren_nodup h hl hT) fun p hp => by
    obtain ⟨q, hq, rfl⟩ := List.mem_map.mp hp
    exact tieP_rng h hl (hT.rng q hq)
theorem ren_due {n : Int} {xs : List Int} {T U : List (Int × Int)} (h : Row n xs) (hl : (xs.length : Int) = n) (hT : Ties n T) (hU : Ties n U) :
    renL xs T = U ↔ ∀ p : Int × Int, (0 ≤ p.1 ∧ p.1 < p.2 ∧ p.2 < n) → (p ∈ T ↔ tieP xs p ∈ U) := by
  constructor
  · rintro rfl p hp
    show _ ↔ tieP xs p ∈ isort leP _
    rw [mem_isort, List.mem_map]
    constructor
    · intro hm; exact ⟨p, hm, rfl⟩
    · rintro ⟨q, hq, e⟩
      rw [← tieP_inj h hl (hT.rng q hq) hp e]
      exact hq
  · intro g
    refine asc_ext (ren_ties h hl hT).asc hU.asc fun p => ?_
    show p ∈ isort leP _ ↔ _
    rw [mem_isort, List.mem_map]
    constructor
    · rintro ⟨q, hq, rfl⟩
      exact (g q (hT.rng q hq)).mp hq
    · intro hp
      obtain ⟨q, hq, rfl⟩ := tieP_onto h hl (hU.rng p hp)
      exact ⟨q, (g q hq).mpr hp, rfl⟩
/-! ## one tie more or less -/
def flipL (T : List (Int × Int)) (p : Int × Int) : List (Int × Int) := isort leP ((T.filter fun q => !decide (q = p)) ++ if p ∈ T then [] else [p])
theorem flip_ties {n : Int} {T : List (Int × Int)} {p : Int × Int} (hT : Ties n T) (hp : 0 ≤ p.1 ∧ p.1 < p.2 ∧ p.2 < n) : Ties n (flipL T p) := by
  have key : ∀ q ∈ (if p ∈ T then [] else [p]), q = p := fun q hq => by
    split at hq
    · cases hq
    · simpa using hq
  refine sorted_ties ?_ ?_
  · rw [List.nodup_append]
    refine ⟨hT.nodup.filter _, ?_, ?_⟩
    · split <;> simp
    · intro a ha b hb e
      have := key b hb
      subst this
      subst e
      simp at ha
  · intro q hq
    rcases List.mem_append.mp hq with hq | hq
    · exact hT.rng q (List.mem_filter.mp hq).1
    · rw [key q hq]; exact hp
end LW

namespace LW
open PySem PySem.Spec L2 TL DL
open PyProof.Rows hiding pairD
/-! # a party's line, written and read -/
theorem lc_map {α : Type} {g : FG} {t : FT} {f : FE} {env : DEnv} {S : Sto} (φ ψ : α → D) : ∀ {l : List α}, (∀ x ∈ l, ∃ e1, g (φ x) env S = some (e1, S) ∧ t e1 S = some (true, S) ∧ f e1 S = some (ψ x, S)) → lcD g t f env (l.map φ) S = some (l.map ψ, S)
  | [], _ => rfl
  | x :: l, h => by
    obtain ⟨e1, h1, h2, h3⟩ := h x (List.mem_cons_self ..)
    show (g (φ x) env S).bind _ = _
    rw [h1]
    show (t e1 S).bind _ = _
    rw [h2]
    show (f e1 S).bind _ = _
    rw [h3]
    show (lcD g t f env (l.map φ) S).bind _ = _
    rw [lc_map φ ψ fun y hy => h y (List.mem_cons_of_mem _ hy)]
    rfl
theorem lc_filter {α : Type} {g : FG} {t : FT} {f : FE} {env : DEnv} {S : Sto} (φ ψ : α → D) (p : α → Bool) : ∀ {l : List α}, (∀ x ∈ l, ∃ e1, g (φ x) env S = some (e1, S) ∧ t e1 S = some (p x, S) ∧ f e1 S = some (ψ x, S)) → lcD g t f env (l.map φ) S = some ((l.filter p).map ψ, S)
  | [], _ => rfl
  | x :: l, h => by
    obtain ⟨e1, h1, h2, h3⟩ := h x (List.mem_cons_self ..)
    have ih := lc_filter φ ψ p (l := l) fun y hy => h y (List.mem_cons_of_mem _ hy)
    show (g (φ x) env S).bind _ = _
    rw [h1]
    show (t e1 S).bind _ = _
    rw [h2]
    show (if p x = true then (f e1 S).bind _ else lcD g t f env (l.map φ) S) = _
    rw [List.filter_cons]
    split
    · rw [h3]
      show (lcD g t f env (l.map φ) S).bind _ = _
      rw [ih]
      rfl
    · exact ih
def numS (i : Int) : Str := Str.ofString (toString i)
def HY : Str := "-"
def CO : Str := ":"
def SP : Str := " "
theorem hy_tl : tl HY = 45 :: [] := by decide +kernel
theorem co_tl : tl CO = 58 :: [] := by decide +kernel
theorem sp_tl : tl SP = 32 :: [] := by decide +kernel
theorem app_len (a b : Str) : (a ++ b).length = a.length + b.length := by
  rw [len_tl, tl_append, List.length_append, ← len_tl, ← len_tl]
theorem num_dig {a : Int} (h0 : 0 ≤ a) (h1 : a ≤ 9) : tl (numS a) = [48 + a.toNat] := by
  obtain ⟨k, rfl⟩ := Int.eq_ofNat_of_zero_le h0
  unfold numS
  rw [tl_num, numL_lt (by omega)]
  simp
theorem num_people {a : Int} (h0 : 0 ≤ a) (h1 : a ≤ 10) : 58 ∉ tl (numS a) ∧ 32 ∉ tl (numS a) ∧ (numS a).length ≤ 2 := by
  have : a = 10 ∨ a ≤ 9 := by omega
  rcases this with rfl | h
  · decide +kernel
  · rw [len_tl, num_dig h0 h]
    simp
    omega
def pcT (p : Int × Int) : Str := numS p.1 ++ HY ++ numS p.2
def linePs (n : Int) (T : List (Int × Int)) : List Str := (numS n ++ CO) :: T.map pcT
def lineT (n : Int) (T : List (Int × Int)) : Str := Txt.join SP (linePs n T)
theorem pc_len {n : Int} {p : Int × Int} (hn : n ≤ 10) (hp : 0 ≤ p.1 ∧ p.1 < p.2 ∧ p.2 < n) : (pcT p).length = 3 := by
  unfold pcT
  rw [app_len, app_len, len_tl, num_dig (by omega) (by omega), len_tl HY, hy_tl, len_tl (numS p.2), num_dig (by omega) (by omega)]
  rfl
theorem pc_sp {n : Int} {p : Int × Int} (hn : n ≤ 10) (hp : 0 ≤ p.1 ∧ p.1 < p.2 ∧ p.2 < n) : 32 ∉ tl (pcT p) := by
  unfold pcT
  rw [tl_append, tl_append, num_dig (by omega) (by omega), hy_tl, num_dig (by omega) (by omega)]
  simp
  omega
theorem pcs_sum {n : Int} (hn : n ≤ 10) : ∀ {T : List (Int × Int)}, (∀ p ∈ T, 0 ≤ p.1 ∧ p.1 < p.2 ∧ p.2 < n) → ((T.map pcT).map (·.length)).sum = 3 * T.length
  | [], _ => rfl
  | p :: T, h => by
    show (pcT p).length + ((T.map pcT).map (·.length)).sum = 3 * (T.length + 1)
    rw [pcs_sum hn fun q hq => h q (List.mem_cons_of_mem _ hq), pc_len hn (h p (List.mem_cons_self ..))]
    omega
theorem asStrs_map : ∀ ys : List Str, asStrs (ys.map D.str) = some ys
  | [] => rfl
  | y :: ys => by
    show (asStrs (ys.map D.str)).map _ = _
    rw [asStrs_map ys]
    rfl
theorem log_small {a : Int} (h0 : 0 ≤ a) (h1 : a ≤ 10) : a.natAbs.log2 < 1920 := by
  obtain ⟨k, rfl⟩ := Int.eq_ofNat_of_zero_le h0
  have : k < 2 ^ 1920 := Nat.lt_of_le_of_lt (show k ≤ 10 by omega) (Nat.lt_of_lt_of_le (show (10:Nat) < 2 ^ 4 by decide) (Nat.pow_le_pow_right (by decide) (by decide)))
  by_cases hk : k = 0
  · subst hk; decide +kernel
  · exact (Nat.log2_lt (by simpa using hk)).mpr (by simpa using this)
theorem str_of {a : Int} (h0 : 0 ≤ a) (h1 : a ≤ 10) (S : Sto) : cStrX [.int a] S = some (.str (numS a), S) := by
  show (if a.natAbs.log2 < 1920 then some (D.str (numS a), S) else none) = _
  rw [if_pos (log_small h0 h1)]
theorem line_eq {n : Int} {T : List (Int × Int)} (h0 : 0 ≤ n) (hn : n ≤ 10) {n' : Int} (hn' : n' ≤ 10) (hT : Ties n' T) (S : Sto) : w__law_line [.int n, .lst (T.map pairD)] S = some (.str (lineT n T), S) := by
  have hl := hT.len hn'
  have hp := num_people h0 hn
  have e1 : (fBin gAddX (fCall cStrX (fCons (fVar 0) fNil)) (fC (.str CO))) [some (.int n), some (.lst (T.map pairD)), none] S = some (.str (numS n ++ CO), S) := by
    refine bin_of (S1 := S) (S2 := S) (x := .str (numS n)) (y := .str CO) (call_of (S1 := S) (ds := [.int n]) rfl (str_of h0 hn S)) rfl ?_
    show (if (numS n).length + CO.length ≤ 16777216 then some (D.str (numS n ++ CO), S) else none) = _
    rw [if_pos]
    have : CO.length = 1 := by decide +kernel
    omega
  have e2 : (fLc (iLst (fVar 1)) (gN 2) tYesD (fBin gAddX (fBin gAddX (fCall cStrX (fCons (fBin gIx (fVar 2) (fC (.int 0))) fNil)) (fC (.str HY))) (fCall cStrX (fCons (fBin gIx (fVar 2) (fC (.int 1))) fNil))) [2]) [some (.int n), some (.lst (T.map pairD)), none] S = some (.lst (T.map fun p => D.str (pcT p)), S) := by
    show (if (T.map pairD).length ≤ 1000000 then (lcD _ _ _ [some (.int n), some (.lst (T.map pairD)), none] (T.map pairD) S).bind _ else none) = _
    rw [if_pos (by rw [List.length_map]; omega), lc_map DL.pairD (fun p => D.str (pcT p)) (fun p hp => ?_)]
    · rfl
    · have r := hT.rng p hp
      refine ⟨[some (.int n), some (.lst (T.map pairD)), some (pairD p)], rfl, rfl, ?_⟩
      have l1 : (numS p.1).length = 1 := by rw [len_tl, num_dig (by omega) (by omega)]; rfl
      have l2 : (numS p.2).length = 1 := by rw [len_tl, num_dig (by omega) (by omega)]; rfl
      have l3 : HY.length = 1 := by decide +kernel
      refine bin_of (S1 := S) (S2 := S) (x := .str (numS p.1 ++ HY)) (y := .str (numS p.2)) (bin_of (S1 := S) (S2 := S) (x := .str (numS p.1)) (y := .str HY) (call_of (S1 := S) (ds := [.int p.1]) rfl (str_of (by omega) (by omega) S)) rfl ?_) (call_of (S1 := S) (ds := [.int p.2]) rfl (str_of (by omega) (by omega) S)) ?_
      · show (if (numS p.1).length + HY.length ≤ 16777216 then some (D.str (numS p.1 ++ HY), S) else none) = _
        rw [if_pos (by omega)]
      · show (if (numS p.1 ++ HY).length + (numS p.2).length ≤ 16777216 then some (D.str (numS p.1 ++ HY ++ numS p.2), S) else none) = _
        rw [if_pos (by rw [app_len]; omega)]
        rfl
  refine run_of (ret_of ?_)
  have e3 : (fBin gAddX (fLst (fCons (fBin gAddX (fCall cStrX (fCons (fVar 0) fNil)) (fC (.str CO))) fNil)) (fLc (iLst (fVar 1)) (gN 2) tYesD (fBin gAddX (fBin gAddX (fCall cStrX (fCons (fBin gIx (fVar 2) (fC (.int 0))) fNil)) (fC (.str HY))) (fCall cStrX (fCons (fBin gIx (fVar 2) (fC (.int 1))) fNil))) [2])) [some (.int n), some (.lst (T.map pairD)), none] S = some (.lst ((linePs n T).map D.str), S) := by
    refine bin_of (S1 := S) (S2 := S) (x := .lst [.str (numS n ++ CO)]) (y := .lst (T.map fun p => D.str (pcT p))) ?_ e2 ?_
    · show ((((fBin gAddX (fCall cStrX (fCons (fVar 0) fNil)) (fC (.str CO))) [some (.int n), some (.lst (T.map DL.pairD)), none] S).bind _).bind _) = _
      rw [e1]
      rfl
    · show (if ([D.str (numS n ++ CO)]).length + (T.map fun p => D.str (pcT p)).length ≤ 1000000 then some (D.lst ([D.str (numS n ++ CO)] ++ T.map fun p => D.str (pcT p)), S) else none) = _
      rw [if_pos (by rw [List.length_map]; simp; omega)]
      unfold linePs
      rw [List.map_cons, List.map_map]
      rfl
  have e4 : R ((fJoin (fC (.str SP)) (fBin gAddX (fLst (fCons (fBin gAddX (fCall cStrX (fCons (fVar 0) fNil)) (fC (.str CO))) fNil)) (fLc (iLst (fVar 1)) (gN 2) tYesD (fBin gAddX (fBin gAddX (fCall cStrX (fCons (fBin gIx (fVar 2) (fC (.int 0))) fNil)) (fC (.str HY))) (fCall cStrX (fCons (fBin gIx (fVar 2) (fC (.int 1))) fNil))) [2]))) [some (.int n), some (.lst (T.map pairD)), none] S) fun d S' => d = .str (lineT n T) ∧ S' = S := by
    rw [wp_Join]
    refine ⟨.str SP, S, rfl, ?_⟩
    refine ⟨_, S, e3, _, rfl, _, asStrs_map _, ?_, rfl, rfl⟩
    unfold linePs
    rw [List.map_cons, List.sum_cons, pcs_sum hn' hT.rng, app_len, List.length_cons, List.length_map]
    have : CO.length = 1 := by decide +kernel
    have : SP.length = 1 := by decide +kernel
    rw [this]
    omega
  obtain ⟨d, S', e, rfl, rfl⟩ := e4
  exact e
/-! ## reading -/
theorem natural_dig {a : Int} (h0 : 0 ≤ a) (h1 : a ≤ 9) (S : Sto) : w_natural [.str (numS a), .int 1] S = some (.int a, S) := by
  have : a = 0 ∨ a = 1 ∨ a = 2 ∨ a = 3 ∨ a = 4 ∨ a = 5 ∨ a = 6 ∨ a = 7 ∨ a = 8 ∨ a = 9 := by omega
  rcases this with rfl | rfl | rfl | rfl | rfl | rfl | rfl | rfl | rfl | rfl <;> kernel_rfl
theorem natural_people {a : Int} (h0 : 0 ≤ a) (h1 : a ≤ 10) (S : Sto) : w_natural [.str (numS a), .int 2] S = some (.int a, S) := by
  have : a = 0 ∨ a = 1 ∨ a = 2 ∨ a = 3 ∨ a = 4 ∨ a = 5 ∨ a = 6 ∨ a = 7 ∨ a = 8 ∨ a = 9 ∨ a = 10 := by omega
  rcases this with rfl | rfl | rfl | rfl | rfl | rfl | rfl | rfl | rfl | rfl | rfl <;> kernel_rfl
end LW

namespace LW
open PySem PySem.Spec L2 TL DL
open PyProof.Rows hiding pairD
/-! # party_of reads the line -/
def restT (T : List (Int × Int)) : Str := Txt.join SP ((⟨#[]⟩ : Str) :: T.map pcT)
theorem tl_rest (T : List (Int × Int)) : tl (restT T) = joinL [32] ([] :: (T.map pcT).map tl) := by
  unfold restT
  rw [join_eq, tl_join, sp_tl]
  rfl
theorem line_split (n : Int) (T : List (Int × Int)) : lineT n T = numS n ++ CO ++ restT T := by
  apply ext_tl
  rw [tl_append, tl_append, tl_rest]
  unfold lineT linePs
  rw [join_eq, tl_join, sp_tl]
  cases T with
  | nil =>
    show tl (numS n ++ CO) = _
    rw [tl_append]
    exact (List.append_nil _).symm
  | cons p T =>
    show tl (numS n ++ CO) ++ _ = (tl (numS n) ++ tl CO) ++ ([] ++ _)
    rw [tl_append]
    rfl
theorem line_part {n : Int} (h0 : 0 ≤ n) (hn : n ≤ 10) (T : List (Int × Int)) : Txt.partition (lineT n T) CO = (numS n, CO, restT T) := by
  rw [line_split]
  exact partition_app co_tl (num_people h0 hn).1
theorem rest_split {n : Int} {T : List (Int × Int)} (hn : n ≤ 10) (hT : Ties n T) : Txt.split (restT T) SP = (⟨#[]⟩ : Str) :: T.map pcT := by
  refine split_join sp_tl (by decide +kernel) (by simp) ?_
  intro p hp
  rcases List.mem_cons.mp hp with rfl | hp
  · decide +kernel
  · obtain ⟨q, hq, rfl⟩ := List.mem_map.mp hp
    exact pc_sp hn (hT.rng q hq)
theorem piece_part {n : Int} {p : Int × Int} (hn : n ≤ 10) (hp : 0 ≤ p.1 ∧ p.1 < p.2 ∧ p.2 < n) : Txt.partition (pcT p) HY = (numS p.1, HY, numS p.2) := by
  unfold pcT
  refine partition_app hy_tl ?_
  rw [num_dig (by omega) (by omega)]
  simp
  omega
theorem rest_cut (T : List (Int × Int)) : cutS (restT T) none (some 1) = (⟨#[]⟩ : Str) ∨ cutS (restT T) none (some 1) = SP := by
  have e : tl (cutS (restT T) none (some 1)) = (tl (restT T)).take 1 := by
    show ((tl (restT T)).drop 0).take (HT.sIx (restT T).length (restT T).length (some ((1 : Nat) : Int)) - 0) = _
    rw [HT.sIx_nat, len_tl]
    simp only [List.drop_zero, Nat.sub_zero]
    cases tl (restT T) with
    | nil => rfl
    | cons c l => rw [List.length_cons, Nat.min_eq_left (by omega)]
  rw [tl_rest] at e
  cases T with
  | nil => exact Or.inl (ext_tl e)
  | cons p T => exact Or.inr (ext_tl (e.trans sp_tl.symm))
def envP (t h m r : D) (n : Int) (e : List (Option D)) : DEnv := [some t, some h, some m, some r, some (.int n), some (.ref 0)] ++ e
def bodyP : FS := (sSeq (sAsg (fPart (fVar 6) (fC (.str "-"))) (gTup 3 (gCons (gN 7) (gCons (gN 8) (gCons (gN 9) gNil)))))
    (sSeq (sPar 10 11 (fCons (fCall w_natural (fCons (fVar 7) (fCons (fC (.int 1)) fNil))) (fCons (fCall w_natural (fCons (fVar 9) (fCons (fC (.int 1)) fNil))) fNil)))
    (sSeq (sIf (tOrD (fTest (fBin gIsN (fVar 10) (fC .non))) (tOrD (fTest (fBin gIsN (fVar 11) (fC .non))) (tOrD (tNotD (fTest (fChain gLtX gLtX (fVar 10) (fVar 11) (fVar 4)))) (tAndD (fTest (fBin gNeR (fVar 5) (fLst fNil))) (fTest (fBin gLeX (fTup (fCons (fVar 10) (fCons (fVar 11) fNil))) (fBin gIx (fVar 5) (fUn gNeg (fC (.int 1)))))))))) (sRet (fC .non)) sSkip)
    (sExpr (fAppend (fVar 5) (fTup (fCons (fVar 10) (fCons (fVar 11) fNil))))))))
theorem atI_last {α : Type} (l : List α) (x : α) : atI (l ++ [x]) (-1) = some x := by
  unfold atI
  have e : ixN (l ++ [x]).length (-1) = some l.length := by
    unfold ixN
    rw [List.length_append]
    simp
    omega
  rw [e]
  simp
theorem piece_run {n : Int} {p : Int × Int} {pre : List (Int × Int)} (hn : n ≤ 10) (hp : 0 ≤ p.1 ∧ p.1 < p.2 ∧ p.2 < n) (hpre : ∀ q ∈ pre, ltP q p) (hlen : pre.length ≤ 1000) (t h m r e6 e7 e8 e9 e10 e11 : Option D) :
    ∃ e7' e8' e9' e10' e11', bodyP [t, h, m, r, some (.int n), some (.ref 0), some (.str (pcT p)), e7, e8, e9, e10, e11] [.lst (pre.map pairD)] = some (.nx [t, h, m, r, some (.int n), some (.ref 0), some (.str (pcT p)), e7', e8', e9', e10', e11'], [.lst ((pre ++ [p]).map pairD)]) := by
  refine ⟨some (.str (numS p.1)), some (.str HY), some (.str (numS p.2)), some (.int p.1), some (.int p.2), ?_⟩
  have hP : (fPart (fVar 6) (fC (.str HY))) [t, h, m, r, some (.int n), some (.ref 0), some (.str (pcT p)), e7, e8, e9, e10, e11] [.lst (pre.map pairD)] = some (.tup [.str (numS p.1), .str HY, .str (numS p.2)], [.lst (pre.map pairD)]) := by
    show (if (HY.length == 0) = false ∧ (pcT p).length ≤ 16777216 then some (D.tup [.str (Txt.partition (pcT p) HY).1, .str (Txt.partition (pcT p) HY).2.1, .str (Txt.partition (pcT p) HY).2.2], [Cell.lst (pre.map pairD)]) else none) = _
    rw [if_pos ⟨by decide +kernel, by rw [pc_len hn hp]; omega⟩, piece_part hn hp]
  refine (seq_nx (env' := [t, h, m, r, some (.int n), some (.ref 0), some (.str (pcT p)), some (.str (numS p.1)), some (.str HY), some (.str (numS p.2)), e10, e11]) (S1 := [.lst (pre.map pairD)]) (asg_of hP rfl)).trans ?_
  have hQ : (sPar 10 11 (fCons (fCall w_natural (fCons (fVar 7) (fCons (fC (.int 1)) fNil))) (fCons (fCall w_natural (fCons (fVar 9) (fCons (fC (.int 1)) fNil))) fNil))) [t, h, m, r, some (.int n), some (.ref 0), some (.str (pcT p)), some (.str (numS p.1)), some (.str HY), some (.str (numS p.2)), e10, e11] [.lst (pre.map pairD)] = some (.nx [t, h, m, r, some (.int n), some (.ref 0), some (.str (pcT p)), some (.str (numS p.1)), some (.str HY), some (.str (numS p.2)), some (.int p.1), some (.int p.2)], [.lst (pre.map pairD)]) := by
    have h1 := natural_dig (a := p.1) (by omega) (by omega) [.lst (pre.map pairD)]
    have h2 := natural_dig (a := p.2) (by omega) (by omega) [.lst (pre.map pairD)]
    show ((w_natural [.str (numS p.1), .int 1] [.lst (pre.map pairD)]).bind _ |>.bind _) = _
    rw [h1]
    show (((w_natural [.str (numS p.2), .int 1] [.lst (pre.map pairD)]).bind _ |>.bind _) |>.bind _) = _
    rw [h2]
    rfl
  refine (seq_nx hQ).trans ?_
  have hT : (tOrD (fTest (fBin gIsN (fVar 10) (fC .non))) (tOrD (fTest (fBin gIsN (fVar 11) (fC .non))) (tOrD (tNotD (fTest (fChain gLtX gLtX (fVar 10) (fVar 11) (fVar 4)))) (tAndD (fTest (fBin gNeR (fVar 5) (fLst fNil))) (fTest (fBin gLeX (fTup (fCons (fVar 10) (fCons (fVar 11) fNil))) (fBin gIx (fVar 5) (fUn gNeg (fC (.int 1)))))))))) [t, h, m, r, some (.int n), some (.ref 0), some (.str (pcT p)), some (.str (numS p.1)), some (.str HY), some (.str (numS p.2)), some (.int p.1), some (.int p.2)] [.lst (pre.map pairD)] = some (false, [.lst (pre.map pairD)]) := by
    rw [or_of (b := false) (S1 := [.lst (pre.map pairD)]) rfl]
    show tOrD _ _ _ _ = _
    rw [or_of (b := false) (S1 := [.lst (pre.map pairD)]) rfl]
    show tOrD _ _ _ _ = _
    rw [or_of (b := false) (S1 := [.lst (pre.map pairD)]) (tnot_of (b := true) (test_of (by
      rw [chain_of (S1 := [.lst (pre.map pairD)]) (S2 := [.lst (pre.map pairD)]) (x := .int p.1) (y := .int p.2) rfl rfl (b := decide (p.1 < p.2)) (S3 := [.lst (pre.map pairD)]) rfl, decide_eq_true hp.2.1]
      show some (D.bl (decide (p.2 < n)), _) = _
      rw [decide_eq_true hp.2.2])))]
    show tAndD _ _ _ _ = _
    rw [and_of (b := !decide (pre = [])) (S1 := [.lst (pre.map pairD)]) (test_of (ne_pairs pre [] [.lst (pre.map pairD)]))]
    rcases List.eq_nil_or_concat pre with rfl | ⟨l, q, rfl⟩
    · rfl
    · rw [if_pos (by simp)]
      refine test_of (bin_of (S1 := [.lst ((l.concat q).map pairD)]) (S2 := [.lst ((l.concat q).map pairD)]) (x := pairD p) (y := pairD q) rfl ?_ ?_)
      · show (atI ((l.concat q).map pairD) (-1)).map _ = _
        rw [List.concat_eq_append, List.map_append, List.map_cons, List.map_nil, atI_last]
        rfl
      · show some (D.bl (leL [p.1, p.2] [q.1, q.2]), _) = _
        have hq := hpre q (by simp)
        unfold ltP at hq
        have : leL [p.1, p.2] [q.1, q.2] = false := by
          show (if p.1 = q.1 then (if p.2 = q.2 then true else decide (p.2 ≤ q.2)) else decide (p.1 ≤ q.1)) = false
          split
          · rw [if_neg (by omega)]
            exact decide_eq_false (by omega)
          · exact decide_eq_false (by omega)
        rw [this]
  refine (seq_nx ((if_f hT).trans rfl)).trans ?_
  refine expr_of (d := .non) ?_
  show (if (pre.map pairD).length ≤ 1000000 then some (D.non, [Cell.lst (pre.map pairD ++ [pairD p])]) else none) = _
  rw [if_pos (by rw [List.length_map]; omega), List.map_append]
  rfl
theorem pieces_run {n : Int} (hn : n ≤ 10) (t h m r : Option D) : ∀ (T pre : List (Int × Int)) (e6 e7 e8 e9 e10 e11 : Option D), Ties n (pre ++ T) → (pre ++ T).length ≤ 1000 →
    ∃ e6' e7' e8' e9' e10' e11', forD (gN 6) bodyP (T.map fun p => D.str (pcT p)) [t, h, m, r, some (.int n), some (.ref 0), e6, e7, e8, e9, e10, e11] [.lst (pre.map pairD)] = some (.nx [t, h, m, r, some (.int n), some (.ref 0), e6', e7', e8', e9', e10', e11'], [.lst ((pre ++ T).map pairD)])
  | [], pre, e6, e7, e8, e9, e10, e11, _, _ => ⟨e6, e7, e8, e9, e10, e11, by rw [List.append_nil]; rfl⟩
  | p :: T, pre, e6, e7, e8, e9, e10, e11, hT, hl => by
    have hp := hT.rng p (by simp)
    have ha := (List.pairwise_append.mp hT.asc).2.2
    obtain ⟨e7', e8', e9', e10', e11', h1⟩ := piece_run (n := n) (p := p) (pre := pre) hn hp (fun q hq => ha q hq p (by simp)) (by simp at hl; omega) t h m r e6 e7 e8 e9 e10 e11
    have e : pre ++ p :: T = (pre ++ [p]) ++ T := by simp
    rw [e] at hT hl ⊢
    obtain ⟨f6, f7, f8, f9, f10, f11, h2⟩ := pieces_run hn t h m r T (pre ++ [p]) (some (.str (pcT p))) e7' e8' e9' e10' e11' hT hl
    refine ⟨f6, f7, f8, f9, f10, f11, ?_⟩
    show ((bodyP [t, h, m, r, some (.int n), some (.ref 0), some (.str (pcT p)), e7, e8, e9, e10, e11] [.lst (pre.map pairD)]).bind _) = _
    rw [h1]
    exact h2
theorem rest_len {n : Int} {T : List (Int × Int)} (hn : n ≤ 10) (hT : Ties n T) : (restT T).length ≤ 4 * T.length := by
  have key : ∀ (x : Str) (ps : List Str), (Str.join SP (x :: ps)).length = x.length + (ps.map (·.length)).sum + ps.length := by
    intro x ps
    induction ps generalizing x with
    | nil => rfl
    | cons p ps ih =>
      show (x ++ SP ++ Str.join SP (p :: ps)).length = _
      rw [app_len, app_len, ih, List.map_cons, List.sum_cons, List.length_cons, show SP.length = 1 by decide +kernel]
      omega
  unfold restT
  rw [join_eq, key, pcs_sum hn hT.rng, List.length_map]
  show 0 + 3 * T.length + T.length ≤ _
  omega
theorem party_run {n : Int} {T : List (Int × Int)} (h0 : 0 ≤ n) (hn : n ≤ 10) (hT : Ties n T) : d_party_of w_natural [.str (lineT n T)] [] = some (.tup [.int n, .ref 0], [.lst (T.map pairD)]) := by
  have hl := hT.len hn
  have hr := rest_len hn hT
  have hll : (lineT n T).length ≤ 1000 := by
    rw [line_split, app_len, app_len, show CO.length = 1 by decide +kernel]
    have := (num_people h0 hn).2.2
    omega
  have hP : (fPart (fVar 0) (fC (.str CO))) [some (.str (lineT n T)), none, none, none, none, none, none, none, none, none, none, none] [] = some (.tup [.str (numS n), .str CO, .str (restT T)], []) := by
    show (if (CO.length == 0) = false ∧ (lineT n T).length ≤ 16777216 then some (D.tup [.str (Txt.partition (lineT n T) CO).1, .str (Txt.partition (lineT n T) CO).2.1, .str (Txt.partition (lineT n T) CO).2.2], []) else none) = _
    rw [if_pos ⟨by decide +kernel, by omega⟩, line_part h0 hn]
  refine run_of ?_
  refine (seq_nx rfl).trans ?_
  refine (seq_nx (env' := [some (.str (lineT n T)), some (.str (numS n)), some (.str CO), some (.str (restT T)), none, none, none, none, none, none, none, none]) (S1 := []) (asg_of hP rfl)).trans ?_
  have hQ : (sPar 4 5 (fCons (fCall w_natural (fCons (fVar 1) (fCons (fC (.int 2)) fNil))) (fCons (fLstM fNil) fNil))) [some (.str (lineT n T)), some (.str (numS n)), some (.str CO), some (.str (restT T)), none, none, none, none, none, none, none, none] [] = some (.nx [some (.str (lineT n T)), some (.str (numS n)), some (.str CO), some (.str (restT T)), some (.int n), some (.ref 0), none, none, none, none, none, none], [.lst []]) := by
    show ((w_natural [.str (numS n), .int 2] []).bind _ |>.bind _) = _
    rw [natural_people h0 hn]
    rfl
  refine (seq_nx hQ).trans ?_
  have hT' : (tOrD (fTest (fBin gEq (fVar 2) (fC (.str "")))) (tOrD (fTest (fBin gIsN (fVar 4) (fC .non))) (tOrD (fTest (fBin gGt (fVar 4) (fC (.int 10)))) (fTest (fBin (gInX true) (fSlX (fVar 3) oNone (oSome (fC (.int 1)))) (fTup (fCons (fC (.str "")) (fCons (fC (.str " ")) fNil)))))))) [some (.str (lineT n T)), some (.str (numS n)), some (.str CO), some (.str (restT T)), some (.int n), some (.ref 0), none, none, none, none, none, none] [.lst []] = some (false, [.lst []]) := by
    rw [or_of (b := false) (S1 := [.lst []]) rfl]
    show tOrD _ _ _ _ = _
    rw [or_of (b := false) (S1 := [.lst []]) rfl]
    show tOrD _ _ _ _ = _
    rw [or_of (b := decide (n > 10)) (S1 := [.lst []]) rfl, decide_eq_false (by omega)]
    refine test_of (bin_of (S1 := [.lst []]) (S2 := [.lst []]) (x := .str (cutS (restT T) none (some 1))) (y := .tup [.str "", .str " "]) ?_ rfl ?_)
    · show (if (restT T).length ≤ 16777216 then some (D.str (cutS (restT T) none (some 1)), [Cell.lst []]) else none) = _
      rw [if_pos (by omega)]
    · rcases rest_cut T with e | e <;> rw [e] <;> rfl
  refine (seq_nx ((if_f hT').trans rfl)).trans ?_
  have hF : (iLst (fSlX (fSplit (fVar 3) (fC (.str SP))) (oSome (fC (.int 1))) oNone)) [some (.str (lineT n T)), some (.str (numS n)), some (.str CO), some (.str (restT T)), some (.int n), some (.ref 0), none, none, none, none, none, none] [.lst []] = some (T.map (fun p => D.str (pcT p)), [.lst []]) := by
    have hS : (fSplit (fVar 3) (fC (.str SP))) [some (.str (lineT n T)), some (.str (numS n)), some (.str CO), some (.str (restT T)), some (.int n), some (.ref 0), none, none, none, none, none, none] [.lst []] = some (.lst (((⟨#[]⟩ : Str) :: T.map pcT).map D.str), [.lst []]) := by
      show (if (SP.length == 0) = false ∧ (restT T).length + 2 ≤ 16777216 then some (D.lst ((Txt.split (restT T) SP).map D.str), [Cell.lst []]) else none) = _
      rw [if_pos ⟨by decide +kernel, by omega⟩, rest_split hn hT]
    show ((((fSplit (fVar 3) (fC (.str SP))) [some (.str (lineT n T)), some (.str (numS n)), some (.str CO), some (.str (restT T)), some (.int n), some (.ref 0), none, none, none, none, none, none] [.lst []]).bind _).bind _) = _
    rw [hS]
    show some (cutD (((⟨#[]⟩ : Str) :: T.map pcT).map D.str) (some ((1 : Nat) : Int)) none, [Cell.lst []]) = _
    have : cutD (((⟨#[]⟩ : Str) :: T.map pcT).map D.str) (some ((1 : Nat) : Int)) none = T.map fun p => D.str (pcT p) := by
      unfold DL.cutD
      rw [HT.sIx_nat, HT.sIx_none, List.length_map, List.length_cons, List.length_map, Nat.min_eq_left (by omega), List.map_cons, List.drop_succ_cons, List.drop_zero, List.map_map, List.take_of_length_le (by rw [List.length_map]; omega)]
      rfl
    rw [this]
  obtain ⟨f6, f7, f8, f9, f10, f11, h2⟩ := pieces_run hn (some (.str (lineT n T))) (some (.str (numS n))) (some (.str CO)) (some (.str (restT T))) T [] none none none none none none hT (by simp; omega)
  refine (seq_nx (for_of hF h2)).trans ?_
  rfl
theorem noRefs_pairs : ∀ T : List (Int × Int), noRefs (T.map pairD) = true
  | [] => rfl
  | p :: T => by
    show (true && noRefs (T.map pairD)) = true
    rw [noRefs_pairs T]
    rfl
theorem party_eq {n : Int} {T : List (Int × Int)} (h0 : 0 ≤ n) (hn : n ≤ 10) (hT : Ties n T) (S : Sto) : w_party_of [.str (lineT n T)] S = some (.tup [.int n, .lst (T.map pairD)], S) := by
  refine pure_eq rfl (party_run h0 hn hT) ?_
  have e : thaw [.lst (T.map pairD)] 4 (.ref 0) = some (.lst (T.map pairD)) := by
    show (mapO (thaw [.lst (T.map pairD)] 3) (T.map pairD)).map _ = _
    rw [mapO_noref (thaw_noref 3) (noRefs_pairs T)]
    rfl
  show (((thaw [.lst (T.map pairD)] 4 (.ref 0)).bind _).map _).map _ = _
  rw [e]
  rfl
end LW

namespace LW
open PySem PySem.Spec L2 TL DL
open PyProof.Rows hiding pairD
/-! # rows of people, judged twice -/
def pk : D → Bool
  | .int _ => true
  | .bl _ => true
  | .non => true
  | .str _ => true
  | .tup _ => true
  | .lst _ => true
  | .dct _ _ => true
  | _ => false
def Paper (d : D) : Prop := pk d = true ∧ ∀ ds, d = .tup ds → (∀ x ∈ ds, pk x = true) ∧ ds.length ≤ 1000
def btw (lo hi : Int) : D → Bool
  | .int x => decide (lo ≤ x) && decide (x ≤ hi)
  | _ => false
theorem is_between_eq {d : D} (h : pk d = true) (lo hi : Int) (S : Sto) : w_is_between [d, .int lo, .int hi] S = some (.bl (btw lo hi d), S) := by
  cases d with
  | int x =>
    refine run_of (ret_of ?_)
    show fChain gLeX gLeX (fVar 1) (fVar 0) (fVar 2) [some (.int x), some (.int lo), some (.int hi)] S = _
    rw [chain_of (S1 := S) (S2 := S) (x := .int lo) (y := .int x) rfl rfl (b := decide (lo ≤ x)) (S3 := S) rfl]
    show _ = some (D.bl (decide (lo ≤ x) && decide (x ≤ hi)), S)
    cases decide (lo ≤ x) <;> rfl
  | bl b => rfl
  | non => rfl
  | str x => rfl
  | tup x => rfl
  | lst x => rfl
  | dct x y => rfl
  | _ => cases h
theorem law_is_eq {d : D} (h : pk d = true) (lo hi : Int) (S : Sto) : w__law_is [d, .int lo, .int hi] S = some (.bl (btw lo hi d), S) := by
  cases d with
  | int x =>
    refine run_of (ret_of ?_)
    have : btw lo hi (.int x) = (decide (lo ≤ x) && decide (x ≤ hi)) := rfl
    rw [this]
    show fAnd (fBin gLeX (fVar 1) (fVar 0)) (fBin gLeX (fVar 0) (fVar 2)) [some (.int x), some (.int lo), some (.int hi)] S = _
    show (match D.bl (decide (lo ≤ x)) with | .bl true => some (D.bl (decide (x ≤ hi)), S) | .bl false => some (D.bl false, S) | _ => none) = _
    cases decide (lo ≤ x) <;> rfl
  | bl b => rfl
  | non => rfl
  | str x => rfl
  | tup x => rfl
  | lst x => rfl
  | dct x y => rfl
  | _ => cases h
theorem all_flat : ∀ xs : List Int, (xs.map D.int).all flatD = true
  | [] => rfl
  | x :: xs => by
    show (true && (xs.map D.int).all flatD) = true
    rw [all_flat xs]
    rfl
theorem in_ints (x : Int) (xs : List Int) (S : Sto) : gInX false (.int x) (.tup (xs.map D.int)) S = some (.bl (decide (x ∈ xs)), S) := by
  have e : gInB false (.int x) (.tup (xs.map D.int)) S = some (.bl (decide (x ∈ xs)), S) := by
    show (if flatD (.int x) = true ∧ (xs.map D.int).all flatD = true then some (D.bl ((xs.map D.int).any fun z => eqF z (.int x)), S) else none) = _
    rw [if_pos ⟨rfl, all_flat xs⟩]
    have : ((xs.map D.int).any fun z => eqF z (.int x)) = decide (x ∈ xs) := by
      rw [List.any_map, Bool.eq_iff_iff]
      simp only [List.any_eq_true, Function.comp, decide_eq_true_eq]
      constructor
      · rintro ⟨y, h1, h2⟩
        have : y = x := by simpa [eqF] using h2
        exact this ▸ h1
      · intro h
        exact ⟨x, h, by simp [eqF]⟩
    rw [this]
  unfold gInX
  rw [e]
def Good (n : Int) (ds : List D) : Prop := ∃ xs : List Int, ds = xs.map D.int ∧ Row n xs
def goodB (n : Int) (pre : List Int) : D → Bool
  | .int x => (decide (0 ≤ x) && decide (x ≤ n - 1)) && !decide (x ∈ pre)
  | _ => false
theorem ints_inj : ∀ a b : List Int, a.map D.int = b.map D.int → a = b
  | [], [], _ => rfl
  | [], _ :: _, h => by cases h
  | _ :: _, [], h => by cases h
  | x :: a, y :: b, h => by
    have h1 := List.cons.inj h
    rw [ints_inj a b h1.2, D.int.inj h1.1]
theorem good_step {n : Int} {ds : List D} {i : Nat} {d : D} {pre : List Int} (hd : ds[i]? = some d) (hp : ds.take i = pre.map D.int) (hr : Row n pre) : (goodB n pre d = true → ∃ pre', ds.take (i + 1) = pre'.map D.int ∧ Row n pre') ∧ (goodB n pre d = false → ¬ Good n ds) := by
  have ht : ds.take (i + 1) = ds.take i ++ [d] := by
    obtain ⟨hi, e⟩ := List.getElem?_eq_some_iff.mp hd
    rw [List.take_succ_eq_append_getElem hi, e]
  constructor
  · intro h
    cases d with
    | int x =>
      have h : ((decide (0 ≤ x) && decide (x ≤ n - 1)) && !decide (x ∈ pre)) = true := h
      simp only [Bool.and_eq_true, decide_eq_true_eq, Bool.not_eq_true', decide_eq_false_iff_not] at h
      refine ⟨pre ++ [x], by rw [ht, hp]; simp, ?_, ?_⟩
      · rw [List.nodup_append]
        refine ⟨hr.nd, by simp, ?_⟩
        intro a ha b hb e
        simp at hb
        subst hb; subst e
        exact h.2 ha
      · intro y hy
        rcases List.mem_append.mp hy with hy | hy
        · exact hr.rng y hy
        · simp at hy; subst hy; omega
    | _ => cases h
  · rintro h ⟨xs, rfl, hx⟩
    have e1 : (xs.map D.int).take i = (xs.take i).map D.int := List.map_take.symm
    rw [e1] at hp
    have hpre := ints_inj _ _ hp
    rw [List.getElem?_map] at hd
    obtain ⟨x, hx1, rfl⟩ := Option.map_eq_some_iff.mp hd
    have h : ((decide (0 ≤ x) && decide (x ≤ n - 1)) && !decide (x ∈ pre)) = false := h
    have r := hx.rng x (List.mem_of_getElem? hx1)
    have nin : x ∉ pre := by
      rw [← hpre]
      intro hm
      have nd := hx.nd
      rw [← List.take_append_drop i xs, List.nodup_append] at nd
      refine nd.2.2 x hm x ?_ rfl
      obtain ⟨hi, e⟩ := List.getElem?_eq_some_iff.mp hx1
      rw [List.drop_eq_getElem_cons hi, e]
      exact List.mem_cons_self ..
    rw [decide_eq_true r.1, decide_eq_true (show x ≤ n - 1 by omega), decide_eq_false nin] at h
    cases h
theorem cut_take {ds : List D} {i : Nat} (h : i ≤ ds.length) : DL.cutD ds none (some (i : Int)) = ds.take i := by
  unfold DL.cutD
  rw [HT.sIx_nat, HT.sIx_none, List.drop_zero, Nat.min_eq_left h, Nat.sub_zero]
theorem are_people_eq {ds : List D} (n : Int) (hk : ∀ x ∈ ds, pk x = true) (S : Sto) : R (w_are_people [.tup ds, .int n] S) fun r S' => S' = S ∧ (r = .bl true ∧ Good n ds ∨ r = .bl false ∧ ¬ Good n ds) := by
  show R (runD 4 (b_are_people w_is_between) [.tup ds, .int n] S) _
  rw [wp_Run]
  show R (b_are_people w_is_between [some (.tup ds), some (.int n), none, none] S) _
  unfold b_are_people
  rw [wp_Seq]
  refine ⟨.nx [some (.tup ds), some (.int n), none, none], S, rfl, ?_⟩
  show R (sSeq _ _ [some (.tup ds), some (.int n), none, none] S) _
  rw [wp_Seq]
  refine r_for (items := enumD 0 ds) (S1 := S) rfl (fun i env S' => S' = S ∧ (∃ pre, ds.take i = pre.map D.int ∧ Row n pre) ∧ ∃ e2 e3, env = [some (.tup ds), some (.int n), e2, e3]) ?_ ?_ ?_
  · exact ⟨rfl, ⟨[], rfl, List.nodup_nil, fun x hx => by cases hx⟩, none, none, rfl⟩
  · rintro i d env S' hi ⟨rfl, ⟨pre, hp, hr⟩, e2, e3, rfl⟩
    rw [enumD_get] at hi
    obtain ⟨x, hx, rfl⟩ := Option.map_eq_some_iff.mp hi
    have hil : i < ds.length := (List.getElem?_eq_some_iff.mp hx).1
    have hkx := hk x (List.mem_of_getElem? hx)
    rw [Nat.zero_add]
    refine ⟨[some (.tup ds), some (.int n), some (.int (i : Int)), some x], S', rfl, ?_⟩
    have hs := good_step hx hp hr
    have e1 : (tNotD (fTest (fCall w_is_between (fCons (fVar 3) (fCons (fC (.int 0)) (fCons (fBin gSubI (fVar 1) (fC (.int 1))) fNil)))))) [some (.tup ds), some (.int n), some (.int (i : Int)), some x] S' = some (!btw 0 (n - 1) x, S') := by
      refine tnot_of (test_of (call_of (S1 := S') (ds := [x, .int 0, .int (n - 1)]) rfl (is_between_eq hkx _ _ _)))
    have e2' : ∀ y : Int, x = .int y → (fTest (fBin (gInX false) (fVar 3) (fSlX (fVar 0) oNone (oSome (fVar 2))))) [some (.tup ds), some (.int n), some (.int (i : Int)), some x] S' = some (decide (y ∈ pre), S') := by
      rintro y rfl
      refine test_of (bin_of (S1 := S') (S2 := S') (x := .int y) (y := .tup (pre.map D.int)) rfl ?_ (in_ints _ _ _))
      show some (D.tup (DL.cutD ds none (some (i : Int))), S') = _
      rw [cut_take (by omega), hp]
    have e3' : (tOrD (tNotD (fTest (fCall w_is_between (fCons (fVar 3) (fCons (fC (.int 0)) (fCons (fBin gSubI (fVar 1) (fC (.int 1))) fNil)))))) (fTest (fBin (gInX false) (fVar 3) (fSlX (fVar 0) oNone (oSome (fVar 2)))))) [some (.tup ds), some (.int n), some (.int (i : Int)), some x] S' = some (!goodB n pre x, S') := by
      rw [or_of e1]
      cases x with
      | int y =>
        rw [e2' y rfl]
        show (if (!(decide (0 ≤ y) && decide (y ≤ n - 1))) = true then _ else _) = some (!((decide (0 ≤ y) && decide (y ≤ n - 1)) && !decide (y ∈ pre)), S')
        cases (decide (0 ≤ y) && decide (y ≤ n - 1)) <;> cases decide (y ∈ pre) <;> rfl
      | _ => rfl
    cases hg : goodB n pre x with
    | true =>
      rw [hg] at e3'
      refine ⟨_, _, (if_f e3').trans rfl, ?_⟩
      exact ⟨rfl, hs.1 hg, _, _, rfl⟩
    | false =>
      rw [hg] at e3'
      refine ⟨_, _, (if_t e3').trans rfl, ?_⟩
      exact ⟨rfl, Or.inr ⟨rfl, hs.2 hg⟩⟩
  · rintro env S' ⟨rfl, ⟨pre, hp, hr⟩, e2, e3, rfl⟩
    rw [enumD_len, List.take_length] at hp
    exact ⟨_, _, rfl, rfl, Or.inl ⟨rfl, pre, hp, hr⟩⟩
theorem range_len (n : Nat) : (rangeD 0 (n : Int)).length = n := by
  unfold rangeD
  rw [List.length_map, List.length_range]
  omega
theorem range_get {n i : Nat} {d : D} (h : (rangeD 0 (n : Int))[i]? = some d) : i < n ∧ d = .int (i : Int) := by
  have hi := (List.getElem?_eq_some_iff.mp h).1
  rw [range_len] at hi
  unfold rangeD at h
  rw [List.getElem?_map, List.getElem?_range (by omega)] at h
  have h := Option.some.inj h
  exact ⟨hi, h.symm.trans (congrArg D.int (Int.zero_add _))⟩
theorem ok_range {n : Int} (h0 : -1000 ≤ n) (h1 : n ≤ 1000000) : okR n = true := by
  unfold okR
  rw [decide_eq_true (by omega), decide_eq_true (by omega)]
  rfl
theorem len_tup {ds : List D} (h : ds.length ≤ 1000) (S : Sto) : cLen [.tup ds] S = some (.int ds.length, S) := rfl
theorem range1_eq {f : FE} {env : DEnv} {S S1 : Sto} {n : Int} (h : f env S = some (.int n, S1)) (h0 : -1000 ≤ n) (h1 : n ≤ 1000000) : (iRange1 (fCons f fNil)) env S = some (rangeD 0 n, S1) := by
  show ((f env S).bind _ |>.bind _) = _
  rw [h]
  show (if okR n = true then some (rangeD 0 n, S1) else none) = _
  rw [if_pos (ok_range h0 h1)]
theorem law_people_eq {ds : List D} (n : Int) (hl : ds.length ≤ 1000) (hk : ∀ x ∈ ds, pk x = true) (S : Sto) : R (w__law_people [.tup ds, .int n] S) fun r S' => S' = S ∧ (r = .bl true ∧ Good n ds ∨ r = .bl false ∧ ¬ Good n ds) := by
  show R (runD 3 (b__law_people w__law_is) [.tup ds, .int n] S) _
  rw [wp_Run]
  show R (b__law_people w__law_is [some (.tup ds), some (.int n), none] S) _
  unfold b__law_people
  rw [wp_Seq]
  refine ⟨.nx [some (.tup ds), some (.int n), none], S, rfl, ?_⟩
  show R (sSeq _ _ [some (.tup ds), some (.int n), none] S) _
  rw [wp_Seq]
  have hF : (iRange1 (fCons (fCall cLen (fCons (fVar 0) fNil)) fNil)) [some (.tup ds), some (.int n), none] S = some (rangeD 0 ds.length, S) := by
    exact range1_eq (call_of (S1 := S) (ds := [.tup ds]) rfl (len_tup hl S)) (by omega) (by omega)
  refine r_for (items := rangeD 0 ds.length) (S1 := S) hF (fun i env S' => S' = S ∧ (∃ pre, ds.take i = pre.map D.int ∧ Row n pre) ∧ ∃ e2, env = [some (.tup ds), some (.int n), e2]) ?_ ?_ ?_
  · exact ⟨rfl, ⟨[], rfl, List.nodup_nil, fun x hx => by cases hx⟩, none, rfl⟩
  · rintro i d env S' hi ⟨rfl, ⟨pre, hp, hr⟩, e2, rfl⟩
    obtain ⟨hil, rfl⟩ : i < ds.length ∧ d = .int (i : Int) := by
      exact range_get hi
    obtain ⟨x, hx⟩ : ∃ x, ds[i]? = some x := ⟨_, List.getElem?_eq_getElem hil⟩
    have hkx := hk x (List.mem_of_getElem? hx)
    refine ⟨[some (.tup ds), some (.int n), some (.int (i : Int))], S', rfl, ?_⟩
    have hs := good_step hx hp hr
    have e0 : (fBin gIx (fVar 0) (fVar 2)) [some (.tup ds), some (.int n), some (.int (i : Int))] S' = some (x, S') := by
      refine bin_of (S1 := S') (S2 := S') (x := .tup ds) (y := .int (i : Int)) rfl rfl ?_
      show (atI ds (i : Int)).map _ = _
      rw [atI_nat hx]
      rfl
    have e1 : (tNotD (fTest (fCall w__law_is (fCons (fBin gIx (fVar 0) (fVar 2)) (fCons (fC (.int 0)) (fCons (fBin gSubI (fVar 1) (fC (.int 1))) fNil)))))) [some (.tup ds), some (.int n), some (.int (i : Int))] S' = some (!btw 0 (n - 1) x, S') := by
      refine tnot_of (test_of (call_of (S1 := S') (ds := [x, .int 0, .int (n - 1)]) ?_ (law_is_eq hkx _ _ _)))
      show (((fBin gIx (fVar 0) (fVar 2)) [some (.tup ds), some (.int n), some (.int (i : Int))] S').bind _) = _
      rw [e0]
      rfl
    have e2' : ∀ y : Int, x = .int y → (fTest (fBin (gInX false) (fBin gIx (fVar 0) (fVar 2)) (fSlX (fVar 0) oNone (oSome (fVar 2))))) [some (.tup ds), some (.int n), some (.int (i : Int))] S' = some (decide (y ∈ pre), S') := by
      rintro y rfl
      refine test_of (bin_of (S1 := S') (S2 := S') (x := .int y) (y := .tup (pre.map D.int)) e0 ?_ (in_ints _ _ _))
      show some (D.tup (DL.cutD ds none (some (i : Int))), S') = _
      rw [cut_take (by omega), hp]
    have e3' : (tOrD (tNotD (fTest (fCall w__law_is (fCons (fBin gIx (fVar 0) (fVar 2)) (fCons (fC (.int 0)) (fCons (fBin gSubI (fVar 1) (fC (.int 1))) fNil)))))) (fTest (fBin (gInX false) (fBin gIx (fVar 0) (fVar 2)) (fSlX (fVar 0) oNone (oSome (fVar 2)))))) [some (.tup ds), some (.int n), some (.int (i : Int))] S' = some (!goodB n pre x, S') := by
      rw [or_of e1]
      cases x with
      | int y =>
        rw [e2' y rfl]
        show (if (!(decide (0 ≤ y) && decide (y ≤ n - 1))) = true then _ else _) = some (!((decide (0 ≤ y) && decide (y ≤ n - 1)) && !decide (y ∈ pre)), S')
        cases (decide (0 ≤ y) && decide (y ≤ n - 1)) <;> cases decide (y ∈ pre) <;> rfl
      | _ => rfl
    cases hg : goodB n pre x with
    | true =>
      rw [hg] at e3'
      refine ⟨_, _, (if_f e3').trans rfl, ?_⟩
      exact ⟨rfl, hs.1 hg, _, rfl⟩
    | false =>
      rw [hg] at e3'
      refine ⟨_, _, (if_t e3').trans rfl, ?_⟩
      exact ⟨rfl, Or.inr ⟨rfl, hs.2 hg⟩⟩
  · rintro env S' ⟨rfl, ⟨pre, hp, hr⟩, e2, rfl⟩
    rw [show (rangeD 0 (ds.length : Int)).length = ds.length from range_len _, List.take_length] at hp
    exact ⟨_, _, rfl, rfl, Or.inl ⟨rfl, pre, hp, hr⟩⟩
end LW

namespace LW
open PySem PySem.Spec L2 TL DL
open PyProof.Rows hiding pairD
/-! # pairs, renamings -/
def pairsL (n : Int) : List (Int × Int) := (List.range n.toNat).flatMap fun a => (List.range (n.toNat - a - 1)).map fun (k : Nat) => ((a : Int), (a : Int) + 1 + (k : Int))
theorem mem_pairs {n : Int} {p : Int × Int} : p ∈ pairsL n ↔ 0 ≤ p.1 ∧ p.1 < p.2 ∧ p.2 < n := by
  unfold pairsL
  rw [List.mem_flatMap]
  constructor
  · rintro ⟨a, ha, hp⟩
    rw [List.mem_map] at hp
    obtain ⟨k, hk, rfl⟩ := hp
    rw [List.mem_range] at ha hk
    show 0 ≤ (a : Int) ∧ (a : Int) < (a : Int) + 1 + k ∧ (a : Int) + 1 + k < n
    omega
  · intro h
    refine ⟨p.1.toNat, List.mem_range.mpr (by omega), List.mem_map.mpr ⟨(p.2 - p.1 - 1).toNat, List.mem_range.mpr (by omega), ?_⟩⟩
    refine Prod.ext ?_ ?_
    · show ((p.1.toNat : Nat) : Int) = p.1
      omega
    · show ((p.1.toNat : Nat) : Int) + 1 + (((p.2 - p.1 - 1).toNat : Nat) : Int) = p.2
      omega
theorem pairs_eq {n : Int} (h0 : 0 ≤ n) (hn : n ≤ 10) (S : Sto) : w__law_pairs [.int n] S = some (.lst ((pairsL n).map pairD), S) := by
  have : n = 0 ∨ n = 1 ∨ n = 2 ∨ n = 3 ∨ n = 4 ∨ n = 5 ∨ n = 6 ∨ n = 7 ∨ n = 8 ∨ n = 9 ∨ n = 10 := by omega
  rcases this with rfl | rfl | rfl | rfl | rfl | rfl | rfl | rfl | rfl | rfl | rfl <;> kernel_rfl
theorem pairs_len {n : Int} (h0 : 0 ≤ n) (hn : n ≤ 10) : (pairsL n).length ≤ 45 := by
  have : n = 0 ∨ n = 1 ∨ n = 2 ∨ n = 3 ∨ n = 4 ∨ n = 5 ∨ n = 6 ∨ n = 7 ∨ n = 8 ∨ n = 9 ∨ n = 10 := by omega
  rcases this with rfl | rfl | rfl | rfl | rfl | rfl | rfl | rfl | rfl | rfl | rfl <;> decide +kernel
theorem tie_eq (a b : Int) (S : Sto) : w__law_tie [.int a, .int b] S = some (pairD (min a b, max a b), S) := by
  have e : pairD (min a b, max a b) = .tup [.int (if b < a then b else a), .int (if a < b then b else a)] := by
    have e1 : min a b = if b < a then b else a := by split <;> omega
    have e2 : max a b = if a < b then b else a := by split <;> omega
    show D.tup [.int (min a b), .int (max a b)] = _
    rw [e1, e2]
  rw [e]
  rfl
theorem ix_row {xs : List Int} {n i : Int} (hl : (xs.length : Int) = n) (h0 : 0 ≤ i) (h1 : i < n) (S : Sto) : gIx (.tup (xs.map D.int)) (.int i) S = some (.int (sg xs i), S) := by
  obtain ⟨k, rfl⟩ := Int.eq_ofNat_of_zero_le h0
  have h := sg_get hl h0 h1
  rw [Int.toNat_natCast] at h
  show (atI (xs.map D.int) (k : Int)).map _ = _
  rw [atI_nat (v := .int (sg xs k)) (by rw [List.getElem?_map, h]; rfl)]
  rfl
theorem ix_rowL {xs : List Int} {n i : Int} (hl : (xs.length : Int) = n) (h0 : 0 ≤ i) (h1 : i < n) (S : Sto) : gIx (.lst (xs.map D.int)) (.int i) S = some (.int (sg xs i), S) := by
  obtain ⟨k, rfl⟩ := Int.eq_ofNat_of_zero_le h0
  have h := sg_get hl h0 h1
  rw [Int.toNat_natCast] at h
  show (atI (xs.map D.int) (k : Int)).map _ = _
  rw [atI_nat (v := .int (sg xs k)) (by rw [List.getElem?_map, h]; rfl)]
  rfl
/-- the checker's renaming -/
theorem renamed_eq {n : Int} {T : List (Int × Int)} {xs : List Int} (hn : n ≤ 10) (hT : Ties n T) (hl : (xs.length : Int) = n) (S : Sto) : w_renamed [.lst (T.map pairD), .tup (xs.map D.int)] S = some (.lst ((renL xs T).map pairD), S) := by
  have hlen := hT.len hn
  refine run_of (ret_of (call_of (S1 := S) (ds := [.lst ((T.map (tieP xs)).map pairD)]) ?_ (sorted_pairs _ _ (by rw [List.length_map]; omega))))
  have e : (fLc (iLst (fVar 0)) (gTup 2 (gCons (gN 2) (gCons (gN 3) gNil))) tYesD (fTup (fCons (fCall cMin2 (fCons (fBin gIx (fVar 1) (fVar 2)) (fCons (fBin gIx (fVar 1) (fVar 3)) fNil))) (fCons (fCall cMax2 (fCons (fBin gIx (fVar 1) (fVar 2)) (fCons (fBin gIx (fVar 1) (fVar 3)) fNil))) fNil))) [2, 3]) [some (.lst (T.map pairD)), some (.tup (xs.map D.int)), none, none] S = some (.lst ((T.map (tieP xs)).map pairD), S) := by
    show (if (T.map pairD).length ≤ 1000000 then (lcD _ _ _ [some (.lst (T.map pairD)), some (.tup (xs.map D.int)), none, none] (T.map pairD) S).bind _ else none) = _
    rw [if_pos (by rw [List.length_map]; omega), lc_map pairD (fun p => pairD (tieP xs p)) (fun p hp => ?_)]
    · rw [List.map_map]
      rfl
    · have r := hT.rng p hp
      refine ⟨[some (.lst (T.map pairD)), some (.tup (xs.map D.int)), some (.int p.1), some (.int p.2)], rfl, rfl, ?_⟩
      have i1 := ix_row (i := p.1) hl (by omega) (by omega) S
      have i2 := ix_row (i := p.2) hl (by omega) (by omega) S
      have a : (fCons (fBin gIx (fVar 1) (fVar 2)) (fCons (fBin gIx (fVar 1) (fVar 3)) fNil)) [some (.lst (T.map pairD)), some (.tup (xs.map D.int)), some (.int p.1), some (.int p.2)] S = some ([.int (sg xs p.1), .int (sg xs p.2)], S) := by
        show ((gIx (.tup (xs.map D.int)) (.int p.1) S).bind _) = _
        rw [i1]
        show ((gIx (.tup (xs.map D.int)) (.int p.2) S).bind _ |>.bind _) = _
        rw [i2]
        rfl
      show ((((fCons (fBin gIx (fVar 1) (fVar 2)) (fCons (fBin gIx (fVar 1) (fVar 3)) fNil)) [some (.lst (T.map pairD)), some (.tup (xs.map D.int)), some (.int p.1), some (.int p.2)] S).bind _).bind _ |>.bind _) = _
      rw [a]
      show (((((fCons (fBin gIx (fVar 1) (fVar 2)) (fCons (fBin gIx (fVar 1) (fVar 3)) fNil)) [some (.lst (T.map pairD)), some (.tup (xs.map D.int)), some (.int p.1), some (.int p.2)] S).bind _).bind _ |>.bind _) |>.bind _) = _
      rw [a]
      have e : pairD (tieP xs p) = .tup [.int (if sg xs p.2 < sg xs p.1 then sg xs p.2 else sg xs p.1), .int (if sg xs p.1 < sg xs p.2 then sg xs p.2 else sg xs p.1)] := by
        have e1 : min (sg xs p.1) (sg xs p.2) = if sg xs p.2 < sg xs p.1 then sg xs p.2 else sg xs p.1 := by split <;> omega
        have e2 : max (sg xs p.1) (sg xs p.2) = if sg xs p.1 < sg xs p.2 then sg xs p.2 else sg xs p.1 := by split <;> omega
        show D.tup [.int (min (sg xs p.1) (sg xs p.2)), .int (max (sg xs p.1) (sg xs p.2))] = _
        rw [e1, e2]
      show _ = some (pairD (tieP xs p), S)
      rw [e]
      rfl
  show (((fLc _ _ _ _ _) [some (.lst (T.map pairD)), some (.tup (xs.map D.int)), none, none] S).bind _) = _
  rw [e]
  rfl
end LW

namespace LW
open PySem PySem.Spec L2 TL DL
open PyProof.Rows hiding pairD
/-! # one tie more or less; what is due; what is accepted -/
theorem law_renamed_eq {n : Int} {T : List (Int × Int)} {xs : List Int} (hn : n ≤ 10) (hT : Ties n T) (hl : (xs.length : Int) = n) (S : Sto) : w__law_renamed [.lst (T.map pairD), .lst (xs.map D.int)] S = some (.lst ((renL xs T).map pairD), S) := by
  have hlen := hT.len hn
  refine run_of (ret_of (call_of (S1 := S) (ds := [.lst ((T.map (tieP xs)).map pairD)]) ?_ (sorted_pairs _ _ (by rw [List.length_map]; omega))))
  have e : (fLc (iLst (fVar 0)) (gTup 2 (gCons (gN 2) (gCons (gN 3) gNil))) tYesD (fCall w__law_tie (fCons (fBin gIx (fVar 1) (fVar 2)) (fCons (fBin gIx (fVar 1) (fVar 3)) fNil))) [2, 3]) [some (.lst (T.map pairD)), some (.lst (xs.map D.int)), none, none] S = some (.lst ((T.map (tieP xs)).map pairD), S) := by
    show (if (T.map pairD).length ≤ 1000000 then (lcD _ _ _ [some (.lst (T.map pairD)), some (.lst (xs.map D.int)), none, none] (T.map pairD) S).bind _ else none) = _
    rw [if_pos (by rw [List.length_map]; omega), lc_map pairD (fun p => pairD (tieP xs p)) (fun p hp => ?_)]
    · rw [List.map_map]
      rfl
    · have r := hT.rng p hp
      refine ⟨[some (.lst (T.map pairD)), some (.lst (xs.map D.int)), some (.int p.1), some (.int p.2)], rfl, rfl, ?_⟩
      have i1 := ix_rowL (i := p.1) hl (by omega) (by omega) S
      have i2 := ix_rowL (i := p.2) hl (by omega) (by omega) S
      refine call_of (S1 := S) (ds := [.int (sg xs p.1), .int (sg xs p.2)]) ?_ (tie_eq _ _ S)
      show ((gIx (.lst (xs.map D.int)) (.int p.1) S).bind _) = _
      rw [i1]
      show ((gIx (.lst (xs.map D.int)) (.int p.2) S).bind _ |>.bind _) = _
      rw [i2]
      rfl
  show (((fLc _ _ _ _ _) [some (.lst (T.map pairD)), some (.lst (xs.map D.int)), none, none] S).bind _) = _
  rw [e]
  rfl
theorem in_pairsR (p : Int × Int) (T : List (Int × Int)) (S : Sto) {d : D} (hd : lstOf S d = some (T.map pairD)) : gInX false (pairD p) d S = some (.bl (decide (p ∈ T)), S) := by
  have h := in_pairs false p T S
  cases d with
  | lst ds =>
    cases hd
    exact h
  | ref k =>
    unfold gInX at h ⊢
    rw [gInB_pairs] at h
    show ((lstOf S (.ref k)).bind _) = _
    rw [hd]
    exact h
  | _ => cases hd
theorem flipped_eq {n : Int} {T : List (Int × Int)} (hn : n ≤ 10) (hT : Ties n T) (p : Int × Int) (S : Sto) {d : D} (hd : lstOf S d = some (T.map pairD)) : w__law_flipped [d, pairD p] S = some (.lst ((flipL T p).map pairD), S) := by
  have hlen := hT.len hn
  have e1 : (fLc (iRef (fVar 0)) (gN 2) (fTest (fBin gNe (fVar 2) (fVar 1))) (fVar 2) [2]) [some d, some (pairD p), none] S = some (.lst ((T.filter fun q => !decide (q = p)).map pairD), S) := by
    show ((((lstOf S d).map fun ds => (ds, S)).bind _)) = _
    rw [hd]
    show (if (T.map pairD).length ≤ 1000000 then (lcD _ _ _ [some d, some (pairD p), none] (T.map pairD) S).bind _ else none) = _
    rw [if_pos (by rw [List.length_map]; omega), lc_filter pairD pairD (fun q => !decide (q = p)) (fun q hq => ?_)]
    · rfl
    · exact ⟨[some d, some (pairD p), some (pairD q)], rfl, test_of (ne_pair q p S), rfl⟩
  have e2 : (fIf (fTest (fBin (gInX false) (fVar 1) (fVar 0))) (fLst fNil) (fLst (fCons (fVar 1) fNil))) [some d, some (pairD p), none] S = some (.lst ((if p ∈ T then [] else [p]).map pairD), S) := by
    refine if_of (test_of (in_pairsR p T S hd)) ?_
    by_cases h : p ∈ T
    · rw [decide_eq_true h, if_pos h]
      rfl
    · rw [decide_eq_false h, if_neg h]
      rfl
  have hfl : (T.filter fun q => !decide (q = p)).length ≤ T.length := List.length_filter_le _ _
  have hil : (if p ∈ T then ([] : List (Int × Int)) else [p]).length ≤ 1 := by split <;> simp
  refine run_of (ret_of (call_of (S1 := S) (ds := [.lst (((T.filter fun q => !decide (q = p)) ++ if p ∈ T then [] else [p]).map pairD)]) ?_ (sorted_pairs _ _ (by rw [List.length_append]; omega))))
  have e3 : (fBin gAddX (fLc (iRef (fVar 0)) (gN 2) (fTest (fBin gNe (fVar 2) (fVar 1))) (fVar 2) [2]) (fIf (fTest (fBin (gInX false) (fVar 1) (fVar 0))) (fLst fNil) (fLst (fCons (fVar 1) fNil)))) [some d, some (pairD p), none] S = some (.lst (((T.filter fun q => !decide (q = p)) ++ if p ∈ T then [] else [p]).map pairD), S) := by
    refine bin_of e1 e2 ?_
    show (if ((T.filter fun q => !decide (q = p)).map pairD).length + ((if p ∈ T then [] else [p]).map pairD).length ≤ 1000000 then some (D.lst (((T.filter fun q => !decide (q = p)).map pairD) ++ ((if p ∈ T then [] else [p]).map pairD)), S) else none) = _
    rw [if_pos (by rw [List.length_map, List.length_map]; omega), ← List.map_append]
  show (((fBin gAddX _ _) [some d, some (pairD p), none] S).bind _) = _
  rw [e3]
  rfl
/-! ## what is due -/
def Right (n : Int) (T U : List (Int × Int)) (d : D) : Prop := ∃ xs : List Int, d = .tup (xs.map D.int) ∧ Row n xs ∧ (xs.length : Int) = n ∧ renL xs T = U
theorem tup_inj {a b : List D} (h : D.tup a = D.tup b) : a = b := by cases h; rfl
theorem due_eq {n : Int} {T U : List (Int × Int)} (h0 : 0 ≤ n) (hn : n ≤ 10) (hT : Ties n T) (hU : Ties n U) {d : D} (hd : Paper d) (S : Sto) :
    R (w__law_due [.int n, .lst (T.map pairD), .lst (U.map pairD), d] S) fun r S' => S' = S ∧ (r = .bl true ∧ Right n T U d ∨ r = .bl false ∧ ¬ Right n T U d) := by
  show R (runD 6 (b__law_due w__law_pairs w__law_tie w__law_people) [.int n, .lst (T.map pairD), .lst (U.map pairD), d] S) _
  rw [wp_Run]
  show R (b__law_due w__law_pairs w__law_tie w__law_people [some (.int n), some (.lst (T.map pairD)), some (.lst (U.map pairD)), some d, none, none] S) _
  unfold b__law_due
  rw [wp_Seq]
  have hno : (∀ ds, d ≠ .tup ds) → R ((sIf (tOrD (tNotD (fTest (fCall w__law_people (fCons (fVar 3) (fCons (fVar 0) fNil))))) (fTest (fBin gNe (fCall cLen (fCons (fVar 3) fNil)) (fVar 0)))) (sRet (fC (.bl false))) sSkip) [some (.int n), some (.lst (T.map pairD)), some (.lst (U.map pairD)), some d, none, none] S) fun r S' => r = .rt (.bl false) ∧ S' = S := by
    intro h
    refine ⟨.rt (.bl false), S, ?_, rfl, rfl⟩
    have k := hd.1
    cases d with
    | tup ds => exact absurd rfl (h ds)
    | int x => rfl
    | bl x => rfl
    | non => rfl
    | str x => rfl
    | lst x => rfl
    | dct x y => rfl
    | _ => cases k
  by_cases ht : ∃ ds, d = .tup ds
  case neg =>
    obtain ⟨a, S', e, rfl, rfl⟩ := hno fun ds q => ht ⟨ds, q⟩
    refine ⟨_, _, e, rfl, Or.inr ⟨rfl, ?_⟩⟩
    rintro ⟨xs, q, _⟩
    exact ht ⟨_, q⟩
  obtain ⟨ds, rfl⟩ := ht
  obtain ⟨hk, hlen⟩ := hd.2 ds rfl
  obtain ⟨r, S', er, rfl, hr⟩ := law_people_eq n hlen hk S
  have hc : (fTest (fCall w__law_people (fCons (fVar 3) (fCons (fVar 0) fNil)))) [some (.int n), some (.lst (T.map pairD)), some (.lst (U.map pairD)), some (.tup ds), none, none] S' = (match r with | .bl b => some (b, S') | _ => none) := by
    have e : (fCall w__law_people (fCons (fVar 3) (fCons (fVar 0) fNil))) [some (.int n), some (.lst (T.map pairD)), some (.lst (U.map pairD)), some (.tup ds), none, none] S' = some (r, S') := call_of (S1 := S') (ds := [.tup ds, .int n]) rfl er
    rcases hr with ⟨rfl, _⟩ | ⟨rfl, _⟩
    · exact test_of e
    · exact test_of e
  rcases hr with ⟨rfl, xs, rfl, hrow⟩ | ⟨rfl, hbad⟩
  case inr =>
    refine ⟨.rt (.bl false), S', (if_t (S1 := S') ?_).trans rfl, rfl, Or.inr ⟨rfl, ?_⟩⟩
    · rw [or_of (tnot_of hc)]
      rfl
    · rintro ⟨xs, q, hrow, _⟩
      exact hbad ⟨xs, tup_inj q, hrow⟩
  have hne : (fTest (fBin gNe (fCall cLen (fCons (fVar 3) fNil)) (fVar 0))) [some (.int n), some (.lst (T.map pairD)), some (.lst (U.map pairD)), some (.tup (xs.map D.int)), none, none] S' = some (!decide ((xs.length : Int) = n), S') := by
    refine test_of (bin_of (S1 := S') (S2 := S') (x := .int xs.length) (y := .int n) ?_ rfl rfl)
    show some (D.int (xs.map D.int).length, S') = _
    rw [List.length_map]
  have hor : (tOrD (tNotD (fTest (fCall w__law_people (fCons (fVar 3) (fCons (fVar 0) fNil))))) (fTest (fBin gNe (fCall cLen (fCons (fVar 3) fNil)) (fVar 0)))) [some (.int n), some (.lst (T.map pairD)), some (.lst (U.map pairD)), some (.tup (xs.map D.int)), none, none] S' = some (!decide ((xs.length : Int) = n), S') := by
    rw [or_of (tnot_of hc)]
    exact hne
  by_cases hl : (xs.length : Int) = n
  case neg =>
    rw [decide_eq_false hl] at hor
    refine ⟨.rt (.bl false), S', (if_t hor).trans rfl, rfl, Or.inr ⟨rfl, ?_⟩⟩
    rintro ⟨ys, q, hrow, hl2, _⟩
    have := ints_inj _ _ (tup_inj q)
    subst this
    exact hl hl2
  rw [decide_eq_true hl] at hor
  refine ⟨.nx [some (.int n), some (.lst (T.map pairD)), some (.lst (U.map pairD)), some (.tup (xs.map D.int)), none, none], S', (if_f hor).trans rfl, ?_⟩
  show R (sSeq _ _ [some (.int n), some (.lst (T.map pairD)), some (.lst (U.map pairD)), some (.tup (xs.map D.int)), none, none] S') _
  rw [wp_Seq]
  have hF : (iLst (fCall w__law_pairs (fCons (fVar 0) fNil))) [some (.int n), some (.lst (T.map pairD)), some (.lst (U.map pairD)), some (.tup (xs.map D.int)), none, none] S' = some ((pairsL n).map pairD, S') := by
    show ((w__law_pairs [.int n] S').bind _) = _
    rw [pairs_eq h0 hn]
    rfl
  refine r_for (items := (pairsL n).map pairD) (S1 := S') hF (fun i env S2 => S2 = S' ∧ (∀ j p, j < i → (pairsL n)[j]? = some p → (p ∈ T ↔ tieP xs p ∈ U)) ∧ ∃ e4 e5, env = [some (.int n), some (.lst (T.map pairD)), some (.lst (U.map pairD)), some (.tup (xs.map D.int)), e4, e5]) ?_ ?_ ?_
  · exact ⟨rfl, fun j p hj => absurd hj (Nat.not_lt_zero _), none, none, rfl⟩
  · rintro i d env S2 hi ⟨rfl, hsf, e4, e5, rfl⟩
    rw [List.getElem?_map] at hi
    obtain ⟨p, hp, rfl⟩ := Option.map_eq_some_iff.mp hi
    have r := mem_pairs.mp (List.mem_of_getElem? hp)
    refine ⟨[some (.int n), some (.lst (T.map pairD)), some (.lst (U.map pairD)), some (.tup (xs.map D.int)), some (.int p.1), some (.int p.2)], S2, rfl, ?_⟩
    have t1 : (fBin (gInX false) (fTup (fCons (fVar 4) (fCons (fVar 5) fNil))) (fVar 1)) [some (.int n), some (.lst (T.map pairD)), some (.lst (U.map pairD)), some (.tup (xs.map D.int)), some (.int p.1), some (.int p.2)] S2 = some (.bl (decide (p ∈ T)), S2) :=
      bin_of (S1 := S2) (S2 := S2) (x := pairD p) (y := .lst (T.map pairD)) rfl rfl (in_pairs false p T S2)
    have t2 : (fBin (gInX false) (fCall w__law_tie (fCons (fBin gIx (fVar 3) (fVar 4)) (fCons (fBin gIx (fVar 3) (fVar 5)) fNil))) (fVar 2)) [some (.int n), some (.lst (T.map pairD)), some (.lst (U.map pairD)), some (.tup (xs.map D.int)), some (.int p.1), some (.int p.2)] S2 = some (.bl (decide (tieP xs p ∈ U)), S2) := by
      refine bin_of (S1 := S2) (S2 := S2) (x := pairD (tieP xs p)) (y := .lst (U.map pairD)) ?_ rfl (in_pairs false _ U S2)
      refine call_of (S1 := S2) (ds := [.int (sg xs p.1), .int (sg xs p.2)]) ?_ (tie_eq _ _ S2)
      show ((gIx (.tup (xs.map D.int)) (.int p.1) S2).bind _) = _
      rw [ix_row (i := p.1) hl (by omega) (by omega) S2]
      show ((gIx (.tup (xs.map D.int)) (.int p.2) S2).bind _ |>.bind _) = _
      rw [ix_row (i := p.2) hl (by omega) (by omega) S2]
      rfl
    have t3 := test_of (bin_of (g := gNe) (r := (.bl (!(decide (p ∈ T) == decide (tieP xs p ∈ U))), S2)) t1 t2 (by cases decide (p ∈ T) <;> cases decide (tieP xs p ∈ U) <;> rfl))
    by_cases hq : p ∈ T ↔ tieP xs p ∈ U
    · have : (decide (p ∈ T) == decide (tieP xs p ∈ U)) = true := by
        rw [beq_iff_eq]
        exact decide_eq_decide.mpr hq
      rw [this] at t3
      refine ⟨_, _, (if_f t3).trans rfl, rfl, ?_, _, _, rfl⟩
      intro j q hj hq2
      by_cases hji : j = i
      · subst hji
        rw [hp] at hq2
        cases hq2
        exact hq
      · exact hsf j q (by omega) hq2
    · have : (decide (p ∈ T) == decide (tieP xs p ∈ U)) = false := by
        rw [beq_eq_false_iff_ne]
        exact fun e => hq (decide_eq_decide.mp e)
      rw [this] at t3
      refine ⟨_, _, (if_t t3).trans rfl, rfl, Or.inr ⟨rfl, ?_⟩⟩
      rintro ⟨ys, q, _, _, e⟩
      have := ints_inj _ _ (tup_inj q)
      subst this
      exact hq ((ren_due hrow hl hT hU).mp e p r)
  · rintro env S2 ⟨rfl, hsf, e4, e5, rfl⟩
    refine ⟨_, _, rfl, rfl, Or.inl ⟨rfl, xs, rfl, hrow, hl, ?_⟩⟩
    refine (ren_due hrow hl hT hU).mpr fun p hp => ?_
    obtain ⟨j, hj, e⟩ := List.mem_iff_getElem.mp (mem_pairs.mpr hp)
    exact hsf j p (by rw [List.length_map]; exact hj) (by rw [List.getElem?_eq_getElem hj, e])
end LW

namespace LW
open PySem PySem.Spec L2 TL DL
open PyProof.Rows hiding pairD
/-! # what is accepted; a judgement is always right -/
def partyD (n : Int) (T : List (Int × Int)) : D := .tup [.int n, .lst (T.map pairD)]
theorem about_eq {n : Int} {T U : List (Int × Int)} (h0 : 0 ≤ n) (hn : n ≤ 10) (hT : Ties n T) (hU : Ties n U) {d : D} (hd : Paper d) (S : Sto) :
    R (w_is_about_parties [.str "alike", partyD n T, partyD n U, d] S) fun r S' => S' = S ∧ (r = .bl true ∧ Right n T U d ∨ r = .bl false ∧ ¬ Right n T U d) := by
  show R (runD 7 (b_is_about_parties w_renamed w_are_people) [.str "alike", partyD n T, partyD n U, d] S) _
  rw [wp_Run]
  show R (b_is_about_parties w_renamed w_are_people [some (.str "alike"), some (partyD n T), some (partyD n U), some d, none, none, none] S) _
  unfold b_is_about_parties
  rw [wp_Seq]
  have h1 : (tOrD (fTest (fBin gIsN (fVar 1) (fC .non))) (tOrD (fTest (fBin gIsN (fVar 2) (fC .non))) (fTest (fBin gNe (fBin gIx (fVar 1) (fC (.int 0))) (fBin gIx (fVar 2) (fC (.int 0))))))) [some (.str "alike"), some (partyD n T), some (partyD n U), some d, none, none, none] S = some (false, S) := by
    show some (!decide (n = n), S) = _
    rw [decide_eq_true rfl]
    rfl
  refine ⟨.nx [some (.str "alike"), some (partyD n T), some (partyD n U), some d, none, none, none], S, (if_f h1).trans rfl, ?_⟩
  show R (sSeq _ _ [some (.str "alike"), some (partyD n T), some (partyD n U), some d, none, none, none] S) _
  rw [wp_Seq]
  refine ⟨.nx [some (.str "alike"), some (partyD n T), some (partyD n U), some d, some (.int n), some (.lst (T.map pairD)), none], S, rfl, ?_⟩
  show R (sSeq _ _ [some (.str "alike"), some (partyD n T), some (partyD n U), some d, some (.int n), some (.lst (T.map pairD)), none] S) _
  rw [wp_Seq]
  have hno : (∀ ds, d ≠ .tup ds) → R ((sIf (tOrD (tNotD (fTest (fCall w_are_people (fCons (fVar 3) (fCons (fVar 4) fNil))))) (tOrD (fTest (fBin gNe (fCall cLen (fCons (fVar 3) fNil)) (fVar 4))) (fTest (fBin gNe (fCall w_renamed (fCons (fVar 5) (fCons (fVar 3) fNil))) (fBin gIx (fVar 2) (fC (.int 1))))))) (sRet (fC (.bl false))) sSkip) [some (.str "alike"), some (partyD n T), some (partyD n U), some d, some (.int n), some (.lst (T.map pairD)), none] S) fun r S' => r = .rt (.bl false) ∧ S' = S := by
    intro h
    refine ⟨.rt (.bl false), S, ?_, rfl, rfl⟩
    have k := hd.1
    cases d with
    | tup ds => exact absurd rfl (h ds)
    | int x => rfl
    | bl x => rfl
    | non => rfl
    | str x => rfl
    | lst x => rfl
    | dct x y => rfl
    | _ => cases k
  by_cases ht : ∃ ds, d = .tup ds
  case neg =>
    obtain ⟨a, S', e, rfl, rfl⟩ := hno fun ds q => ht ⟨ds, q⟩
    refine ⟨_, _, e, rfl, Or.inr ⟨rfl, ?_⟩⟩
    rintro ⟨xs, q, _⟩
    exact ht ⟨_, q⟩
  obtain ⟨ds, rfl⟩ := ht
  obtain ⟨hk, hlen⟩ := hd.2 ds rfl
  obtain ⟨r, S', er, rfl, hr⟩ := are_people_eq n hk S
  have ec : (fCall w_are_people (fCons (fVar 3) (fCons (fVar 4) fNil))) [some (.str "alike"), some (partyD n T), some (partyD n U), some (.tup ds), some (.int n), some (.lst (T.map pairD)), none] S' = some (r, S') := call_of (S1 := S') (ds := [.tup ds, .int n]) rfl er
  rcases hr with ⟨rfl, xs, rfl, hrow⟩ | ⟨rfl, hbad⟩
  case inr =>
    refine ⟨.rt (.bl false), S', (if_t (S1 := S') ?_).trans rfl, rfl, Or.inr ⟨rfl, ?_⟩⟩
    · rw [or_of (tnot_of (test_of ec))]
      rfl
    · rintro ⟨xs, q, hrow, _⟩
      exact hbad ⟨xs, tup_inj q, hrow⟩
  have hc := tnot_of (test_of ec)
  have hne : (fTest (fBin gNe (fCall cLen (fCons (fVar 3) fNil)) (fVar 4))) [some (.str "alike"), some (partyD n T), some (partyD n U), some (.tup (xs.map D.int)), some (.int n), some (.lst (T.map pairD)), none] S' = some (!decide ((xs.length : Int) = n), S') := by
    refine test_of (bin_of (S1 := S') (S2 := S') (x := .int xs.length) (y := .int n) ?_ rfl rfl)
    show some (D.int (xs.map D.int).length, S') = _
    rw [List.length_map]
  by_cases hl : (xs.length : Int) = n
  case neg =>
    rw [decide_eq_false hl] at hne
    refine ⟨.rt (.bl false), S', (if_t (S1 := S') ?_).trans rfl, rfl, Or.inr ⟨rfl, ?_⟩⟩
    · rw [or_of hc]
      show tOrD _ _ _ _ = _
      rw [or_of hne]
      rfl
    · rintro ⟨ys, q, hrow, hl2, _⟩
      have := ints_inj _ _ (tup_inj q)
      subst this
      exact hl hl2
  rw [decide_eq_true hl] at hne
  have hren : (fTest (fBin gNe (fCall w_renamed (fCons (fVar 5) (fCons (fVar 3) fNil))) (fBin gIx (fVar 2) (fC (.int 1))))) [some (.str "alike"), some (partyD n T), some (partyD n U), some (.tup (xs.map D.int)), some (.int n), some (.lst (T.map pairD)), none] S' = some (!decide (renL xs T = U), S') :=
    test_of (bin_of (S1 := S') (S2 := S') (x := .lst ((renL xs T).map pairD)) (y := .lst (U.map pairD)) (call_of (S1 := S') (ds := [.lst (T.map pairD), .tup (xs.map D.int)]) rfl (renamed_eq hn hT hl S')) rfl (ne_pairs _ _ _))
  have hor : (tOrD (tNotD (fTest (fCall w_are_people (fCons (fVar 3) (fCons (fVar 4) fNil))))) (tOrD (fTest (fBin gNe (fCall cLen (fCons (fVar 3) fNil)) (fVar 4))) (fTest (fBin gNe (fCall w_renamed (fCons (fVar 5) (fCons (fVar 3) fNil))) (fBin gIx (fVar 2) (fC (.int 1))))))) [some (.str "alike"), some (partyD n T), some (partyD n U), some (.tup (xs.map D.int)), some (.int n), some (.lst (T.map pairD)), none] S' = some (!decide (renL xs T = U), S') := by
    rw [or_of hc]
    show tOrD _ _ _ _ = _
    rw [or_of hne]
    exact hren
  by_cases hU2 : renL xs T = U
  case neg =>
    rw [decide_eq_false hU2] at hor
    refine ⟨.rt (.bl false), S', (if_t hor).trans rfl, rfl, Or.inr ⟨rfl, ?_⟩⟩
    rintro ⟨ys, q, hrow, hl2, e⟩
    have := ints_inj _ _ (tup_inj q)
    subst this
    exact hU2 e
  rw [decide_eq_true hU2] at hor
  refine ⟨.nx [some (.str "alike"), some (partyD n T), some (partyD n U), some (.tup (xs.map D.int)), some (.int n), some (.lst (T.map pairD)), none], S', (if_f hor).trans rfl, ?_⟩
  exact ⟨.rt (.bl true), S', seq_rt rfl, rfl, Or.inl ⟨rfl, xs, rfl, hrow, hl, hU2⟩⟩
/-- two parties of different counts are not alike -/
theorem about_ne {n m : Int} {T U : List (Int × Int)} (h : n ≠ m) (d : D) (S : Sto) : w_is_about_parties [.str "alike", partyD n T, partyD m U, d] S = some (.bl false, S) := by
  refine run_of ?_
  refine seq_rt ((if_t (S1 := S) ?_).trans rfl)
  show some (!decide (n = m), S) = _
  rw [decide_eq_false h]
  rfl
theorem accepts_eq {n m : Int} {T U : List (Int × Int)} (h0 : 0 ≤ n) (hn : n ≤ 10) (g0 : 0 ≤ m) (gn : m ≤ 10) (hT : Ties n T) (hU : Ties m U) {d r : D} {S : Sto} (h : w_is_about_parties [.str "alike", partyD n T, partyD m U, d] S = some (r, S)) :
    w_accepts [.tup [.str "alike", .str (lineT n T), .str (lineT m U)], d] S = some (r, S) := by
  refine run_of ?_
  refine (seq_nx rfl).trans ?_
  refine (seq_nx (env' := [some (.tup [.str "alike", .str (lineT n T), .str (lineT m U)]), some d, some (.str "alike"), some (.tup []), none, none]) (S1 := S) rfl).trans ?_
  refine (seq_nx rfl).trans ?_
  refine seq_rt ((if_t (S1 := S) rfl).trans (ret_of (call_of (S1 := S) (ds := [.str "alike", partyD n T, partyD m U, d]) ?_ h)))
  show ((((w_party_of [.str (lineT n T)] S).bind _)).bind _) = _
  rw [party_eq h0 hn hT]
  show (((((w_party_of [.str (lineT m U)] S).bind _)).bind _).bind _) = _
  rw [party_eq g0 gn hU]
  rfl
theorem judged_eq {n : Int} {T U : List (Int × Int)} (h0 : 0 ≤ n) (hn : n ≤ 10) (hT : Ties n T) (hU : Ties n U) {d : D} (hd : Paper d) (S : Sto) : w__law_judged [.int n, .lst (T.map pairD), .lst (U.map pairD), d] S = some (.bl true, S) := by
  obtain ⟨r, S1, e1, rfl, hr⟩ := about_eq h0 hn hT hU hd S
  obtain ⟨q, S2, e2, rfl, hq⟩ := due_eq h0 hn hT hU hd S1
  have hrq : ∃ b, r = .bl b ∧ q = .bl b := by
    rcases hr with ⟨rfl, hr⟩ | ⟨rfl, hr⟩ <;> rcases hq with ⟨rfl, hq⟩ | ⟨rfl, hq⟩
    · exact ⟨_, rfl, rfl⟩
    · exact absurd hr hq
    · exact absurd hq hr
    · exact ⟨_, rfl, rfl⟩
  obtain ⟨b, rfl, rfl⟩ := hrq
  have ea := accepts_eq h0 hn h0 hn hT hU e1
  refine run_of ?_
  refine (seq_nx (env' := [some (.int n), some (.lst (T.map pairD)), some (.lst (U.map pairD)), some d, some (.tup [.str "alike", .str (lineT n T), .str (lineT n U)])]) (S1 := S2) (set_of ?_)).trans ?_
  · show (((((w__law_line [.int n, .lst (T.map pairD)] S2).bind _).bind _)).bind _) = _
    rw [line_eq h0 hn hn hT]
    show ((((((w__law_line [.int n, .lst (U.map pairD)] S2).bind _).bind _)).bind _).bind _) = _
    rw [line_eq h0 hn hn hU]
    rfl
  · refine ret_of (call_of (S1 := S2) (ds := [.tup [.str "alike", .str (lineT n T), .str (lineT n U)], d, .bl b]) ?_ ?_)
    · show (((w__law_due [.int n, .lst (T.map pairD), .lst (U.map pairD), d] S2).bind _).bind _ |>.bind _) = _
      rw [e2]
      rfl
    · refine run_of ?_
      refine (seq_nx (set_of (i := 3) (call_of (S1 := S2) (ds := [.tup [.str "alike", .str (lineT n T), .str (lineT n U)], d]) rfl ea))).trans ?_
      cases b <;> rfl
theorem agrees_ne {n m : Int} {T U : List (Int × Int)} (h : n ≠ m) (h0 : 0 ≤ n) (hn : n ≤ 10) (g0 : 0 ≤ m) (gn : m ≤ 10) (hT : Ties n T) (hU : Ties m U) (d : D) (S : Sto) : w__law_agrees [.tup [.str "alike", .str (lineT n T), .str (lineT m U)], d, .bl false] S = some (.bl true, S) := by
  refine run_of ?_
  refine (seq_nx (set_of (i := 3) (call_of (S1 := S) (ds := [.tup [.str "alike", .str (lineT n T), .str (lineT m U)], d]) rfl (accepts_eq h0 hn g0 gn hT hU (about_ne h d S))))).trans ?_
  rfl
end LW

set_option exponentiation.threshold 2000
namespace LW
open PySem PySem.Spec L2 TL DL
open PyProof.Rows hiding pairD cutD
def MM : Int := 9223372036854775783
/-- the cell at i is a stock: what is left of a great number, a mixed number, at most n mixings -/
def Stk (S : Sto) (i n : Nat) : Prop := ∃ a b c : Int, S[i]? = some (.lst [.int a, .int b, .int c]) ∧ 0 ≤ b ∧ b < MM ∧ 0 ≤ c ∧ c ≤ n
theorem p333 : (2 : Nat) ^ 333 = 17498005798264095394980017816940970922825355447145699491406164851279623993595007385788105416184430592 := by decide
theorem log_of {i : Int} (h : -10000000000000000000000000000000000000000000000000000000000000000000000000000000000000000000000000000 ≤ i) (h2 : i ≤ 10000000000000000000000000000000000000000000000000000000000000000000000000000000000000000000000000000) : i.natAbs.log2 < 333 := by
  refine PySem.Flt.log2_lt_of (by decide) ?_
  rw [p333]
  omega
theorem small_le {i : Int} (h : -10000000000000000000000000000000000000000000000000000000000000000000000000000000000000000000000000000 ≤ i) (h2 : i ≤ 10000000000000000000000000000000000000000000000000000000000000000000000000000000000000000000000000000) : smallI i = true := by
  unfold smallI
  exact decide_eq_true (Nat.lt_of_lt_of_le (log_of h h2) (by decide))
theorem mul_ok {i j : Int} (hi : smallI i = true) (hj : smallI j = true) (S : Sto) : gMul (.int i) (.int j) S = some (.int (i * j), S) := by
  show (if (smallI i && smallI j) = true then _ else _) = _
  rw [hi, hj]
  rfl
theorem fdiv_ok {i j : Int} (h : 0 < j) (hj : j < 10000000000000000000000000000000000000000000000000000000000000000000000000000000000000000000000000000) (S : Sto) : gFdiv (.int i) (.int j) S = some (.int (i / j), S) := by
  show (if (decide (0 < j) && decide (j.natAbs.log2 < 9000)) = true then _ else _) = _
  rw [decide_eq_true h, decide_eq_true (Nat.lt_of_lt_of_le (log_of (i := j) (by omega) (by omega)) (by decide))]
  rfl
theorem mod_ok {i j : Int} (h : 0 < j) (S : Sto) : gMod (.int i) (.int j) S = some (.int (i % j), S) := by
  show (if decide (0 < j) = true then _ else _) = _
  rw [decide_eq_true h]
  rfl
theorem gset_l {S : Sto} {i : Nat} {ds : List D} (h : S[i]? = some (.lst ds)) (j : Nat) (hj : j < ds.length) (v : D) : gSetA (.ref i) (.int (j : Int)) v S = some (S.set i (.lst (ds.set j v))) := by
  unfold gSetA
  simp only [h]
  have : ixN ds.length (j : Int) = some j := by
    unfold ixN
    rw [if_pos (by omega), if_pos (by omega)]
    rfl
  rw [this]
  rfl
theorem gix_l {S : Sto} {i : Nat} {ds : List D} (h : S[i]? = some (.lst ds)) (j : Nat) {v : D} (hj : ds[j]? = some v) : gIx (.ref i) (.int (j : Int)) S = some (v, S) := by
  unfold gIx
  simp only [h]
  rw [atI_nat hj]
  rfl
/-- the other cells are as they were -/
def Apart (S S' : Sto) (i : Nat) : Prop := S'.length = S.length ∧ ∀ j, j ≠ i → S'[j]? = S[j]?
theorem Apart.refl (S : Sto) (i : Nat) : Apart S S i := ⟨rfl, fun _ _ => rfl⟩
theorem Apart.trans {S S1 S2 : Sto} {i : Nat} (a : Apart S S1 i) (b : Apart S1 S2 i) : Apart S S2 i := ⟨b.1.trans a.1, fun j h => (b.2 j h).trans (a.2 j h)⟩
theorem Apart.set (S : Sto) (i : Nat) (c : Cell) : Apart S (S.set i c) i := ⟨by simp, fun j h => by rw [List.getElem?_set_ne (fun e => h e.symm)]⟩
theorem set_at {S : Sto} {i : Nat} {c c' : Cell} (h : S[i]? = some c) : (S.set i c')[i]? = some c' := List.getElem?_set_self (List.getElem?_eq_some_iff.mp h).1
theorem take_ok {S : Sto} {i n : Nat} (h : Stk S i n) (hn : n ≤ 1000000) (m : Int) (hm : 0 < m) (hm2 : m < 10000000000000000000000000000000000000000000000000000000000000000000000000000000000000000000000000000) :
    ∃ r S', d__law_take [.ref i, .int m] S = some (.int r, S') ∧ 0 ≤ r ∧ r < m ∧ Stk S' i (n + 1) ∧ Apart S S' i := by
  obtain ⟨a, b, c, hc, hb, hb2, hc0, hcn⟩ := h
  have ix0 : ∀ env : DEnv, env[0]? = some (some (.ref i)) → (fBin gIx (fVar 0) (fC (.int 0))) env S = some (.int a, S) := fun env he => bin_of (S1 := S) (x := .ref i) (by unfold fVar; rw [he]) rfl (gix_l hc 0 rfl)
  by_cases ha : 0 < a
  · refine ⟨a % m, S.set i (.lst [.int (a / m), .int b, .int c]), ?_, Int.emod_nonneg _ (by omega), Int.emod_lt_of_pos _ hm, ⟨a / m, b, c, set_at hc, hb, hb2, hc0, by omega⟩, Apart.set _ _ _⟩
    refine run_of ?_
    have t1 : (fTest (fBin gGt (fBin gIx (fVar 0) (fC (.int 0))) (fC (.int 0)))) [some (.ref i), some (.int m), none, none] S = some (true, S) := by
      refine test_of ((bin_of (ix0 _ rfl) rfl rfl).trans ?_)
      show some (D.bl (decide (0 < a)), S) = _
      rw [decide_eq_true ha]
    refine seq_rt ((if_t t1).trans ?_)
    refine (seq_nx (set_of (i := 2) (bin_of (S1 := S) (x := .int a) (call_of (cons_of (ix0 _ rfl) rfl) rfl) rfl (mod_ok hm S)))).trans ?_
    refine (seq_nx (env' := [some (.ref i), some (.int m), some (.int (a % m)), none]) (S1 := S.set i (.lst [.int (a / m), .int b, .int c])) (asg_of (bin_of (ix0 _ rfl) rfl (fdiv_ok hm hm2 S)) ?_)).trans ?_
    · show ((gSetA (.ref i) (.int ((0 : Nat) : Int)) (.int (a / m)) S).map _) = _
      rw [gset_l hc 0 (by simp)]
      rfl
    · rfl
  · have t1 : (fTest (fBin gGt (fBin gIx (fVar 0) (fC (.int 0))) (fC (.int 0)))) [some (.ref i), some (.int m), none, none] S = some (false, S) := by
      refine test_of ((bin_of (ix0 _ rfl) rfl rfl).trans ?_)
      show some (D.bl (decide (0 < a)), S) = _
      rw [decide_eq_false ha]
    have h1 : S[i]? = some (.lst [.int a, .int b, .int c]) := hc
    let S1 := S.set i (.lst [.int a, .int b, .int (c + 1)])
    have hc1 : S1[i]? = some (.lst [.int a, .int b, .int (c + 1)]) := set_at hc
    let b' := (b * 1181783497276652981 + ((c + 1) * 32452843 + 49979687)) % MM
    let S2 := S1.set i (.lst [.int a, .int b', .int (c + 1)])
    have hc2 : S2[i]? = some (.lst [.int a, .int b', .int (c + 1)]) := set_at hc1
    have hb' : 0 ≤ b' ∧ b' < MM := ⟨Int.emod_nonneg _ (by decide), Int.emod_lt_of_pos _ (by decide)⟩
    refine ⟨b' / 131072 % m, S2, ?_, Int.emod_nonneg _ (by omega), Int.emod_lt_of_pos _ hm, ⟨a, b', c + 1, hc2, hb'.1, hb'.2, by omega, by omega⟩, (Apart.set _ _ _).trans (Apart.set _ _ _)⟩
    refine run_of ?_
    refine (seq_nx ((if_f t1).trans rfl)).trans ?_
    refine (seq_nx (env' := [some (.ref i), some (.int m), none, none]) (S1 := S1) (asg_of (bin_of (S1 := S) (S2 := S) (x := .int c) (y := .int 1) (bin_of (S1 := S) (x := .ref i) rfl rfl (gix_l hc 2 rfl)) rfl rfl) ?_)).trans ?_
    · show ((gSetA (.ref i) (.int ((2 : Nat) : Int)) (.int (c + 1)) S).map _) = _
      rw [gset_l hc 2 (by simp)]
      rfl
    refine (seq_nx (set_of (i := 3) (bin_of (S1 := S1) (S2 := S1) (x := .int ((c + 1) * 32452843)) (y := .int 49979687) (bin_of (S1 := S1) (S2 := S1) (x := .int (c + 1)) (y := .int 32452843) (bin_of (S1 := S1) (x := .ref i) rfl rfl (gix_l hc1 2 rfl)) rfl (mul_ok (small_le (by omega) (by omega)) (small_le (by omega) (by omega)) S1)) rfl rfl))).trans ?_
    refine (seq_nx (env' := [some (.ref i), some (.int m), none, some (.int ((c + 1) * 32452843 + 49979687))]) (S1 := S2) (asg_of (bin_of (S1 := S1) (S2 := S1) (x := .int (b * 1181783497276652981 + ((c + 1) * 32452843 + 49979687))) (y := .int MM) (call_of (cons_of (bin_of (S1 := S1) (S2 := S1) (x := .int (b * 1181783497276652981)) (y := .int ((c + 1) * 32452843 + 49979687)) (bin_of (S1 := S1) (S2 := S1) (x := .int b) (y := .int 1181783497276652981) (bin_of (S1 := S1) (x := .ref i) rfl rfl (gix_l hc1 1 rfl)) rfl (mul_ok (small_le (by unfold MM at hb2; omega) (by unfold MM at hb2; omega)) (small_le (by omega) (by omega)) S1)) rfl rfl) rfl) rfl) rfl (mod_ok (by decide) S1)) ?_)).trans ?_
    · show ((gSetA (.ref i) (.int ((1 : Nat) : Int)) (.int b') S1).map _) = _
      rw [gset_l hc1 1 (by simp)]
      rfl
    refine ret_of ?_
    exact bin_of (S1 := S2) (S2 := S2) (x := .int (b' / 131072)) (y := .int m) (call_of (cons_of (bin_of (S1 := S2) (S2 := S2) (x := .int b') (y := .int 131072) (bin_of (S1 := S2) (x := .ref i) rfl rfl (gix_l hc2 1 rfl)) rfl (fdiv_ok (by decide) (by decide) S2)) rfl) rfl) rfl (mod_ok hm S2)
theorem ints_mem {l : List Int} {d : D} (h : d ∈ l.map D.int) : ∃ z, d = .int z := by
  obtain ⟨z, _, e⟩ := List.mem_map.mp h
  exact ⟨z, e.symm⟩
theorem stock_ok (ns : List Int) (hns : ns.length ≤ 63) (k : Nat) (hk : k ≤ 1000) (S : Sto) : ∃ a b : Int, d__law_stock [.scr ns, .int k] S = some (.ref S.length, S ++ [.lst [.int a, .int b, .int 0]]) ∧ 0 ≤ b ∧ b < MM := by
  -- the cell
  have hcell : ∃ z : Int, (fIf (fTest (fBin gLtX (fVar 1) (fCall cLen (fCons (fVar 0) fNil)))) (fCall cInt (fCons (fBin gIx (fVar 0) (fVar 1)) fNil)) (fBin gMul (fC (.int 611953)) (fBin gAddX (fVar 1) (fC (.int 1))))) [some (.scr ns), some (.int k), none, none, none, none] S = some (.int z, S) := by
    by_cases h : k < ns.length
    · refine ⟨ns[k], if_of (b := true) (S1 := S) ?_ ?_⟩
      · show some (decide ((k : Int) < (ns.length : Int)), S) = _
        rw [decide_eq_true (by omega)]
      · rw [if_pos rfl]
        refine call_of (S1 := S) (ds := [.int ns[k]]) (cons_of (S1 := S) (bin_of (S1 := S) (S2 := S) (x := .scr ns) (y := .int k) rfl rfl ?_) rfl) rfl
        show ((L2.atI ns (k : Int)).map fun n => (D.int n, S)) = _
        rw [atI_nat (List.getElem?_eq_getElem h)]
        rfl
    · refine ⟨611953 * ((k : Int) + 1), if_of (b := false) (S1 := S) ?_ ?_⟩
      · show some (decide ((k : Int) < (ns.length : Int)), S) = _
        rw [decide_eq_false (by omega)]
      · rw [if_neg (by decide)]
        exact bin_of (S1 := S) (S2 := S) (x := .int 611953) (y := .int ((k : Int) + 1)) rfl rfl (mul_ok (small_le (by omega) (by omega)) (small_le (by omega) (by omega)) S)
  obtain ⟨z, hcell⟩ := hcell
  have hloop := for_mem (g := gN 4) (items := ((cutD ns none (some 8)).map D.int ++ [D.int z])) (env := [some (.scr ns), some (.int k), some (.int z), some (.int (2750159 + 15485863 * (k : Int))), none, none]) (S := S)
    (body := (sSeq (sAsg (fBin gAddX (fBin gMul (fBin gMod (fCall cInt (fCons (fCall cAbs (fCons (fVar 4) fNil)) fNil)) (fC (.int 999999999989))) (fC (.int 2))) (fCall cInt (fCons (fBin gLtX (fVar 4) (fC (.int 0))) fNil))) (gN 5))
    (sAsg (fBin gMod (fCall cInt (fCons (fBin gAddX (fBin gAddX (fBin gMul (fVar 3) (fC (.int 7664345821815920749))) (fVar 5)) (fC (.int 1))) fNil)) (fC (.int 9223372036854775783))) (gN 3))))
    (fun env S1 => S1 = S ∧ ∃ (b : Int) (e f : Option D), env = [some (.scr ns), some (.int k), some (.int z), some (.int b), e, f] ∧ 0 ≤ b ∧ b < MM)
    ⟨rfl, _, _, _, rfl, by omega, by unfold MM; omega⟩ (fun d hd env S1 hI => by
      obtain ⟨rfl, b, e, f, rfl, hb, hb2⟩ := hI
      obtain ⟨v, rfl⟩ : ∃ v, d = D.int v := by
        rcases List.mem_append.mp hd with h | h
        · exact ints_mem h
        · exact ⟨z, List.mem_singleton.mp h⟩
      let p := (if v < 0 then -v else v) % 999999999989 * 2 + (if decide (v < 0) = true then 1 else 0)
      have hp : 0 ≤ p ∧ p ≤ 2000000000000 := by
        have h1 := Int.emod_nonneg (if v < 0 then -v else v) (show (999999999989 : Int) ≠ 0 by decide)
        have h2 := Int.emod_lt_of_pos (if v < 0 then -v else v) (show (0 : Int) < 999999999989 by decide)
        have h3 : (0 : Int) ≤ (if decide (v < 0) = true then 1 else 0) ∧ (if decide (v < 0) = true then (1 : Int) else 0) ≤ 1 := by split <;> decide
        show 0 ≤ (if v < 0 then -v else v) % 999999999989 * 2 + (if decide (v < 0) = true then 1 else 0) ∧ (if v < 0 then -v else v) % 999999999989 * 2 + (if decide (v < 0) = true then 1 else 0) ≤ 2000000000000
        omega
      refine ⟨[some (.scr ns), some (.int k), some (.int z), some (.int b), some (.int v), f], S1, [some (.scr ns), some (.int k), some (.int z), some (.int ((b * 7664345821815920749 + p + 1) % MM)), some (.int v), some (.int p)], S1, rfl, ?_, rfl, _, _, _, rfl, Int.emod_nonneg _ (by decide), Int.emod_lt_of_pos _ (by decide)⟩
      refine (seq_nx (set_of (i := 5) (d := .int p) (S1 := S1) ?_)).trans ?_
      · refine bin_of (S1 := S1) (S2 := S1) (x := .int ((if v < 0 then -v else v) % 999999999989 * 2)) (y := .int (if decide (v < 0) = true then 1 else 0)) ?_ rfl rfl
        refine bin_of (S1 := S1) (S2 := S1) (x := .int ((if v < 0 then -v else v) % 999999999989)) (y := .int 2) (bin_of (S1 := S1) (S2 := S1) (x := .int (if v < 0 then -v else v)) (y := .int 999999999989) rfl rfl (mod_ok (by decide) S1)) rfl (mul_ok (small_le ?_ ?_) (small_le (by omega) (by omega)) S1)
        · have h1 := Int.emod_nonneg (if v < 0 then -v else v) (show (999999999989 : Int) ≠ 0 by decide)
          omega
        · have h2 := Int.emod_lt_of_pos (if v < 0 then -v else v) (show (0 : Int) < 999999999989 by decide)
          omega
      · refine set_of (i := 3) (d := .int ((b * 7664345821815920749 + p + 1) % MM)) (S1 := S1) ?_
        refine bin_of (S1 := S1) (S2 := S1) (x := .int (b * 7664345821815920749 + p + 1)) (y := .int MM) ?_ rfl (mod_ok (by decide) S1)
        refine call_of (S1 := S1) (ds := [.int (b * 7664345821815920749 + p + 1)]) (cons_of (S1 := S1) ?_ rfl) rfl
        refine bin_of (S1 := S1) (S2 := S1) (x := .int (b * 7664345821815920749 + p)) (y := .int 1) ?_ rfl rfl
        refine bin_of (S1 := S1) (S2 := S1) (x := .int (b * 7664345821815920749)) (y := .int p) ?_ rfl rfl
        exact bin_of (S1 := S1) (S2 := S1) (x := .int b) (y := .int 7664345821815920749) rfl rfl (mul_ok (small_le (by unfold MM at hb2; omega) (by unfold MM at hb2; omega)) (small_le (by omega) (by omega)) S1))
  obtain ⟨env9, S9, hf, rfl, b, e, f, rfl, hb, hb2⟩ := hloop
  refine ⟨if decide (1000000000000000000 ≤ (if z < 0 then -z else z)) = true then (if z < 0 then -z else z) else 0, b, ?_, hb, hb2⟩
  refine run_of ?_
  refine (seq_nx (set_of (i := 2) hcell)).trans ?_
  refine (seq_nx (set_of (i := 3) (d := .int (2750159 + 15485863 * (k : Int))) (S1 := S9) (bin_of (S1 := S9) (S2 := S9) (x := .int 2750159) (y := .int (15485863 * (k : Int))) rfl (bin_of (S1 := S9) (S2 := S9) (x := .int 15485863) (y := .int k) rfl rfl (mul_ok (small_le (by omega) (by omega)) (small_le (by omega) (by omega)) S9)) rfl))).trans ?_
  refine (seq_nx (for_of (S1 := S9) (items := ((cutD ns none (some 8)).map D.int ++ [D.int z])) ?_ hf)).trans ?_
  · show ((fBin gAddX (fSlX (fVar 0) oNone (oSome (fC (.int 8)))) (fLst (fCons (fVar 2) fNil))) [some (.scr ns), some (.int k), some (.int z), some (.int (2750159 + 15485863 * (k : Int))), none, none] S9).bind _ = _
    have : (fBin gAddX (fSlX (fVar 0) oNone (oSome (fC (.int 8)))) (fLst (fCons (fVar 2) fNil))) [some (.scr ns), some (.int k), some (.int z), some (.int (2750159 + 15485863 * (k : Int))), none, none] S9 = some (.lst ((cutD ns none (some 8)).map D.int ++ [D.int z]), S9) := by
      refine bin_of (S1 := S9) (S2 := S9) (x := .lst ((cutD ns none (some 8)).map D.int)) (y := .lst [D.int z]) rfl rfl ?_
      show (if ((cutD ns none (some 8)).map D.int).length + 1 ≤ 1000000 then _ else none) = _
      rw [if_pos]
      unfold DL.cutD
      simp
      omega
    rw [this]
    rfl
  · refine ret_of ?_
    show (fLstM _ _ S9) = _
    unfold fLstM
    have : (fCons (fIf (fTest (fBin gGe (fCall cAbs (fCons (fVar 2) fNil)) (fBin gPow (fC (.int 10)) (fC (.int 18))))) (fCall cAbs (fCons (fVar 2) fNil)) (fC (.int 0))) (fCons (fVar 3) (fCons (fC (.int 0)) fNil))) [some (.scr ns), some (.int k), some (.int z), some (.int b), e, f] S9 = some ([.int (if decide (1000000000000000000 ≤ (if z < 0 then -z else z)) = true then (if z < 0 then -z else z) else 0), .int b, .int 0], S9) := by
      refine cons_of (S1 := S9) ?_ rfl
      refine if_of (b := decide (1000000000000000000 ≤ (if z < 0 then -z else z))) (S1 := S9) rfl ?_
      cases decide (1000000000000000000 ≤ (if z < 0 then -z else z)) <;> rfl
    rw [this]
    rfl
theorem stk_new (S : Sto) {a b : Int} (hb : 0 ≤ b) (hb2 : b < MM) : Stk (S ++ [.lst [.int a, .int b, .int 0]]) S.length 0 := ⟨a, b, 0, get_last _ _, hb, hb2, by decide, by decide⟩
end LW

namespace LW
open PySem PySem.Spec L2 TL DL
open PyProof.Rows hiding pairD cutD
/-! # the drawn ties -/
def Sk (c : Cell) (m : Nat) : Prop := ∃ a b k : Int, c = .lst [.int a, .int b, .int k] ∧ 0 ≤ b ∧ b < MM ∧ 0 ≤ k ∧ k ≤ m
theorem Sk.mono {c : Cell} {m m' : Nat} (h : Sk c m) (l : m ≤ m') : Sk c m' := by
  obtain ⟨a, b, k, e, h1, h2, h3, h4⟩ := h
  exact ⟨a, b, k, e, h1, h2, h3, by omega⟩
theorem takeS {c : Cell} {rest : Sto} {m : Nat} (h : Sk c m) (hm : m ≤ 1000000) (k : Int) (h0 : 0 < k) (h1 : k ≤ 1000000) : ∃ r c', w__law_take [.ref 0, .int k] (c :: rest) = some (.int r, c' :: rest) ∧ 0 ≤ r ∧ r < k ∧ Sk c' (m + 1) := by
  obtain ⟨a, b, z, e, g1, g2, g3, g4⟩ := h
  obtain ⟨r, S', e1, r0, r1, st, ap⟩ := take_ok (S := c :: rest) (i := 0) (n := m) ⟨a, b, z, by rw [e]; rfl, g1, g2, g3, g4⟩ hm k h0 (by omega)
  obtain ⟨a', b', z', q, q1, q2, q3, q4⟩ := st
  have : S' = .lst [.int a', .int b', .int z'] :: rest := by
    apply List.ext_getElem?
    intro j
    cases j with
    | zero => exact q
    | succ j => exact ap.2 (j + 1) (by omega)
  subst this
  exact ⟨r, _, e1, r0, r1, a', b', z', rfl, q1, q2, q3, q4⟩
instance decLtP (p q : Int × Int) : Decidable (ltP p q) := by unfold ltP; exact inferInstance
theorem pairs_asc {n : Int} (h0 : 0 ≤ n) (hn : n ≤ 10) : (pairsL n).Pairwise ltP := by
  have : n = 0 ∨ n = 1 ∨ n = 2 ∨ n = 3 ∨ n = 4 ∨ n = 5 ∨ n = 6 ∨ n = 7 ∨ n = 8 ∨ n = 9 ∨ n = 10 := by omega
  rcases this with rfl | rfl | rfl | rfl | rfl | rfl | rfl | rfl | rfl | rfl | rfl <;> decide +kernel
theorem sub_ties {n : Int} {T : List (Int × Int)} (h0 : 0 ≤ n) (hn : n ≤ 10) (h : T.Sublist (pairsL n)) : Ties n T := ⟨fun p hp => mem_pairs.mp (h.subset hp), (pairs_asc h0 hn).sublist h⟩
def EV (N form parts : Int) (pr : D) (one other : Int) (b : Bool) (e9 : Option D) : DEnv := [some (.ref 0), some (.int N), some (.int form), some (.int parts), some (.ref 1), some pr, some (.int one), some (.int other), some (.bl b), e9]
theorem held_if {N form parts : Int} {pr : D} {one other : Int} {b : Bool} {e9 : Option D} {S : Sto} {k : Int} {f : FE} (hf : ∃ b', f (EV N form parts pr one other b e9) S = some (.bl b', S)) :
    ∃ b', (sIf (fTest (fBin gEq (fVar 2) (fC (.int k)))) (sAsg f (gN 8)) sSkip) (EV N form parts pr one other b e9) S = some (.nx (EV N form parts pr one other b' e9), S) := by
  obtain ⟨b', e⟩ := hf
  have t : (fTest (fBin gEq (fVar 2) (fC (.int k)))) (EV N form parts pr one other b e9) S = some (decide (form = k), S) := rfl
  cases h : decide (form = k) with
  | true =>
    rw [h] at t
    exact ⟨b', (if_t t).trans (set_of e)⟩
  | false =>
    rw [h] at t
    exact ⟨b, (if_f t).trans rfl⟩
def bodyT : FS := (sSeq (sAsg (fAnd (fBin gLtX (fVar 2) (fC (.int 4))) (fBin gLeX (fCall w__law_take (fCons (fVar 0) (fCons (fC (.int 4)) fNil))) (fVar 2))) (gN 8))
    (sSeq (sIf (fTest (fBin gEq (fVar 2) (fC (.int 4)))) (sAsg (fBin gNe (fBin gMod (fCall cInt (fCons (fVar 6) fNil)) (fVar 3)) (fBin gMod (fCall cInt (fCons (fVar 7) fNil)) (fVar 3))) (gN 8)) sSkip)
    (sSeq (sIf (fTest (fBin gEq (fVar 2) (fC (.int 5)))) (sAsg (fBin gEq (fBin gFdiv (fVar 6) (fVar 3)) (fBin gFdiv (fVar 7) (fVar 3))) (gN 8)) sSkip)
    (sSeq (sIf (fTest (fBin gEq (fVar 2) (fC (.int 6)))) (sAsg (fOr (fBin gEq (fVar 6) (fC (.int 0))) (fBin gEq (fBin gFdiv (fBin gSubI (fVar 6) (fC (.int 1))) (fVar 3)) (fBin gFdiv (fBin gSubI (fVar 7) (fC (.int 1))) (fVar 3)))) (gN 8)) sSkip)
    (sSeq (sIf (fTest (fBin gEq (fVar 2) (fC (.int 7)))) (sAsg (fBin gLtX (fVar 6) (fBin gSubI (fVar 3) (fC (.int 1)))) (gN 8)) sSkip)
    (sSeq (sIf (fTest (fBin gEq (fVar 2) (fC (.int 8)))) (sAsg (fBin gLeX (fBin gMod (fCall cInt (fCons (fBin gAddX (fBin gSubI (fVar 7) (fVar 6)) (fVar 3)) fNil)) (fVar 1)) (fBin gMul (fC (.int 2)) (fVar 3))) (gN 8)) sSkip)
    (sIf (fTest (fVar 8)) (sExpr (fAppend (fVar 4) (fTup (fCons (fVar 6) (fCons (fVar 7) fNil))))) sSkip)))))))
theorem bodyT_run {N form parts : Int} {pr : D} {p : Int × Int} {e8 e9 : Option D} {c : Cell} {m : Nat} {T : List (Int × Int)} (hN : 0 < N) (hp : 1 ≤ parts) (hp2 : parts ≤ 4) (hc : Sk c m) (hm : m ≤ 1000000) (hl : T.length ≤ 1000) :
    ∃ b c', bodyT [some (.ref 0), some (.int N), some (.int form), some (.int parts), some (.ref 1), some pr, some (.int p.1), some (.int p.2), e8, e9] [c, .lst (T.map pairD)] = some (.nx (EV N form parts pr p.1 p.2 b e9), [c', .lst ((if b = true then T ++ [p] else T).map pairD)]) ∧ Sk c' (m + 1) := by
  have h1 : ∃ b c', (fAnd (fBin gLtX (fVar 2) (fC (.int 4))) (fBin gLeX (fCall w__law_take (fCons (fVar 0) (fCons (fC (.int 4)) fNil))) (fVar 2))) [some (.ref 0), some (.int N), some (.int form), some (.int parts), some (.ref 1), some pr, some (.int p.1), some (.int p.2), e8, e9] [c, .lst (T.map pairD)] = some (.bl b, [c', .lst (T.map pairD)]) ∧ Sk c' (m + 1) := by
    obtain ⟨r, c', e, _, _, hc'⟩ := takeS (rest := [.lst (T.map pairD)]) hc hm 4 (by decide) (by decide)
    by_cases hf : form < 4
    · refine ⟨decide (r ≤ form), c', ?_, hc'⟩
      show (match D.bl (decide (form < 4)) with | .bl true => (fBin gLeX (fCall w__law_take (fCons (fVar 0) (fCons (fC (.int 4)) fNil))) (fVar 2)) _ _ | .bl false => some (D.bl false, [c, .lst (T.map pairD)]) | _ => none) = _
      rw [decide_eq_true hf]
      exact bin_of (S1 := [c', .lst (T.map pairD)]) (S2 := [c', .lst (T.map pairD)]) (x := .int r) (y := .int form) (call_of (S1 := [c, .lst (T.map pairD)]) (ds := [.ref 0, .int 4]) rfl e) rfl rfl
    · refine ⟨false, c, ?_, hc.mono (by omega)⟩
      show (match D.bl (decide (form < 4)) with | .bl true => (fBin gLeX (fCall w__law_take (fCons (fVar 0) (fCons (fC (.int 4)) fNil))) (fVar 2)) _ _ | .bl false => some (D.bl false, [c, .lst (T.map pairD)]) | _ => none) = _
      rw [decide_eq_false hf]
  obtain ⟨b0, c', e0, hc'⟩ := h1
  have p0 : (0 : Int) < parts := by omega
  have md : ∀ i : Int, gMod (.int i) (.int parts) [c', .lst (T.map pairD)] = some (.int (i % parts), [c', .lst (T.map pairD)]) := fun i => mod_ok p0 _
  have fd : ∀ i : Int, gFdiv (.int i) (.int parts) [c', .lst (T.map pairD)] = some (.int (i / parts), [c', .lst (T.map pairD)]) := fun i => fdiv_ok p0 (by omega) _
  obtain ⟨b4, e4⟩ := held_if (N := N) (form := form) (parts := parts) (pr := pr) (one := p.1) (other := p.2) (b := b0) (e9 := e9) (S := [c', .lst (T.map pairD)]) (k := 4) (f := (fBin gNe (fBin gMod (fCall cInt (fCons (fVar 6) fNil)) (fVar 3)) (fBin gMod (fCall cInt (fCons (fVar 7) fNil)) (fVar 3))))
    ⟨_, bin_of (bin_of (call_of (S1 := [c', .lst (T.map pairD)]) (ds := [.int p.1]) rfl rfl) rfl (md _)) (bin_of (call_of (S1 := [c', .lst (T.map pairD)]) (ds := [.int p.2]) rfl rfl) rfl (md _)) rfl⟩
  obtain ⟨b5, e5⟩ := held_if (N := N) (form := form) (parts := parts) (pr := pr) (one := p.1) (other := p.2) (b := b4) (e9 := e9) (S := [c', .lst (T.map pairD)]) (k := 5) (f := (fBin gEq (fBin gFdiv (fVar 6) (fVar 3)) (fBin gFdiv (fVar 7) (fVar 3))))
    ⟨_, bin_of (bin_of (S1 := [c', .lst (T.map pairD)]) (x := .int p.1) rfl rfl (fd _)) (bin_of (S1 := [c', .lst (T.map pairD)]) (x := .int p.2) rfl rfl (fd _)) rfl⟩
  obtain ⟨b6, e6⟩ := held_if (N := N) (form := form) (parts := parts) (pr := pr) (one := p.1) (other := p.2) (b := b5) (e9 := e9) (S := [c', .lst (T.map pairD)]) (k := 6) (f := (fOr (fBin gEq (fVar 6) (fC (.int 0))) (fBin gEq (fBin gFdiv (fBin gSubI (fVar 6) (fC (.int 1))) (fVar 3)) (fBin gFdiv (fBin gSubI (fVar 7) (fC (.int 1))) (fVar 3))))) (by
    have z : (fBin gEq (fBin gFdiv (fBin gSubI (fVar 6) (fC (.int 1))) (fVar 3)) (fBin gFdiv (fBin gSubI (fVar 7) (fC (.int 1))) (fVar 3))) (EV N form parts pr p.1 p.2 b5 e9) [c', .lst (T.map pairD)] = some (.bl (decide ((p.1 - 1) / parts = (p.2 - 1) / parts)), [c', .lst (T.map pairD)]) :=
      bin_of (bin_of (S1 := [c', .lst (T.map pairD)]) (x := .int (p.1 - 1)) rfl rfl (fd _)) (bin_of (S1 := [c', .lst (T.map pairD)]) (x := .int (p.2 - 1)) rfl rfl (fd _)) rfl
    cases h : decide (p.1 = 0) with
    | true =>
      refine ⟨true, ?_⟩
      show (match D.bl (decide (p.1 = 0)) with | .bl true => some (D.bl true, [c', .lst (T.map pairD)]) | .bl false => _ | _ => none) = _
      rw [h]
    | false =>
      refine ⟨decide ((p.1 - 1) / parts = (p.2 - 1) / parts), ?_⟩
      show (match D.bl (decide (p.1 = 0)) with | .bl true => some (D.bl true, [c', .lst (T.map pairD)]) | .bl false => (fBin gEq (fBin gFdiv (fBin gSubI (fVar 6) (fC (.int 1))) (fVar 3)) (fBin gFdiv (fBin gSubI (fVar 7) (fC (.int 1))) (fVar 3))) (EV N form parts pr p.1 p.2 b5 e9) [c', .lst (T.map pairD)] | _ => none) = _
      rw [h]
      exact z)
  obtain ⟨b7, e7⟩ := held_if (N := N) (form := form) (parts := parts) (pr := pr) (one := p.1) (other := p.2) (b := b6) (e9 := e9) (S := [c', .lst (T.map pairD)]) (k := 7) (f := (fBin gLtX (fVar 6) (fBin gSubI (fVar 3) (fC (.int 1))))) ⟨_, rfl⟩
  obtain ⟨b8, e8'⟩ := held_if (N := N) (form := form) (parts := parts) (pr := pr) (one := p.1) (other := p.2) (b := b7) (e9 := e9) (S := [c', .lst (T.map pairD)]) (k := 8) (f := (fBin gLeX (fBin gMod (fCall cInt (fCons (fBin gAddX (fBin gSubI (fVar 7) (fVar 6)) (fVar 3)) fNil)) (fVar 1)) (fBin gMul (fC (.int 2)) (fVar 3))))
    ⟨_, bin_of (bin_of (S1 := [c', .lst (T.map pairD)]) (x := .int (p.2 - p.1 + parts)) rfl rfl (mod_ok hN _)) (bin_of (S1 := [c', .lst (T.map pairD)]) (x := .int 2) (y := .int parts) rfl rfl (mul_ok (small_le (by omega) (by omega)) (small_le (by omega) (by omega)) _)) rfl⟩
  refine ⟨b8, c', ?_, hc'⟩
  refine (seq_nx (set_of e0)).trans ?_
  refine (seq_nx e4).trans ?_
  refine (seq_nx e5).trans ?_
  refine (seq_nx e6).trans ?_
  refine (seq_nx e7).trans ?_
  refine (seq_nx e8').trans ?_
  cases b8 with
  | false => rfl
  | true =>
    refine (if_t (S1 := [c', .lst (T.map pairD)]) rfl).trans (expr_of (d := .non) ?_)
    show (if (T.map pairD).length ≤ 1000000 then some (D.non, [c', Cell.lst (T.map pairD ++ [pairD p])]) else none) = _
    rw [if_pos (by rw [List.length_map]; omega), if_pos rfl, List.map_append]
    rfl
end LW

namespace LW
open PySem PySem.Spec L2 TL DL
open PyProof.Rows hiding pairD cutD
def Fd (d : D) (S : Sto) (T : List (Int × Int)) : Prop := d = .lst (T.map pairD) ∨ (d = .ref 1 ∧ S[1]? = some (.lst (T.map pairD)))
theorem Fd.of {d : D} {S : Sto} {T : List (Int × Int)} (h : Fd d S T) : lstOf S d = some (T.map pairD) := by
  rcases h with rfl | ⟨rfl, h⟩
  · rfl
  · show (match S[1]? with | some (.lst ds) => some ds | _ => none) = _
    rw [h]
theorem some_ties_in {N : Int} (h0 : 0 ≤ N) (hn : N ≤ 10) {c : Cell} {m : Nat} (hc : Sk c m) (hm : m ≤ 10000) :
    R (d__law_some_ties w__law_take w__law_flipped w__law_pairs [.ref 0, .int N] [c]) fun d S' => ∃ T c' x, S' = [c', x] ∧ Ties N T ∧ Sk c' (m + 100) ∧ Fd d S' T := by
  show R (runD 10 (b__law_some_ties w__law_take w__law_flipped w__law_pairs) [.ref 0, .int N] [c]) _
  rw [wp_Run]
  show R (b__law_some_ties w__law_take w__law_flipped w__law_pairs [some (.ref 0), some (.int N), none, none, none, none, none, none, none, none] [c]) _
  unfold b__law_some_ties
  rw [wp_Seq]
  obtain ⟨form, c1, e1, f0, f1, hc1⟩ := takeS (rest := []) hc (by omega) 9 (by decide) (by decide)
  obtain ⟨q, c2, e2, q0, q1, hc2⟩ := takeS (rest := []) hc1 (by omega) 4 (by decide) (by decide)
  refine ⟨.nx [some (.ref 0), some (.int N), some (.int form), some (.int (1 + q)), some (.ref 1), none, none, none, none, none], [c2, .lst []], ?_, ?_⟩
  · have a1 : (fCall w__law_take (fCons (fVar 0) (fCons (fC (.int 9)) fNil))) [some (.ref 0), some (.int N), none, none, none, none, none, none, none, none] [c] = some (.int form, [c1]) := call_of (S1 := [c]) (ds := [.ref 0, .int 9]) rfl e1
    have a2 : (fBin gAddX (fC (.int 1)) (fCall w__law_take (fCons (fVar 0) (fCons (fC (.int 4)) fNil)))) [some (.ref 0), some (.int N), none, none, none, none, none, none, none, none] [c1] = some (.int (1 + q), [c2]) := bin_of (S1 := [c1]) (x := .int 1) rfl (call_of (S1 := [c1]) (ds := [.ref 0, .int 4]) rfl e2) rfl
    show ((((fCall w__law_take (fCons (fVar 0) (fCons (fC (.int 9)) fNil))) [some (.ref 0), some (.int N), none, none, none, none, none, none, none, none] [c]).bind _).bind _) = _
    rw [a1]
    show (((((fBin gAddX (fC (.int 1)) (fCall w__law_take (fCons (fVar 0) (fCons (fC (.int 4)) fNil)))) [some (.ref 0), some (.int N), none, none, none, none, none, none, none, none] [c1]).bind _).bind _).bind _) = _
    rw [a2]
    rfl
  show R (sSeq _ _ [some (.ref 0), some (.int N), some (.int form), some (.int (1 + q)), some (.ref 1), none, none, none, none, none] [c2, .lst []]) _
  rw [wp_Seq]
  refine ⟨.nx [some (.ref 0), some (.int N), some (.int form), some (.int (1 + q)), some (.ref 1), some (.lst ((pairsL N).map pairD)), none, none, none, none], [c2, .lst []], set_of (i := 5) (call_of (S1 := [c2, .lst []]) (ds := [.int N]) rfl (pairs_eq h0 hn _)), ?_⟩
  show R (sSeq _ _ [some (.ref 0), some (.int N), some (.int form), some (.int (1 + q)), some (.ref 1), some (.lst ((pairsL N).map pairD)), none, none, none, none] [c2, .lst []]) _
  rw [wp_Seq]
  have hpl := pairs_len h0 hn
  refine r_for (items := (pairsL N).map pairD) (S1 := [c2, .lst []]) rfl (fun i env S => ∃ (c' : Cell) (T : List (Int × Int)) (e6 e7 e8 e9 : Option D), S = [c', .lst (T.map pairD)] ∧ Sk c' (m + 2 + i) ∧ T.Sublist ((pairsL N).take i) ∧ env = [some (.ref 0), some (.int N), some (.int form), some (.int (1 + q)), some (.ref 1), some (.lst ((pairsL N).map pairD)), e6, e7, e8, e9]) ?_ ?_ ?_
  · exact ⟨c2, [], none, none, none, none, rfl, hc2, List.nil_sublist _, rfl⟩
  · rintro i d env S hi ⟨c', T, e6, e7, e8, e9, rfl, hc', hT, rfl⟩
    rw [List.getElem?_map] at hi
    obtain ⟨p, hp, rfl⟩ := Option.map_eq_some_iff.mp hi
    have hil := (List.getElem?_eq_some_iff.mp hp).1
    have r := mem_pairs.mp (List.mem_of_getElem? hp)
    have hTl := hT.length_le
    rw [List.length_take] at hTl
    refine ⟨[some (.ref 0), some (.int N), some (.int form), some (.int (1 + q)), some (.ref 1), some (.lst ((pairsL N).map pairD)), some (.int p.1), some (.int p.2), e8, e9], _, rfl, ?_⟩
    obtain ⟨b, c3, e, hc3⟩ := bodyT_run (N := N) (form := form) (parts := 1 + q) (pr := .lst ((pairsL N).map pairD)) (p := p) (e8 := e8) (e9 := e9) (T := T) (by omega) (by omega) (by omega) hc' (by omega) (by omega)
    refine ⟨_, _, e, ?_⟩
    refine ⟨c3, _, _, _, _, _, rfl, hc3, ?_, rfl⟩
    have ht : (pairsL N).take (i + 1) = (pairsL N).take i ++ [p] := by
      obtain ⟨hi, e⟩ := List.getElem?_eq_some_iff.mp hp
      rw [List.take_succ_eq_append_getElem hi, e]
    rw [ht]
    split
    · exact hT.append (List.Sublist.refl _)
    · exact hT.trans (List.sublist_append_left _ _)
  · rintro env S ⟨c', T, e6, e7, e8, e9, rfl, hc', hT, rfl⟩
    rw [List.length_map] at hc' hT
    rw [List.take_length] at hT
    show R (sSeq _ _ [some (.ref 0), some (.int N), some (.int form), some (.int (1 + q)), some (.ref 1), some (.lst ((pairsL N).map pairD)), e6, e7, e8, e9] [c', .lst (T.map pairD)]) _
    rw [wp_Seq]
    obtain ⟨t, c4, e4, t0, t1, hc4⟩ := takeS (rest := [.lst (T.map pairD)]) hc' (by omega) 3 (by decide) (by decide)
    have hF : (iRange1 (fCons (fCall w__law_take (fCons (fVar 0) (fCons (fC (.int 3)) fNil))) fNil)) [some (.ref 0), some (.int N), some (.int form), some (.int (1 + q)), some (.ref 1), some (.lst ((pairsL N).map pairD)), e6, e7, e8, e9] [c', .lst (T.map pairD)] = some (rangeD 0 t, [c4, .lst (T.map pairD)]) := range1_eq (call_of (S1 := [c', .lst (T.map pairD)]) (ds := [.ref 0, .int 3]) rfl e4) (by omega) (by omega)
    refine r_for (S1 := [c4, .lst (T.map pairD)]) hF (fun i env S => ∃ (c' x : Cell) (T : List (Int × Int)) (d : D) (e6 e7 e8 e9 : Option D), S = [c', x] ∧ Sk c' (m + 50 + i) ∧ Ties N T ∧ Fd d S T ∧ env = [some (.ref 0), some (.int N), some (.int form), some (.int (1 + q)), some d, some (.lst ((pairsL N).map pairD)), e6, e7, e8, e9]) ?_ ?_ ?_
    · exact ⟨c4, _, T, .ref 1, _, _, _, _, rfl, hc4.mono (by omega), sub_ties h0 hn hT, Or.inr ⟨rfl, rfl⟩, rfl⟩
    · rintro i d env S hi ⟨c', x, T, d', e6, e7, e8, e9, rfl, hc', hT, hfd, rfl⟩
      have hi3 : i < 3 := by
        have := (List.getElem?_eq_some_iff.mp hi).1
        unfold rangeD at this
        rw [List.length_map, List.length_range] at this
        omega
      refine ⟨[some (.ref 0), some (.int N), some (.int form), some (.int (1 + q)), some d', some (.lst ((pairsL N).map pairD)), e6, e7, e8, some d], _, rfl, ?_⟩
      have tt : (fTest (fBin gNe (fVar 5) (fLst fNil))) [some (.ref 0), some (.int N), some (.int form), some (.int (1 + q)), some d', some (.lst ((pairsL N).map pairD)), e6, e7, e8, some d] [c', x] = some (!decide (pairsL N = []), [c', x]) := test_of (bin_of (S1 := [c', x]) (S2 := [c', x]) rfl rfl (ne_pairs (pairsL N) [] [c', x]))
      by_cases hz : pairsL N = []
      · rw [decide_eq_true hz] at tt
        refine ⟨_, _, (if_f tt).trans rfl, ?_⟩
        exact ⟨c', x, T, d', _, _, _, _, rfl, hc'.mono (by omega), hT, hfd, rfl⟩
      · rw [decide_eq_false hz] at tt
        have hpos : 0 < (pairsL N).length := List.length_pos_iff.mpr hz
        obtain ⟨j, c5, e5, j0, j1, hc5⟩ := takeS (rest := [x]) hc' (by omega) ((pairsL N).length : Int) (by omega) (by omega)
        obtain ⟨k, rfl⟩ := Int.eq_ofNat_of_zero_le j0
        have hk : k < (pairsL N).length := by omega
        have hg : (pairsL N)[k]? = some (pairsL N)[k] := List.getElem?_eq_getElem hk
        have hfd5 : Fd d' [c5, x] T := by
          rcases hfd with h | ⟨h, h2⟩
          · exact Or.inl h
          · exact Or.inr ⟨h, h2⟩
        have a1 : (fBin gIx (fVar 5) (fCall w__law_take (fCons (fVar 0) (fCons (fCall cLen (fCons (fVar 5) fNil)) fNil)))) [some (.ref 0), some (.int N), some (.int form), some (.int (1 + q)), some d', some (.lst ((pairsL N).map pairD)), e6, e7, e8, some d] [c', x] = some (pairD (pairsL N)[k], [c5, x]) := by
          refine bin_of (S1 := [c', x]) (S2 := [c5, x]) (x := .lst ((pairsL N).map pairD)) (y := .int (k : Int)) rfl (call_of (S1 := [c', x]) (ds := [.ref 0, .int ((pairsL N).length : Int)]) ?_ e5) ?_
          · show some ([D.ref 0, D.int (((pairsL N).map pairD).length : Int)], [c', x]) = _
            rw [List.length_map]
          · show (atI ((pairsL N).map pairD) (k : Int)).map _ = _
            rw [atI_nat (v := pairD (pairsL N)[k]) (by rw [List.getElem?_map, hg]; rfl)]
            rfl
        have a2 : (fCall w__law_flipped (fCons (fVar 4) (fCons (fBin gIx (fVar 5) (fCall w__law_take (fCons (fVar 0) (fCons (fCall cLen (fCons (fVar 5) fNil)) fNil)))) fNil))) [some (.ref 0), some (.int N), some (.int form), some (.int (1 + q)), some d', some (.lst ((pairsL N).map pairD)), e6, e7, e8, some d] [c', x] = some (.lst ((flipL T (pairsL N)[k]).map pairD), [c5, x]) := by
          refine call_of (S1 := [c5, x]) (ds := [d', pairD (pairsL N)[k]]) ?_ (flipped_eq hn hT _ _ hfd5.of)
          show (((fBin gIx (fVar 5) (fCall w__law_take (fCons (fVar 0) (fCons (fCall cLen (fCons (fVar 5) fNil)) fNil)))) [some (.ref 0), some (.int N), some (.int form), some (.int (1 + q)), some d', some (.lst ((pairsL N).map pairD)), e6, e7, e8, some d] [c', x]).bind _ |>.bind _) = _
          rw [a1]
          rfl
        refine ⟨_, _, (if_t tt).trans (set_of (i := 4) a2), ?_⟩
        exact ⟨c5, x, _, _, _, _, _, _, rfl, hc5, flip_ties hT (mem_pairs.mp (List.mem_of_getElem? hg)), Or.inl rfl, rfl⟩
    · rintro env S ⟨c', x, T, d', e6, e7, e8, e9, rfl, hc', hT, hfd, rfl⟩
      refine ⟨_, _, rfl, ?_⟩
      refine ⟨T, c', x, rfl, hT, hc'.mono ?_, hfd⟩
      unfold rangeD
      rw [List.length_map, List.length_range]
      omega
theorem sk_free {c : Cell} {m : Nat} (h : Sk c m) : cellFree c = true ∧ isTab c = none := by
  obtain ⟨a, b, k, rfl, _⟩ := h
  exact ⟨rfl, rfl⟩
theorem some_ties_eq {N : Int} (h0 : 0 ≤ N) (hn : N ≤ 10) {S : Sto} {i m : Nat} {c : Cell} (hS : S[i]? = some c) (hc : Sk c m) (hm : m ≤ 10000) :
    ∃ T c', w__law_some_ties [.ref i, .int N] S = some (.lst (T.map pairD), S.set i c') ∧ Ties N T ∧ Sk c' (m + 100) := by
  obtain ⟨d, S', e, T, c', x, rfl, hT, hc', hfd⟩ := some_ties_in h0 hn hc hm
  refine ⟨T, c', pure1_eq rfl hS (sk_free hc) e (sk_free hc') ?_, hT, hc'⟩
  rcases hfd with rfl | ⟨rfl, h⟩
  · exact thawD_of (noRefs_pairs T)
  · exact thawD_lst h (noRefs_pairs T)
end LW

namespace LW
open PySem PySem.Spec L2 TL DL
open PyProof.Rows hiding pairD cutD
/-! # the drawn order -/
theorem er_map {α β : Type} (f : α → β) : ∀ (l : List α) (k : Nat), (l.map f).eraseIdx k = (l.eraseIdx k).map f
  | [], _ => rfl
  | _ :: _, 0 => rfl
  | x :: l, k + 1 => congrArg (f x :: ·) (er_map f l k)
theorem er_perm {α : Type} : ∀ (l : List α) (k : Nat) (h : k < l.length), (l[k] :: l.eraseIdx k).Perm l
  | x :: l, 0, _ => List.Perm.refl _
  | x :: l, k + 1, h => (List.Perm.swap x (l[k]'(Nat.lt_of_succ_lt_succ h)) (l.eraseIdx k)).trans ((er_perm l k (Nat.lt_of_succ_lt_succ h)).cons x)
def upto (N : Int) : List Int := (List.range N.toNat).map fun (k : Nat) => (0 : Int) + (k : Int)
theorem range_upto (N : Int) : rangeD 0 N = (upto N).map D.int := by
  unfold rangeD upto
  rw [List.map_map, Int.sub_zero]
  rfl
theorem upto_len {N : Int} (h : 0 ≤ N) : ((upto N).length : Int) = N := by
  unfold upto
  rw [List.length_map, List.length_range]
  omega
theorem upto_row (N : Int) : Row N (upto N) := by
  constructor
  · unfold upto List.Nodup
    rw [List.pairwise_map]
    refine List.nodup_range.imp ?_
    intro a b h e
    exact h (by omega)
  · intro x hx
    obtain ⟨k, hk, rfl⟩ := List.mem_map.mp hx
    rw [List.mem_range] at hk
    omega
theorem Row.perm {N : Int} {xs ys : List Int} (h : Row N xs) (p : ys.Perm xs) : Row N ys := ⟨p.nodup_iff.mpr h.nd, fun x hx => h.rng x (p.mem_iff.mp hx)⟩
theorem noRefs_ints : ∀ xs : List Int, noRefs (xs.map D.int) = true
  | [] => rfl
  | x :: xs => by
    show (true && noRefs (xs.map D.int)) = true
    rw [noRefs_ints xs]
    rfl
theorem some_order_in {N : Int} (h0 : 0 ≤ N) (hn : N ≤ 10) {c : Cell} {m : Nat} (hc : Sk c m) (hm : m ≤ 10000) :
    R (d__law_some_order w__law_take [.ref 0, .int N] [c]) fun d S' => ∃ (xs : List Int) (c' x : Cell), S' = [c', x, .lst (xs.map D.int)] ∧ Row N xs ∧ (xs.length : Int) = N ∧ Sk c' (m + 100) ∧ d = .ref 2 := by
  show R (runD 5 (b__law_some_order w__law_take) [.ref 0, .int N] [c]) _
  rw [wp_Run]
  show R (b__law_some_order w__law_take [some (.ref 0), some (.int N), none, none, none] [c]) _
  unfold b__law_some_order
  rw [wp_Seq]
  refine ⟨.nx [some (.ref 0), some (.int N), some (.ref 1), some (.ref 2), none], [c, .lst ((upto N).map D.int), .lst []], ?_, ?_⟩
  · have a1 : (fListRM (fVar 1)) [some (.ref 0), some (.int N), none, none, none] [c] = some (.ref 1, [c, .lst ((upto N).map D.int)]) := by
      show (if okR N = true ∧ N ≤ 16777216 then some (D.ref 1, [c, Cell.lst (rangeD 0 N)]) else none) = _
      rw [if_pos ⟨ok_range (by omega) (by omega), by omega⟩, range_upto]
    show ((((fListRM (fVar 1)) [some (.ref 0), some (.int N), none, none, none] [c]).bind _).bind _) = _
    rw [a1]
    rfl
  show R (sSeq _ _ [some (.ref 0), some (.int N), some (.ref 1), some (.ref 2), none] [c, .lst ((upto N).map D.int), .lst []]) _
  rw [wp_Seq]
  have hF : (iRange1 (fCons (fVar 1) fNil)) [some (.ref 0), some (.int N), some (.ref 1), some (.ref 2), none] [c, .lst ((upto N).map D.int), .lst []] = some (rangeD 0 N, [c, .lst ((upto N).map D.int), .lst []]) := range1_eq rfl (by omega) (by omega)
  have hul := upto_len h0
  refine r_for (S1 := [c, .lst ((upto N).map D.int), .lst []]) hF (fun i env S => ∃ (c' : Cell) (L F : List Int) (e4 : Option D), S = [c', .lst (L.map D.int), .lst (F.map D.int)] ∧ Sk c' (m + i) ∧ (F ++ L).Perm (upto N) ∧ F.length = i ∧ env = [some (.ref 0), some (.int N), some (.ref 1), some (.ref 2), e4]) ?_ ?_ ?_
  · exact ⟨c, upto N, [], none, rfl, hc, List.Perm.refl _, rfl, rfl⟩
  · rintro i d env S hi ⟨c', L, F, e4, rfl, hc', hp, hl, rfl⟩
    have hiN : i < (rangeD 0 N).length := (List.getElem?_eq_some_iff.mp hi).1
    rw [range_upto, List.length_map] at hiN
    have hpl := hp.length_eq
    rw [List.length_append] at hpl
    refine ⟨[some (.ref 0), some (.int N), some (.ref 1), some (.ref 2), some d], _, rfl, ?_⟩
    obtain ⟨j, c5, e5, j0, j1, hc5⟩ := takeS (rest := [.lst (L.map D.int), .lst (F.map D.int)]) hc' (by omega) (L.length : Int) (by omega) (by omega)
    obtain ⟨k, rfl⟩ := Int.eq_ofNat_of_zero_le j0
    have hk : k < L.length := by omega
    have a1 : (fCall w__law_take (fCons (fVar 0) (fCons (fCall cLen (fCons (fVar 2) fNil)) fNil))) [some (.ref 0), some (.int N), some (.ref 1), some (.ref 2), some d] [c', .lst (L.map D.int), .lst (F.map D.int)] = some (.int (k : Int), [c5, .lst (L.map D.int), .lst (F.map D.int)]) := by
      refine call_of (S1 := [c', .lst (L.map D.int), .lst (F.map D.int)]) (ds := [.ref 0, .int (L.length : Int)]) ?_ e5
      show some ([D.ref 0, D.int ((L.map D.int).length : Int)], [c', Cell.lst (L.map D.int), .lst (F.map D.int)]) = _
      rw [List.length_map]
    have a2 : (fPopAt (fVar 2) (fCall w__law_take (fCons (fVar 0) (fCons (fCall cLen (fCons (fVar 2) fNil)) fNil)))) [some (.ref 0), some (.int N), some (.ref 1), some (.ref 2), some d] [c', .lst (L.map D.int), .lst (F.map D.int)] = some (.int L[k], [c5, .lst ((L.eraseIdx k).map D.int), .lst (F.map D.int)]) := by
      show (((fCall w__law_take (fCons (fVar 0) (fCons (fCall cLen (fCons (fVar 2) fNil)) fNil))) [some (.ref 0), some (.int N), some (.ref 1), some (.ref 2), some d] [c', .lst (L.map D.int), .lst (F.map D.int)]).bind _) = _
      rw [a1]
      show (if -1000000 ≤ (k : Int) ∧ (k : Int) ≤ 1000000 then (seqIndex? (k : Int) (L.map D.int).length).bind fun j => ((L.map D.int)[j]?).map fun d => (d, [c5, Cell.lst ((L.map D.int).eraseIdx j), .lst (F.map D.int)]) else none) = _
      have hs : seqIndex? (k : Int) (L.map D.int).length = some k := by
        have : ixN (L.map D.int).length (k : Int) = some k := by
          unfold ixN
          rw [List.length_map, if_pos (by omega), if_pos (by omega)]
          rfl
        exact (ixN_seq this).1
      rw [if_pos (by omega), hs]
      show ((L.map D.int)[k]?).map _ = _
      rw [List.getElem?_map, List.getElem?_eq_getElem hk, er_map]
      rfl
    have a3 : (fAppend (fVar 3) (fPopAt (fVar 2) (fCall w__law_take (fCons (fVar 0) (fCons (fCall cLen (fCons (fVar 2) fNil)) fNil))))) [some (.ref 0), some (.int N), some (.ref 1), some (.ref 2), some d] [c', .lst (L.map D.int), .lst (F.map D.int)] = some (.non, [c5, .lst ((L.eraseIdx k).map D.int), .lst ((F ++ [L[k]]).map D.int)]) := by
      show (((fPopAt (fVar 2) (fCall w__law_take (fCons (fVar 0) (fCons (fCall cLen (fCons (fVar 2) fNil)) fNil)))) [some (.ref 0), some (.int N), some (.ref 1), some (.ref 2), some d] [c', .lst (L.map D.int), .lst (F.map D.int)]).bind _) = _
      rw [a2]
      show (if (F.map D.int).length ≤ 1000000 then some (D.non, [c5, Cell.lst ((L.eraseIdx k).map D.int), .lst (F.map D.int ++ [D.int L[k]])]) else none) = _
      rw [if_pos (by rw [List.length_map]; omega), List.map_append]
      rfl
    refine ⟨_, _, expr_of a3, c5, L.eraseIdx k, F ++ [L[k]], _, rfl, hc5, ?_, by simp [hl], rfl⟩
    have p1 : (L[k] :: L.eraseIdx k).Perm L := er_perm L k hk
    rw [List.append_assoc]
    exact ((List.Perm.refl F).append p1).trans hp
  · rintro env S ⟨c', L, F, e4, rfl, hc', hp, hl, rfl⟩
    rw [range_upto, List.length_map] at hl hc'
    have hpl := hp.length_eq
    rw [List.length_append] at hpl
    have hL : L = [] := List.eq_nil_of_length_eq_zero (by omega)
    subst hL
    rw [List.append_nil] at hp
    refine ⟨_, _, rfl, F, c', _, rfl, (upto_row N).perm hp, by omega, hc'.mono (by omega), rfl⟩
theorem some_order_eq {N : Int} (h0 : 0 ≤ N) (hn : N ≤ 10) {S : Sto} {i m : Nat} {c : Cell} (hS : S[i]? = some c) (hc : Sk c m) (hm : m ≤ 10000) :
    ∃ xs c', w__law_some_order [.ref i, .int N] S = some (.lst (xs.map D.int), S.set i c') ∧ Row N xs ∧ (xs.length : Int) = N ∧ Sk c' (m + 100) := by
  obtain ⟨d, S', e, xs, c', x, rfl, hr, hl, hc', rfl⟩ := some_order_in h0 hn hc hm
  exact ⟨xs, c', pure1_eq rfl hS (sk_free hc) e (sk_free hc') (thawD_lst rfl (noRefs_ints xs)), hr, hl, hc'⟩
end LW

namespace LW
open PySem PySem.Spec L2 TL DL
open PyProof.Rows hiding pairD cutD
/-! # papers near a row -/
def PN (d : D) : Prop := Paper d ∧ noRef d = true
def IL (es : List D) : Prop := ∀ e ∈ es, pk e = true ∧ noRef e = true
theorem noRefs_of : ∀ {es : List D}, IL es → noRefs es = true
  | [], _ => rfl
  | e :: es, h => by
    show (noRef e && noRefs es) = true
    rw [(h e (List.mem_cons_self ..)).2, noRefs_of fun x hx => h x (List.mem_cons_of_mem _ hx)]
    rfl
theorem pn_tup {es : List D} (h : IL es) (hl : es.length ≤ 1000) : PN (.tup es) := ⟨⟨rfl, fun ds e => by cases e; exact ⟨fun x hx => (h x hx).1, hl⟩⟩, noRefs_of h⟩
theorem pn_lst {es : List D} (h : IL es) : PN (.lst es) := ⟨⟨rfl, fun ds e => by cases e⟩, noRefs_of h⟩
theorem pn_int (i : Int) : PN (.int i) := ⟨⟨rfl, fun ds e => by cases e⟩, rfl⟩
theorem pn_bl (i : Bool) : PN (.bl i) := ⟨⟨rfl, fun ds e => by cases e⟩, rfl⟩
theorem pn_non : PN .non := ⟨⟨rfl, fun ds e => by cases e⟩, rfl⟩
theorem pn_str (x : Str) : PN (.str x) := ⟨⟨rfl, fun ds e => by cases e⟩, rfl⟩
theorem pn_dct : PN (.dct [] []) := ⟨⟨rfl, fun ds e => by cases e⟩, rfl⟩
theorem il_ints (xs : List Int) : IL (xs.map D.int) := fun e he => by
  obtain ⟨x, _, rfl⟩ := List.mem_map.mp he
  exact ⟨rfl, rfl⟩
theorem il_app {a b : List D} (h : IL a) (g : IL b) : IL (a ++ b) := fun e he => by
  rcases List.mem_append.mp he with he | he
  · exact h e he
  · exact g e he
theorem il_nil : IL [] := fun e he => by cases he
theorem il_cons {d : D} {es : List D} (h : pk d = true) (h2 : noRef d = true) (g : IL es) : IL (d :: es) := fun e he => by
  rcases List.mem_cons.mp he with rfl | he
  · exact ⟨h, h2⟩
  · exact g e he
theorem il_cut {a : List D} (h : IL a) (lo hi : Option Int) : IL (DL.cutD a lo hi) := fun e he => h e (List.mem_of_mem_drop (List.mem_of_mem_take he))
theorem il_rev {a : List D} (h : IL a) : IL a.reverse := fun e he => h e (List.mem_reverse.mp he)
theorem cut_len {α : Type} (a : List α) (lo hi : Option Int) : (DL.cutD a lo hi).length ≤ a.length := by
  unfold DL.cutD
  rw [List.length_take, List.length_drop]
  omega
theorem cut_map {xs : List Int} {lo hi : Option Int} : DL.cutD (xs.map D.int) lo hi = (DL.cutD xs lo hi).map D.int := by
  unfold DL.cutD
  rw [List.length_map, ← List.map_drop, ← List.map_take]
theorem join_le (y : Str) (hy : y.length = 2) : ∀ {ts : List Str}, (∀ t ∈ ts, t.length ≤ 2) → (Str.join y ts).length ≤ 4 * ts.length
  | [], _ => Nat.zero_le _
  | [x], h => by
    have := h x (List.mem_cons_self ..)
    show x.length ≤ 4
    omega
  | x :: z :: r, h => by
    have ih := join_le y hy (ts := z :: r) fun t ht => h t (List.mem_cons_of_mem _ ht)
    have := h x (List.mem_cons_self ..)
    show (x ++ y ++ Str.join y (z :: r)).length ≤ _
    rw [app_len, app_len, hy, List.length_cons]
    omega
theorem shown_ints : ∀ xs : List Int, PyData.shownAll (xs.map PyData.int) = xs.map numS
  | [] => rfl
  | x :: xs => by
    show numS x :: PyData.shownAll (xs.map PyData.int) = _
    rw [shown_ints xs]
    rfl
theorem toPs_ints : ∀ xs : List Int, toPs (xs.map D.int) = some (xs.map PyData.int)
  | [] => rfl
  | x :: xs => by
    show (toPs (xs.map D.int)).map _ = _
    rw [toPs_ints xs]
    rfl
theorem showable_ints : ∀ {xs : List Int}, (∀ x ∈ xs, 0 ≤ x ∧ x ≤ 10) → PyData.showableAll (xs.map PyData.int) = true
  | [], _ => rfl
  | x :: xs, h => by
    have hx := h x (List.mem_cons_self ..)
    show (decide (x.natAbs.log2 < 1920) && PyData.showableAll (xs.map PyData.int)) = true
    rw [showable_ints fun y hy => h y (List.mem_cons_of_mem _ hy), decide_eq_true (log_small hx.1 hx.2)]
    rfl
theorem hasDict_ints : ∀ xs : List Int, PyData.hasDictAll (xs.map PyData.int) = false
  | [] => rfl
  | x :: xs => by
    show (false || PyData.hasDictAll (xs.map PyData.int)) = false
    rw [hasDict_ints xs]
    rfl
theorem depth_ints : ∀ xs : List Int, PyData.depthAll (xs.map PyData.int) = 0
  | [] => rfl
  | x :: xs => by
    show max 0 (PyData.depthAll (xs.map PyData.int)) = 0
    rw [depth_ints xs]
    rfl
theorem str_row {xs : List Int} (h : ∀ x ∈ xs, 0 ≤ x ∧ x ≤ 10) (hl : xs.length ≤ 100) (S : Sto) : cStrX [.tup (xs.map D.int)] S = some (.str (PyData.shown (.tuple (xs.map PyData.int))), S) := by
  show ((toPs (xs.map D.int)).map PyData.tuple).bind _ = _
  rw [toPs_ints]
  show (if isSeqD (.tup (xs.map D.int)) = true ∧ PyData.showableAll (xs.map PyData.int) = true ∧ PyData.hasDictAll (xs.map PyData.int) = false ∧ PyData.depthAll (xs.map PyData.int) + 1 ≤ 50 ∧ (PyData.shown (.tuple (xs.map PyData.int))).length ≤ 16777216 then some (D.str (PyData.shown (.tuple (xs.map PyData.int))), S) else none) = _
  rw [if_pos]
  refine ⟨rfl, showable_ints h, hasDict_ints xs, by rw [depth_ints]; omega, ?_⟩
  show (tupleText (PyData.shownAll (xs.map PyData.int))).length ≤ _
  rw [shown_ints]
  unfold tupleText
  rw [app_len, app_len]
  have j := join_le ", " (by decide +kernel) (ts := xs.map numS) fun t ht => by
    obtain ⟨x, hx, rfl⟩ := List.mem_map.mp ht
    exact (num_people (h x hx).1 (h x hx).2).2.2
  rw [List.length_map] at j
  have l1 : ("(" : Str).length = 1 := by decide +kernel
  have l2 : ∀ b : Bool, ((if b = true then ",)" else ")" : String) : Str).length ≤ 2 := by decide +kernel
  have := l2 ((xs.map numS).length == 1)
  omega
end LW

namespace LW
open PySem PySem.Spec L2 TL DL
open PyProof.Rows hiding pairD cutD
theorem all_nil {Q : D → Prop} : ∀ p ∈ ([] : List D), Q p := fun p h => by cases h
theorem all_cons {Q : D → Prop} {d : D} {ds : List D} (h : Q d) (g : ∀ p ∈ ds, Q p) : ∀ p ∈ d :: ds, Q p := fun p hp => by
  rcases List.mem_cons.mp hp with rfl | hp
  · exact h
  · exact g p hp
theorem near_a {xs : List Int} {N sp : Int} (h : ∀ x ∈ xs, 0 ≤ x ∧ x ≤ 10) (hl : xs.length ≤ 11) (e4 e5 e6 e7 e8 e9 e10 : Option D) (S : Sto) :
    R ((fLst (fCons (fCall cListX (fCons (fVar 2) fNil)) (fCons (fC .non) (fCons (fTup fNil) (fCons (fRevT (fVar 2)) (fCons (fSlX (fVar 2) (oSome (fC (.int 1))) oNone) (fCons (fSlX (fVar 2) oNone (oSome (fUn gNeg (fC (.int 1))))) (fCons (fBin gAddX (fVar 2) (fSlX (fVar 2) oNone (oSome (fC (.int 1))))) (fCons (fTup (fCons (fVar 2) fNil)) (fCons (fCall cStrX (fCons (fVar 2) fNil)) (fCons (fC (.int 0)) (fCons (fC (.dct [] [])) fNil)))))))))))) [some (.ref 0), some (.int N), some (.tup (xs.map D.int)), some (.int sp), e4, e5, e6, e7, e8, e9, e10] S) fun d S' => S' = S ∧ ∃ ps, d = .lst ps ∧ (∀ p ∈ ps, PN p) ∧ ps.length ≤ 11 := by
  simp only [R_some, wb_bl, wi_int, wstr_str, wtup_tup, wlst_lst, wref_ref, wp_var0, wp_varS, wp_C, wp_Bin, wp_neg, wp_nil, wp_cons, wp_tup, wp_lst, wp_lstM, wp_Call, wp_And, wp_Or, wp_Not, wp_Test, wp_tAnd, wp_tOr, wp_tNot, wp_If, wp_Chain, wp_Skip, wp_Break, wp_Cont, wp_Never, wp_fNever, wp_Seq, wp_pfl_nx, wp_pfl_rt, wp_pfl_bk, wp_pfl_ct, wp_Expr, wp_Ret, wp_sIf, wp_Asg, wp_N, wp_gNil, wp_gCons, wp_gTup, wp_gSub, wp_Par, wp_two, wp_Run, wp_run_rt, wp_run_nx, wp_bk_nx, wp_bk_ct, wp_bk_bk, wp_bk_rt, wp_r1, wp_r2, wp_add, wp_addL, wp_addS, wp_mul, wp_fdiv, wp_mod, wp_I0, wp_eqI, wp_eqS, wp_eqB, wp_neI, wp_neS, wp_neB, wp_isN, wp_notN, isn_int, isn_non, isn_str, isn_tup, isn_lst, isn_ref, isn_bl, wp_isi, wp_someB, isi_str_str, isi_int_int, isi_int_bl, isi_bool_int, isi_bool_bl, isi_int_non, isi_int_str, isi_tuple_tup, wp_abs, wp_max2, wp_min2, wp_maxT, wp_intI, wp_intB, wp_lenS, wp_lenT, wp_lenL, wp_lenC, wp_divmod, wp_listL, wp_listT, wp_tupL, wp_tupT, wp_KIn, wp_strE, wp_Fld, wp_FldO, wp_Meth, wp_MakeF, wp_someL, wp_iR1, wp_iR2, wp_iLst, wp_iTup, wp_Prop, wp_IsC, wp_DGet1, wp_DIn, wp_gUnl, wp_DictK, wp_rep, wp_MethK, wp_CallK, wp_DispF, wp_DIx, wp_someX, wp_ixL, wp_ixT, wp_ixC, atI0, atI1, atI2, ixN0, ixN1, wp_Sl, wp_oNone, wp_oSome, wp_slC, wp_slL, wp_slS, str_eq, String.reduceEq, in_ring_crowd, in_ring_star, in_ring_pairs, in_ring_row, in_ring_ring, in_ring_core, in_ring_linked, in_ring_odd_ring, in_ring_even_ring, Bool.or_self, Bool.and_self, wp_Lc, wp_Yes, wp_pow10_9, wp_pow10_18, wp_pow10_40, wp_For, wp_sFld, wp_last, set_last, wp_KIx, wp_inT, wp_inL, eqF_str, flat_str, flat_int, flat_non, List.any_cons, List.any_nil, List.all_cons, List.all_nil, Bool.and_true, Bool.or_false, Bool.true_and, Bool.false_and, Bool.and_false, Bool.false_or, Bool.or_true, Bool.true_or, Bool.not_not, List.map_cons, List.map_nil, List.length_cons, List.length_nil, List.cons_append, List.nil_append, List.append_nil, List.set_cons_zero, List.set_cons_succ, List.replicate_succ, List.replicate_zero, Nat.reduceSub, Nat.reduceAdd, Nat.reduceLeDiff, Nat.zero_add, Nat.sub_self, decide_eq_true_eq, Bool.not_eq_true', Bool.not_eq_eq_eq_not, Bool.not_true, Bool.not_false, decide_eq_false_iff_not, if_true, if_false, reduceIte, Bool.false_eq_true, true_and, and_true, decide_true, decide_false, Bool.true_eq_false, eq_self, wp_lxT, wp_RevT, wp_SlX, wp_sXt, wp_aXt, eq_R (str_row h (by omega) S)]
  have l0 : (xs.map D.int).length ≤ 11 := by rw [List.length_map]; exact hl
  have l1 := fun lo hi => cut_len (xs.map D.int) lo hi
  have il := il_ints xs
  have q1 := l1 none (some 1)
  have q2 := l1 (some 1) none
  have q3 := l1 none (some (-1))
  refine ⟨by omega, _, rfl, ?_, by simp⟩
  exact all_cons (pn_lst il) (all_cons pn_non (all_cons (pn_tup il_nil (by simp)) (all_cons (pn_tup (il_rev il) (by rw [List.length_reverse]; omega)) (all_cons (pn_tup (il_cut il _ _) (by omega)) (all_cons (pn_tup (il_cut il _ _) (by omega)) (all_cons (pn_tup (il_app il (il_cut il _ _)) (by rw [List.length_append]; omega)) (all_cons (pn_tup (il_cons rfl (noRefs_of il) il_nil) (by simp)) (all_cons (pn_str _) (all_cons (pn_int _) (all_cons pn_dct all_nil))))))))))
theorem near_b {xs : List Int} {N sp : Int} (hl : xs.length ≤ 11) (ps : List D) (hps : ps.length ≤ 11) (hp : ∀ p ∈ ps, PN p) (e5 e6 e7 e8 e9 e10 : Option D) (c : Cell) :
    R ((fBin gAddM (fVar 4) (fLst (fCons (fC (.bl true)) (fCons (fBin gAddX (fVar 2) (fTup (fCons (fVar 3) fNil))) (fCons (fBin gAddX (fTup (fCons (fVar 3) fNil)) (fVar 2)) (fCons (fCall cTupleX (fCons (fCall cSorted (fCons (fVar 2) fNil)) fNil)) (fCons (fBin gAddX (fSlX (fVar 2) (oSome (fC (.int 1))) oNone) (fSlX (fVar 2) oNone (oSome (fC (.int 1))))) (fCons (fVar 2) fNil)))))))) [some (.ref 0), some (.int N), some (.tup (xs.map D.int)), some (.int sp), some (.lst ps), e5, e6, e7, e8, e9, e10] [c]) fun d S' => d = .ref 1 ∧ ∃ fs, S' = [c, .lst fs] ∧ (∀ p ∈ fs, PN p) ∧ fs.length ≤ 17 := by
  simp only [R_some, wb_bl, wi_int, wstr_str, wtup_tup, wlst_lst, wref_ref, wp_var0, wp_varS, wp_C, wp_Bin, wp_neg, wp_nil, wp_cons, wp_tup, wp_lst, wp_lstM, wp_Call, wp_And, wp_Or, wp_Not, wp_Test, wp_tAnd, wp_tOr, wp_tNot, wp_If, wp_Chain, wp_Skip, wp_Break, wp_Cont, wp_Never, wp_fNever, wp_Seq, wp_pfl_nx, wp_pfl_rt, wp_pfl_bk, wp_pfl_ct, wp_Expr, wp_Ret, wp_sIf, wp_Asg, wp_N, wp_gNil, wp_gCons, wp_gTup, wp_gSub, wp_Par, wp_two, wp_Run, wp_run_rt, wp_run_nx, wp_bk_nx, wp_bk_ct, wp_bk_bk, wp_bk_rt, wp_r1, wp_r2, wp_add, wp_addL, wp_addS, wp_mul, wp_fdiv, wp_mod, wp_I0, wp_eqI, wp_eqS, wp_eqB, wp_neI, wp_neS, wp_neB, wp_isN, wp_notN, isn_int, isn_non, isn_str, isn_tup, isn_lst, isn_ref, isn_bl, wp_isi, wp_someB, isi_str_str, isi_int_int, isi_int_bl, isi_bool_int, isi_bool_bl, isi_int_non, isi_int_str, isi_tuple_tup, wp_abs, wp_max2, wp_min2, wp_maxT, wp_intI, wp_intB, wp_lenS, wp_lenT, wp_lenL, wp_lenC, wp_divmod, wp_listL, wp_listT, wp_tupL, wp_tupT, wp_KIn, wp_strE, wp_Fld, wp_FldO, wp_Meth, wp_MakeF, wp_someL, wp_iR1, wp_iR2, wp_iLst, wp_iTup, wp_Prop, wp_IsC, wp_DGet1, wp_DIn, wp_gUnl, wp_DictK, wp_rep, wp_MethK, wp_CallK, wp_DispF, wp_DIx, wp_someX, wp_ixL, wp_ixT, wp_ixC, atI0, atI1, atI2, ixN0, ixN1, wp_Sl, wp_oNone, wp_oSome, wp_slC, wp_slL, wp_slS, str_eq, String.reduceEq, in_ring_crowd, in_ring_star, in_ring_pairs, in_ring_row, in_ring_ring, in_ring_core, in_ring_linked, in_ring_odd_ring, in_ring_even_ring, Bool.or_self, Bool.and_self, wp_Lc, wp_Yes, wp_pow10_9, wp_pow10_18, wp_pow10_40, wp_For, wp_sFld, wp_last, set_last, wp_KIx, wp_inT, wp_inL, eqF_str, flat_str, flat_int, flat_non, List.any_cons, List.any_nil, List.all_cons, List.all_nil, Bool.and_true, Bool.or_false, Bool.true_and, Bool.false_and, Bool.and_false, Bool.false_or, Bool.or_true, Bool.true_or, Bool.not_not, List.map_cons, List.map_nil, List.length_cons, List.length_nil, List.cons_append, List.nil_append, List.append_nil, List.set_cons_zero, List.set_cons_succ, List.replicate_succ, List.replicate_zero, Nat.reduceSub, Nat.reduceAdd, Nat.reduceLeDiff, Nat.zero_add, Nat.sub_self, decide_eq_true_eq, Bool.not_eq_true', Bool.not_eq_eq_eq_not, Bool.not_true, Bool.not_false, decide_eq_false_iff_not, if_true, if_false, reduceIte, Bool.false_eq_true, true_and, and_true, decide_true, decide_false, Bool.true_eq_false, eq_self, wp_txL, wp_SlX, wp_sXt, wp_aXt, eq_R (sortedT_ints xs [c] (by omega)), wp_aMl]
  have l0 : (xs.map D.int).length ≤ 11 := by rw [List.length_map]; exact hl
  have l1 := fun lo hi => cut_len (xs.map D.int) lo hi
  have il := il_ints xs
  have q1 := l1 none (some 1)
  have q2 := l1 (some 1) none
  have q3 : ((isort leI xs).map D.int).length ≤ 11 := by rw [List.length_map, (isort_perm leI xs).length_eq]; exact hl
  refine ⟨by omega, by omega, by omega, by omega, _, rfl, ?_, by rw [List.length_append]; simp; omega⟩
  intro p hm
  rcases List.mem_append.mp hm with hm | hm
  · exact hp p hm
  · refine all_cons (Q := PN) (pn_bl _) (all_cons (pn_tup (il_app il (il_cons rfl rfl il_nil)) (by rw [List.length_append]; simp; omega)) (all_cons (pn_tup (il_cons rfl rfl il) (by simp; omega)) (all_cons (pn_tup (il_ints _) (by omega)) (all_cons (pn_tup (il_app (il_cut il _ _) (il_cut il _ _)) (by rw [List.length_append]; omega)) (all_cons (pn_tup il (by omega)) all_nil))))) p hm
end LW

namespace LW
open PySem PySem.Spec L2 TL DL
open PyProof.Rows hiding pairD cutD
abbrev NE (N : Int) (xs : List Int) (sp : Int) (e4 : Option D) (a l v : Int) (e8 e9 e10 : Option D) : DEnv := [some (.ref 0), some (.int N), some (.tup (xs.map D.int)), some (.int sp), e4, some (.int a), some (.int l), some (.int v), e8, e9, e10]
theorem near_c {xs : List Int} {N sp a l v : Int} (h0 : 0 ≤ v) (h1 : v ≤ 10) (e4 e8 e9 e10 : Option D) (S : Sto) :
    R ((fLst (fCons (fUn gNeg (fC (.int 1))) (fCons (fBin gSubI (fVar 7) (fVar 1)) (fCons (fBin gAddX (fVar 7) (fVar 1)) (fCons (fC (.bl true)) (fCons (fC (.bl false)) (fCons (fC .non) (fCons (fCall cStrX (fCons (fVar 7) fNil)) (fCons (fTup (fCons (fVar 7) fNil)) (fCons (fLst (fCons (fVar 7) fNil)) (fCons (fC (.dct [] [])) (fCons (fBin gPow (fC (.int 10)) (fC (.int 40))) fNil)))))))))))) (NE N xs sp e4 a l v e8 e9 e10) S) fun d S' => S' = S ∧ ∃ ps, d = .lst ps ∧ IL ps ∧ ps.length ≤ 11 := by
  simp only [R_some, wb_bl, wi_int, wstr_str, wtup_tup, wlst_lst, wref_ref, wp_var0, wp_varS, wp_C, wp_Bin, wp_neg, wp_nil, wp_cons, wp_tup, wp_lst, wp_lstM, wp_Call, wp_And, wp_Or, wp_Not, wp_Test, wp_tAnd, wp_tOr, wp_tNot, wp_If, wp_Chain, wp_Skip, wp_Break, wp_Cont, wp_Never, wp_fNever, wp_Seq, wp_pfl_nx, wp_pfl_rt, wp_pfl_bk, wp_pfl_ct, wp_Expr, wp_Ret, wp_sIf, wp_Asg, wp_N, wp_gNil, wp_gCons, wp_gTup, wp_gSub, wp_Par, wp_two, wp_Run, wp_run_rt, wp_run_nx, wp_bk_nx, wp_bk_ct, wp_bk_bk, wp_bk_rt, wp_r1, wp_r2, wp_add, wp_addL, wp_addS, wp_mul, wp_fdiv, wp_mod, wp_I0, wp_eqI, wp_eqS, wp_eqB, wp_neI, wp_neS, wp_neB, wp_isN, wp_notN, isn_int, isn_non, isn_str, isn_tup, isn_lst, isn_ref, isn_bl, wp_isi, wp_someB, isi_str_str, isi_int_int, isi_int_bl, isi_bool_int, isi_bool_bl, isi_int_non, isi_int_str, isi_tuple_tup, wp_abs, wp_max2, wp_min2, wp_maxT, wp_intI, wp_intB, wp_lenS, wp_lenT, wp_lenL, wp_lenC, wp_divmod, wp_listL, wp_listT, wp_tupL, wp_tupT, wp_KIn, wp_strE, wp_Fld, wp_FldO, wp_Meth, wp_MakeF, wp_someL, wp_iR1, wp_iR2, wp_iLst, wp_iTup, wp_Prop, wp_IsC, wp_DGet1, wp_DIn, wp_gUnl, wp_DictK, wp_rep, wp_MethK, wp_CallK, wp_DispF, wp_DIx, wp_someX, wp_ixL, wp_ixT, wp_ixC, atI0, atI1, atI2, ixN0, ixN1, wp_Sl, wp_oNone, wp_oSome, wp_slC, wp_slL, wp_slS, str_eq, String.reduceEq, in_ring_crowd, in_ring_star, in_ring_pairs, in_ring_row, in_ring_ring, in_ring_core, in_ring_linked, in_ring_odd_ring, in_ring_even_ring, Bool.or_self, Bool.and_self, wp_Lc, wp_Yes, wp_pow10_9, wp_pow10_18, wp_pow10_40, wp_For, wp_sFld, wp_last, set_last, wp_KIx, wp_inT, wp_inL, eqF_str, flat_str, flat_int, flat_non, List.any_cons, List.any_nil, List.all_cons, List.all_nil, Bool.and_true, Bool.or_false, Bool.true_and, Bool.false_and, Bool.and_false, Bool.false_or, Bool.or_true, Bool.true_or, Bool.not_not, List.map_cons, List.map_nil, List.length_cons, List.length_nil, List.cons_append, List.nil_append, List.append_nil, List.set_cons_zero, List.set_cons_succ, List.replicate_succ, List.replicate_zero, Nat.reduceSub, Nat.reduceAdd, Nat.reduceLeDiff, Nat.zero_add, Nat.sub_self, decide_eq_true_eq, Bool.not_eq_true', Bool.not_eq_eq_eq_not, Bool.not_true, Bool.not_false, decide_eq_false_iff_not, if_true, if_false, reduceIte, Bool.false_eq_true, true_and, and_true, decide_true, decide_false, Bool.true_eq_false, eq_self, eq_R (str_of h0 h1 S), wp_aXi]
  exact ⟨_, rfl, il_cons rfl rfl (il_cons rfl rfl (il_cons rfl rfl (il_cons rfl rfl (il_cons rfl rfl (il_cons rfl rfl (il_cons rfl rfl (il_cons rfl rfl (il_cons rfl rfl (il_cons rfl rfl (il_cons rfl rfl il_nil)))))))))), by simp⟩
def rowA (xs : List Int) (a : Int) (d : D) : List D := DL.cutD (xs.map D.int) none (some a) ++ [d] ++ DL.cutD (xs.map D.int) (some (a + 1)) none
theorem near_A {xs : List Int} {N sp a l v : Int} (hl : xs.length ≤ 11) (d : D) (e4 e8 e9 : Option D) (S : Sto) :
    (fBin gAddX (fBin gAddX (fSlX (fVar 2) oNone (oSome (fVar 5))) (fTup (fCons (fVar 10) fNil))) (fSlX (fVar 2) (oSome (fBin gAddX (fVar 5) (fC (.int 1)))) oNone)) (NE N xs sp e4 a l v e8 e9 (some d)) S = some (.tup (rowA xs a d), S) := by
  rw [← R_eq]
  simp only [R_some, wb_bl, wi_int, wstr_str, wtup_tup, wlst_lst, wref_ref, wp_var0, wp_varS, wp_C, wp_Bin, wp_neg, wp_nil, wp_cons, wp_tup, wp_lst, wp_lstM, wp_Call, wp_And, wp_Or, wp_Not, wp_Test, wp_tAnd, wp_tOr, wp_tNot, wp_If, wp_Chain, wp_Skip, wp_Break, wp_Cont, wp_Never, wp_fNever, wp_Seq, wp_pfl_nx, wp_pfl_rt, wp_pfl_bk, wp_pfl_ct, wp_Expr, wp_Ret, wp_sIf, wp_Asg, wp_N, wp_gNil, wp_gCons, wp_gTup, wp_gSub, wp_Par, wp_two, wp_Run, wp_run_rt, wp_run_nx, wp_bk_nx, wp_bk_ct, wp_bk_bk, wp_bk_rt, wp_r1, wp_r2, wp_add, wp_addL, wp_addS, wp_mul, wp_fdiv, wp_mod, wp_I0, wp_eqI, wp_eqS, wp_eqB, wp_neI, wp_neS, wp_neB, wp_isN, wp_notN, isn_int, isn_non, isn_str, isn_tup, isn_lst, isn_ref, isn_bl, wp_isi, wp_someB, isi_str_str, isi_int_int, isi_int_bl, isi_bool_int, isi_bool_bl, isi_int_non, isi_int_str, isi_tuple_tup, wp_abs, wp_max2, wp_min2, wp_maxT, wp_intI, wp_intB, wp_lenS, wp_lenT, wp_lenL, wp_lenC, wp_divmod, wp_listL, wp_listT, wp_tupL, wp_tupT, wp_KIn, wp_strE, wp_Fld, wp_FldO, wp_Meth, wp_MakeF, wp_someL, wp_iR1, wp_iR2, wp_iLst, wp_iTup, wp_Prop, wp_IsC, wp_DGet1, wp_DIn, wp_gUnl, wp_DictK, wp_rep, wp_MethK, wp_CallK, wp_DispF, wp_DIx, wp_someX, wp_ixL, wp_ixT, wp_ixC, atI0, atI1, atI2, ixN0, ixN1, wp_Sl, wp_oNone, wp_oSome, wp_slC, wp_slL, wp_slS, str_eq, String.reduceEq, in_ring_crowd, in_ring_star, in_ring_pairs, in_ring_row, in_ring_ring, in_ring_core, in_ring_linked, in_ring_odd_ring, in_ring_even_ring, Bool.or_self, Bool.and_self, wp_Lc, wp_Yes, wp_pow10_9, wp_pow10_18, wp_pow10_40, wp_For, wp_sFld, wp_last, set_last, wp_KIx, wp_inT, wp_inL, eqF_str, flat_str, flat_int, flat_non, List.any_cons, List.any_nil, List.all_cons, List.all_nil, Bool.and_true, Bool.or_false, Bool.true_and, Bool.false_and, Bool.and_false, Bool.false_or, Bool.or_true, Bool.true_or, Bool.not_not, List.map_cons, List.map_nil, List.length_cons, List.length_nil, List.cons_append, List.nil_append, List.append_nil, List.set_cons_zero, List.set_cons_succ, List.replicate_succ, List.replicate_zero, Nat.reduceSub, Nat.reduceAdd, Nat.reduceLeDiff, Nat.zero_add, Nat.sub_self, decide_eq_true_eq, Bool.not_eq_true', Bool.not_eq_eq_eq_not, Bool.not_true, Bool.not_false, decide_eq_false_iff_not, if_true, if_false, reduceIte, Bool.false_eq_true, true_and, and_true, decide_true, decide_false, Bool.true_eq_false, eq_self, wp_SlX, wp_sXt, wp_aXt, wp_aXi]
  have l0 : (xs.map D.int).length ≤ 11 := by rw [List.length_map]; exact hl
  have q1 := cut_len (xs.map D.int) none (some a)
  have q2 := cut_len (xs.map D.int) (some (a + 1)) none
  refine ⟨by omega, ?_, rfl⟩
  rw [List.length_append, List.length_cons, List.length_nil]
  omega
theorem rowA_il {xs : List Int} {a : Int} {d : D} (h1 : pk d = true) (h2 : noRef d = true) : IL (rowA xs a d) := il_app (il_app (il_cut (il_ints xs) _ _) (il_cons h1 h2 il_nil)) (il_cut (il_ints xs) _ _)
theorem rowA_len {xs : List Int} (hl : xs.length ≤ 11) (a : Int) (d : D) : (rowA xs a d).length ≤ 23 := by
  have l0 : (xs.map D.int).length ≤ 11 := by rw [List.length_map]; exact hl
  have q1 := cut_len (xs.map D.int) none (some a)
  have q2 := cut_len (xs.map D.int) (some (a + 1)) none
  unfold rowA
  rw [List.length_append, List.length_append, List.length_cons, List.length_nil]
  omega
theorem rowA_int {xs : List Int} {a y : Int} : rowA xs a (.int y) = (DL.cutD xs none (some a) ++ [y] ++ DL.cutD xs (some (a + 1)) none).map D.int := by
  unfold rowA
  rw [cut_map, cut_map, List.map_append, List.map_append]
  rfl
def bodyN : FS := (sSeq (sExpr (fAppend (fVar 4) (fBin gAddX (fBin gAddX (fSlX (fVar 2) oNone (oSome (fVar 5))) (fTup (fCons (fVar 10) fNil))) (fSlX (fVar 2) (oSome (fBin gAddX (fVar 5) (fC (.int 1)))) oNone))))
    (sIf (fTest (fCall w__law_is (fCons (fVar 10) (fCons (fC (.int 0)) (fCons (fVar 1) fNil))))) (sExpr (fAppend (fVar 4) (fCall cTupleX (fCons (fCall cSorted (fCons (fBin gAddX (fBin gAddX (fSlX (fVar 2) oNone (oSome (fVar 5))) (fTup (fCons (fVar 10) fNil))) (fSlX (fVar 2) (oSome (fBin gAddX (fVar 5) (fC (.int 1)))) oNone)) fNil)) fNil)))) sSkip))
theorem bodyN_run {xs : List Int} {N sp a l v : Int} (hl : xs.length ≤ 11) {d : D} (h1 : pk d = true) (h2 : noRef d = true) (e8 e9 : Option D) (c x : Cell) (fs : List D) (hfl : fs.length ≤ 1000) (hf : ∀ p ∈ fs, PN p) :
    ∃ fs', bodyN (NE N xs sp (some (.ref 1)) a l v e8 e9 (some d)) [c, .lst fs, x] = some (.nx (NE N xs sp (some (.ref 1)) a l v e8 e9 (some d)), [c, .lst fs', x]) ∧ (∀ p ∈ fs', PN p) ∧ fs'.length ≤ fs.length + 2 := by
  have hl2 := rowA_len hl a d
  have pA : PN (.tup (rowA xs a d)) := pn_tup (rowA_il h1 h2) (by omega)
  have a1 : (fAppend (fVar 4) (fBin gAddX (fBin gAddX (fSlX (fVar 2) oNone (oSome (fVar 5))) (fTup (fCons (fVar 10) fNil))) (fSlX (fVar 2) (oSome (fBin gAddX (fVar 5) (fC (.int 1)))) oNone))) (NE N xs sp (some (.ref 1)) a l v e8 e9 (some d)) [c, .lst fs, x] = some (.non, [c, .lst (fs ++ [.tup (rowA xs a d)]), x]) := by
    show (((fBin gAddX (fBin gAddX (fSlX (fVar 2) oNone (oSome (fVar 5))) (fTup (fCons (fVar 10) fNil))) (fSlX (fVar 2) (oSome (fBin gAddX (fVar 5) (fC (.int 1)))) oNone)) (NE N xs sp (some (.ref 1)) a l v e8 e9 (some d)) [c, .lst fs, x]).bind _) = _
    rw [near_A hl]
    show (if fs.length ≤ 1000000 then some (D.non, [c, Cell.lst (fs ++ [.tup (rowA xs a d)]), x]) else none) = _
    rw [if_pos (by omega)]
  have hf1 : ∀ p ∈ fs ++ [D.tup (rowA xs a d)], PN p := fun p hp => by
    rcases List.mem_append.mp hp with hp | hp
    · exact hf p hp
    · exact all_cons pA all_nil p hp
  have t : (fTest (fCall w__law_is (fCons (fVar 10) (fCons (fC (.int 0)) (fCons (fVar 1) fNil))))) (NE N xs sp (some (.ref 1)) a l v e8 e9 (some d)) [c, .lst (fs ++ [.tup (rowA xs a d)]), x] = some (btw 0 N d, [c, .lst (fs ++ [.tup (rowA xs a d)]), x]) :=
    test_of (call_of (S1 := [c, .lst (fs ++ [.tup (rowA xs a d)]), x]) (ds := [d, .int 0, .int N]) rfl (law_is_eq h1 0 N _))
  cases hb : btw 0 N d with
  | false =>
    rw [hb] at t
    exact ⟨_, (seq_nx (expr_of a1)).trans ((if_f t).trans rfl), hf1, by rw [List.length_append]; simp⟩
  | true =>
    rw [hb] at t
    obtain ⟨y, rfl⟩ : ∃ y, d = .int y := by
      cases d with
      | int y => exact ⟨y, rfl⟩
      | _ => cases hb
    have hlen : (DL.cutD xs none (some a) ++ [y] ++ DL.cutD xs (some (a + 1)) none).length ≤ 23 := by
      rw [rowA_int, List.length_map] at hl2
      exact hl2
    have e1 : (fCall cSorted (fCons (fBin gAddX (fBin gAddX (fSlX (fVar 2) oNone (oSome (fVar 5))) (fTup (fCons (fVar 10) fNil))) (fSlX (fVar 2) (oSome (fBin gAddX (fVar 5) (fC (.int 1)))) oNone)) fNil)) (NE N xs sp (some (.ref 1)) a l v e8 e9 (some (.int y))) [c, .lst (fs ++ [.tup (rowA xs a (.int y))]), x] = some (.lst ((isort leI (DL.cutD xs none (some a) ++ [y] ++ DL.cutD xs (some (a + 1)) none)).map .int), [c, .lst (fs ++ [.tup (rowA xs a (.int y))]), x]) := by
      refine call_of (S1 := [c, .lst (fs ++ [.tup (rowA xs a (.int y))]), x]) (ds := [.tup ((DL.cutD xs none (some a) ++ [y] ++ DL.cutD xs (some (a + 1)) none).map D.int)]) ?_ (sortedT_ints _ _ (by omega))
      rw [cons_of (near_A hl _ _ _ _ _) rfl, rowA_int]
    have e2 : (fCall cTupleX (fCons (fCall cSorted (fCons (fBin gAddX (fBin gAddX (fSlX (fVar 2) oNone (oSome (fVar 5))) (fTup (fCons (fVar 10) fNil))) (fSlX (fVar 2) (oSome (fBin gAddX (fVar 5) (fC (.int 1)))) oNone)) fNil)) fNil)) (NE N xs sp (some (.ref 1)) a l v e8 e9 (some (.int y))) [c, .lst (fs ++ [.tup (rowA xs a (.int y))]), x] = some (.tup ((isort leI (DL.cutD xs none (some a) ++ [y] ++ DL.cutD xs (some (a + 1)) none)).map .int), [c, .lst (fs ++ [.tup (rowA xs a (.int y))]), x]) :=
      call_of (cons_of e1 rfl) rfl
    have e3 : (fAppend (fVar 4) (fCall cTupleX (fCons (fCall cSorted (fCons (fBin gAddX (fBin gAddX (fSlX (fVar 2) oNone (oSome (fVar 5))) (fTup (fCons (fVar 10) fNil))) (fSlX (fVar 2) (oSome (fBin gAddX (fVar 5) (fC (.int 1)))) oNone)) fNil)) fNil))) (NE N xs sp (some (.ref 1)) a l v e8 e9 (some (.int y))) [c, .lst (fs ++ [.tup (rowA xs a (.int y))]), x] = some (.non, [c, .lst (fs ++ [.tup (rowA xs a (.int y))] ++ [.tup ((isort leI (DL.cutD xs none (some a) ++ [y] ++ DL.cutD xs (some (a + 1)) none)).map .int)]), x]) := by
      show (((fCall cTupleX _) (NE N xs sp (some (.ref 1)) a l v e8 e9 (some (.int y))) [c, .lst (fs ++ [.tup (rowA xs a (.int y))]), x]).bind _) = _
      rw [e2]
      show (if (fs ++ [D.tup (rowA xs a (.int y))]).length ≤ 1000000 then some (D.non, [c, Cell.lst (fs ++ [.tup (rowA xs a (.int y))] ++ [.tup ((isort leI (DL.cutD xs none (some a) ++ [y] ++ DL.cutD xs (some (a + 1)) none)).map .int)]), x]) else none) = _
      rw [if_pos (by rw [List.length_append]; simp; omega)]
    refine ⟨_, (seq_nx (expr_of a1)).trans ((if_t t).trans (expr_of e3)), ?_, by rw [List.length_append, List.length_append]; simp⟩
    intro p hp
    rcases List.mem_append.mp hp with hp | hp
    · exact hf1 p hp
    · refine all_cons (Q := PN) (pn_tup (il_ints _) ?_) all_nil p hp
      rw [List.length_map, (isort_perm leI _).length_eq]
      omega
end LW

namespace LW
open PySem PySem.Spec L2 TL DL
open PyProof.Rows hiding pairD cutD
theorem lay_ints : ∀ xs : List Int, PyData.canLayAll0 (xs.map PyData.int) = true
  | [] => rfl
  | x :: xs => by
    show (true && PyData.canLayAll0 (xs.map PyData.int)) = true
    rw [lay_ints xs]
    rfl
theorem sh_row (xs : List Int) : SeqAt.shaped (.tuple (xs.map PyData.int)) = true := by
  unfold SeqAt.shaped
  rw [show PyData.canLay0 (.tuple (xs.map PyData.int)) = PyData.canLayAll0 (xs.map PyData.int) from rfl, lay_ints]
  have e : PyData.depth (.tuple (xs.map PyData.int)) = PyData.depthAll (xs.map PyData.int) + 1 := rfl
  rw [e, depth_ints]
  rfl
theorem ne_row (xs : List Int) (S : Sto) : gNe (.tup (xs.map D.int)) (.tup []) S = some (.bl (!decide (xs = [])), S) := by
  have e : gNe (.tup (xs.map D.int)) (.tup []) S = (eqDeep true (.tup (xs.map D.int)) (.tup [])).map fun d => (d, S) := by
    simp only [gNe]
  have e2 : toP (.tup (xs.map D.int)) = some (.tuple (xs.map PyData.int)) := by
    show (toPs (xs.map D.int)).map _ = _
    rw [toPs_ints]
    rfl
  rw [e]
  unfold eqDeep
  rw [e2]
  show ((if SeqAt.shaped (.tuple (xs.map PyData.int)) = true ∧ SeqAt.shaped (.tuple []) = true then some (D.bl (!PyData.eqvAll (xs.map PyData.int) [])) else none : Option D).map fun d => (d, S)) = _
  rw [if_pos ⟨sh_row xs, rfl⟩]
  cases xs <;> rfl
theorem near_in {N : Int} {xs : List Int} (h0 : 0 ≤ N) (hn : N ≤ 10) (hr : Row N xs) (hx : (xs.length : Int) = N) {c : Cell} {m : Nat} (hc : Sk c m) (hm : m ≤ 10000) :
    R (d__law_near_rows w__law_is w__law_take [.ref 0, .int N, .tup (xs.map D.int)] [c]) fun d S' => ∃ (c' : Cell) (more : Sto) (ps : List D), S' = c' :: more ∧ Sk c' (m + 10) ∧ thawD (.tab "" :: more) d = some (.lst ps) ∧ (∀ p ∈ ps, PN p) ∧ ps.length ≤ 1000 := by
  have hl : xs.length ≤ 11 := by omega
  have hb : ∀ x ∈ xs, 0 ≤ x ∧ x ≤ 10 := fun x hx => by
    have := hr.rng x hx
    omega
  have noP : ∀ {ps : List D}, (∀ p ∈ ps, PN p) → noRefs ps = true := by
    intro ps h
    induction ps with
    | nil => rfl
    | cons p ps ih =>
      show (noRef p && noRefs ps) = true
      rw [(h p (List.mem_cons_self ..)).2, ih fun q hq => h q (List.mem_cons_of_mem _ hq)]
      rfl
  show R (runD 11 (b__law_near_rows w__law_is w__law_take) [.ref 0, .int N, .tup (xs.map D.int)] [c]) _
  rw [wp_Run]
  show R (b__law_near_rows w__law_is w__law_take [some (.ref 0), some (.int N), some (.tup (xs.map D.int)), none, none, none, none, none, none, none, none] [c]) _
  unfold b__law_near_rows
  rw [wp_Seq]
  obtain ⟨sp, c1, e1, s0, s1, hc1⟩ := takeS (rest := []) hc (by omega) (N + 1) (by omega) (by omega)
  refine ⟨.nx [some (.ref 0), some (.int N), some (.tup (xs.map D.int)), some (.int sp), none, none, none, none, none, none, none], [c1], set_of (i := 3) (call_of (S1 := [c]) (ds := [.ref 0, .int (N + 1)]) rfl e1), ?_⟩
  show R (sSeq _ _ [some (.ref 0), some (.int N), some (.tup (xs.map D.int)), some (.int sp), none, none, none, none, none, none, none] [c1]) _
  rw [wp_Seq]
  obtain ⟨d1, S1, ea, rfl, ps, rfl, hps, hpl⟩ := near_a (N := N) (sp := sp) hb hl none none none none none none none [c1]
  refine ⟨_, _, set_of (i := 4) ea, ?_⟩
  show R (sSeq _ _ [some (.ref 0), some (.int N), some (.tup (xs.map D.int)), some (.int sp), some (.lst ps), none, none, none, none, none, none] [c1]) _
  rw [wp_Seq]
  obtain ⟨d2, S2, eb, rfl, fs, rfl, hfs, hfl⟩ := near_b (N := N) (sp := sp) hl ps hpl hps none none none none none none c1
  refine ⟨_, _, set_of (i := 4) eb, ?_⟩
  show R (sSeq _ _ [some (.ref 0), some (.int N), some (.tup (xs.map D.int)), some (.int sp), some (.ref 1), none, none, none, none, none, none] [c1, .lst fs]) _
  rw [wp_Seq]
  have t : (fTest (fBin gNe (fVar 2) (fTup fNil))) [some (.ref 0), some (.int N), some (.tup (xs.map D.int)), some (.int sp), some (.ref 1), none, none, none, none, none, none] [c1, .lst fs] = some (!decide (xs = []), [c1, .lst fs]) := test_of (bin_of (S1 := [c1, .lst fs]) (S2 := [c1, .lst fs]) rfl rfl (ne_row xs _))
  by_cases hz : xs = []
  · rw [decide_eq_true hz] at t
    refine ⟨_, _, (if_f t).trans rfl, ?_⟩
    refine ⟨_, _, rfl, c1, [.lst fs], fs, rfl, hc1.mono (by omega), thawD_lst rfl (noP hfs), hfs, by omega⟩
  rw [decide_eq_false hz] at t
  have hpos : 0 < xs.length := List.length_pos_iff.mpr hz
  obtain ⟨a, c2, e2, a0, a1, hc2⟩ := takeS (rest := [.lst fs]) hc1 (by omega) (xs.length : Int) (by omega) (by omega)
  obtain ⟨l, c3, e3, l0, l1, hc3⟩ := takeS (rest := [.lst fs]) hc2 (by omega) (xs.length : Int) (by omega) (by omega)
  have ia := ix_row (xs := xs) rfl a0 a1
  have il := ix_row (xs := xs) rfl l0 l1
  have ra := sg_rng hr hx (i := a) a0 (by omega)
  have rl := sg_rng hr hx (i := l) l0 (by omega)
  obtain ⟨d9, S9, ec, rfl, odd, rfl, hodd, hol⟩ := near_c (xs := xs) (N := N) (sp := sp) (a := a) (l := l) (v := sg xs a) ra.1 (by omega) (some (.ref 1)) (some (.ref 2)) none none [c3, .lst fs, .lst (((xs.set a.toNat (sg xs l)).set l.toNat (sg xs a)).map D.int)]
  have main : R ((sSeq (sPar 5 6 (fCons (fCall w__law_take (fCons (fVar 0) (fCons (fCall cLen (fCons (fVar 2) fNil)) fNil))) (fCons (fCall w__law_take (fCons (fVar 0) (fCons (fCall cLen (fCons (fVar 2) fNil)) fNil))) fNil)))
    (sSeq (sPar 7 8 (fCons (fBin gIx (fVar 2) (fVar 5)) (fCons (fCall cListM (fCons (fVar 2) fNil)) fNil)))
    (sSeq (sAsg (fTup (fCons (fBin gIx (fVar 2) (fVar 6)) (fCons (fBin gIx (fVar 2) (fVar 5)) fNil))) (gTup 2 (gCons (gSub gSetA (fVar 8) (fVar 5)) (gCons (gSub gSetA (fVar 8) (fVar 6)) gNil))))
    (sSeq (sAsg (fLst (fCons (fUn gNeg (fC (.int 1))) (fCons (fBin gSubI (fVar 7) (fVar 1)) (fCons (fBin gAddX (fVar 7) (fVar 1)) (fCons (fC (.bl true)) (fCons (fC (.bl false)) (fCons (fC .non) (fCons (fCall cStrX (fCons (fVar 7) fNil)) (fCons (fTup (fCons (fVar 7) fNil)) (fCons (fLst (fCons (fVar 7) fNil)) (fCons (fC (.dct [] [])) (fCons (fBin gPow (fC (.int 10)) (fC (.int 40))) fNil)))))))))))) (gN 9))
    (sSeq (sFor (iLst (fBin gAddX (fListR1 (fBin gAddX (fVar 1) (fC (.int 1)))) (fVar 9))) (gN 10) bodyN)
    (sAsg (fBin gAddX (fVar 4) (fLst (fCons (fCall cTupleX (fCons (fVar 8) fNil)) (fCons (fBin gAddX (fSlX (fVar 2) oNone (oSome (fVar 5))) (fSlX (fVar 2) (oSome (fBin gAddX (fVar 5) (fC (.int 1)))) oNone)) (fCons (fBin gAddX (fBin gAddX (fSlX (fVar 2) oNone (oSome (fVar 5))) (fTup (fCons (fVar 7) fNil))) (fSlX (fVar 2) (oSome (fVar 5)) oNone)) fNil))))) (gN 4))))))) [some (.ref 0), some (.int N), some (.tup (xs.map D.int)), some (.int sp), some (.ref 1), none, none, none, none, none, none] [c1, .lst fs])
      fun fl S' => ∃ (ps : List D) (more : Sto) (e5 e6 e7 e8 e9 e10 : Option D), fl = .nx [some (.ref 0), some (.int N), some (.tup (xs.map D.int)), some (.int sp), some (.lst ps), e5, e6, e7, e8, e9, e10] ∧ S' = c3 :: more ∧ (∀ p ∈ ps, PN p) ∧ ps.length ≤ 1000 := by
    rw [wp_Seq]
    refine ⟨.nx [some (.ref 0), some (.int N), some (.tup (xs.map D.int)), some (.int sp), some (.ref 1), some (.int a), some (.int l), none, none, none, none], [c3, .lst fs], ?_, ?_⟩
    · have k1 : (fCall w__law_take (fCons (fVar 0) (fCons (fCall cLen (fCons (fVar 2) fNil)) fNil))) [some (.ref 0), some (.int N), some (.tup (xs.map D.int)), some (.int sp), some (.ref 1), none, none, none, none, none, none] [c1, .lst fs] = some (.int a, [c2, .lst fs]) := by
        refine call_of (S1 := [c1, .lst fs]) (ds := [.ref 0, .int (xs.length : Int)]) ?_ e2
        show some ([D.ref 0, D.int ((xs.map D.int).length : Int)], [c1, Cell.lst fs]) = _
        rw [List.length_map]
      have k2 : (fCall w__law_take (fCons (fVar 0) (fCons (fCall cLen (fCons (fVar 2) fNil)) fNil))) [some (.ref 0), some (.int N), some (.tup (xs.map D.int)), some (.int sp), some (.ref 1), none, none, none, none, none, none] [c2, .lst fs] = some (.int l, [c3, .lst fs]) := by
        refine call_of (S1 := [c2, .lst fs]) (ds := [.ref 0, .int (xs.length : Int)]) ?_ e3
        show some ([D.ref 0, D.int ((xs.map D.int).length : Int)], [c2, Cell.lst fs]) = _
        rw [List.length_map]
      unfold sPar
      rw [cons_of k1 (cons_of k2 rfl)]
      rfl
    show R (sSeq _ _ [some (.ref 0), some (.int N), some (.tup (xs.map D.int)), some (.int sp), some (.ref 1), some (.int a), some (.int l), none, none, none, none] [c3, .lst fs]) _
    rw [wp_Seq]
    refine ⟨.nx [some (.ref 0), some (.int N), some (.tup (xs.map D.int)), some (.int sp), some (.ref 1), some (.int a), some (.int l), some (.int (sg xs a)), some (.ref 2), none, none], [c3, .lst fs, .lst (xs.map D.int)], ?_, ?_⟩
    · unfold sPar
      rw [cons_of (bin_of (S1 := [c3, .lst fs]) (S2 := [c3, .lst fs]) (x := .tup (xs.map D.int)) (y := .int a) rfl rfl (ia _)) (cons_of (S1 := [c3, .lst fs, .lst (xs.map D.int)]) (call_of (S1 := [c3, .lst fs]) (ds := [.tup (xs.map D.int)]) rfl rfl) rfl)]
      rfl
    show R (sSeq _ _ [some (.ref 0), some (.int N), some (.tup (xs.map D.int)), some (.int sp), some (.ref 1), some (.int a), some (.int l), some (.int (sg xs a)), some (.ref 2), none, none] [c3, .lst fs, .lst (xs.map D.int)]) _
    rw [wp_Seq]
    refine ⟨.nx [some (.ref 0), some (.int N), some (.tup (xs.map D.int)), some (.int sp), some (.ref 1), some (.int a), some (.int l), some (.int (sg xs a)), some (.ref 2), none, none], [c3, .lst fs, .lst (((xs.set a.toNat (sg xs l)).set l.toNat (sg xs a)).map D.int)], ?_, ?_⟩
    · have k1 : (fTup (fCons (fBin gIx (fVar 2) (fVar 6)) (fCons (fBin gIx (fVar 2) (fVar 5)) fNil))) [some (.ref 0), some (.int N), some (.tup (xs.map D.int)), some (.int sp), some (.ref 1), some (.int a), some (.int l), some (.int (sg xs a)), some (.ref 2), none, none] [c3, .lst fs, .lst (xs.map D.int)] = some (.tup [.int (sg xs l), .int (sg xs a)], [c3, .lst fs, .lst (xs.map D.int)]) := by
        unfold fTup
        rw [cons_of (bin_of (S1 := [c3, .lst fs, .lst (xs.map D.int)]) (S2 := [c3, .lst fs, .lst (xs.map D.int)]) (x := .tup (xs.map D.int)) (y := .int l) rfl rfl (il _)) (cons_of (bin_of (S1 := [c3, .lst fs, .lst (xs.map D.int)]) (S2 := [c3, .lst fs, .lst (xs.map D.int)]) (x := .tup (xs.map D.int)) (y := .int a) rfl rfl (ia _)) rfl)]
        rfl
      refine asg_of k1 ?_
      clear k1 ia il ra rl ec
      obtain ⟨ka, rfl⟩ := Int.eq_ofNat_of_zero_le a0
      obtain ⟨kl, rfl⟩ := Int.eq_ofNat_of_zero_le l0
      have w1 := gset_l (S := [c3, .lst fs, .lst (xs.map D.int)]) (i := 2) rfl ka (by rw [List.length_map]; omega) (.int (sg xs kl))
      have w2 := gset_l (S := [c3, .lst fs, .lst ((xs.map D.int).set ka (.int (sg xs kl)))]) (i := 2) rfl kl (by rw [List.length_set, List.length_map]; omega) (.int (sg xs ka))
      show (((gSetA (.ref 2) (.int (ka : Int)) (.int (sg xs kl)) [c3, .lst fs, .lst (xs.map D.int)]).map _).bind _) = _
      rw [w1]
      show (((gSetA (.ref 2) (.int (kl : Int)) (.int (sg xs ka)) [c3, .lst fs, .lst ((xs.map D.int).set ka (.int (sg xs kl)))]).map _).bind _) = _
      rw [w2]
      show some (_, [c3, .lst fs, .lst (((xs.map D.int).set ka (.int (sg xs kl))).set kl (.int (sg xs ka)))]) = _
      rw [← List.map_set, ← List.map_set]
      rfl
    show R (sSeq _ _ [some (.ref 0), some (.int N), some (.tup (xs.map D.int)), some (.int sp), some (.ref 1), some (.int a), some (.int l), some (.int (sg xs a)), some (.ref 2), none, none] [c3, .lst fs, .lst (((xs.set a.toNat (sg xs l)).set l.toNat (sg xs a)).map D.int)]) _
    rw [wp_Seq]
    refine ⟨_, _, set_of (i := 9) ec, ?_⟩
    show R (sSeq _ _ (NE N xs sp (some (.ref 1)) a l (sg xs a) (some (.ref 2)) (some (.lst odd)) none) [c3, .lst fs, .lst (((xs.set a.toNat (sg xs l)).set l.toNat (sg xs a)).map D.int)]) _
    rw [wp_Seq]
    have hF : (iLst (fBin gAddX (fListR1 (fBin gAddX (fVar 1) (fC (.int 1)))) (fVar 9))) (NE N xs sp (some (.ref 1)) a l (sg xs a) (some (.ref 2)) (some (.lst odd)) none) [c3, .lst fs, .lst (((xs.set a.toNat (sg xs l)).set l.toNat (sg xs a)).map D.int)] = some ((upto (N + 1)).map D.int ++ odd, [c3, .lst fs, .lst (((xs.set a.toNat (sg xs l)).set l.toNat (sg xs a)).map D.int)]) := by
      have k1 : (fListR1 (fBin gAddX (fVar 1) (fC (.int 1)))) (NE N xs sp (some (.ref 1)) a l (sg xs a) (some (.ref 2)) (some (.lst odd)) none) [c3, .lst fs, .lst (((xs.set a.toNat (sg xs l)).set l.toNat (sg xs a)).map D.int)] = some (.lst ((upto (N + 1)).map D.int), [c3, .lst fs, .lst (((xs.set a.toNat (sg xs l)).set l.toNat (sg xs a)).map D.int)]) := by
        show (if okR (N + 1) = true ∧ N + 1 ≤ 16777216 then some (D.lst (rangeD 0 (N + 1)), _) else none) = _
        rw [if_pos ⟨ok_range (by omega) (by omega), by omega⟩, range_upto]
      have k2 := bin_of (g := gAddX) (fb := fVar 9) (S2 := [c3, .lst fs, .lst (((xs.set a.toNat (sg xs l)).set l.toNat (sg xs a)).map D.int)]) (y := .lst odd) (r := (.lst ((upto (N + 1)).map D.int ++ odd), [c3, .lst fs, .lst (((xs.set a.toNat (sg xs l)).set l.toNat (sg xs a)).map D.int)])) k1 rfl (by
        show (if ((upto (N + 1)).map D.int).length + odd.length ≤ 1000000 then some (D.lst ((upto (N + 1)).map D.int ++ odd), _) else none) = _
        have hul := upto_len (N := N + 1) (by omega)
        rw [if_pos (by rw [List.length_map]; omega)])
      unfold iLst
      rw [k2]
      rfl
    have hil : IL ((upto (N + 1)).map D.int ++ odd) := il_app (il_ints _) hodd
    have hul := upto_len (N := N + 1) (by omega)
    have hiln : ((upto (N + 1)).map D.int ++ odd).length ≤ 22 := by
      rw [List.length_append, List.length_map]
      omega
    refine r_for hF (fun i env S => ∃ (fs' : List D) (e10 : Option D), S = [c3, .lst fs', .lst (((xs.set a.toNat (sg xs l)).set l.toNat (sg xs a)).map D.int)] ∧ (∀ p ∈ fs', PN p) ∧ fs'.length ≤ 17 + 2 * i ∧ env = NE N xs sp (some (.ref 1)) a l (sg xs a) (some (.ref 2)) (some (.lst odd)) e10) ?_ ?_ ?_
    · exact ⟨fs, none, rfl, hfs, by omega, rfl⟩
    · rintro i d env S hi ⟨fs', e10, rfl, hf', hl', rfl⟩
      have hii := (List.getElem?_eq_some_iff.mp hi).1
      have hd := hil d (List.mem_of_getElem? hi)
      refine ⟨NE N xs sp (some (.ref 1)) a l (sg xs a) (some (.ref 2)) (some (.lst odd)) (some d), _, rfl, ?_⟩
      obtain ⟨fs2, er, hf2, hl2⟩ := bodyN_run (N := N) (sp := sp) (a := a) (l := l) (v := sg xs a) hl hd.1 hd.2 (some (.ref 2)) (some (.lst odd)) c3 (.lst (((xs.set a.toNat (sg xs l)).set l.toNat (sg xs a)).map D.int)) fs' (by omega) hf'
      exact ⟨_, _, er, fs2, some d, rfl, hf2, by omega, rfl⟩
    · rintro env S ⟨fs', e10, rfl, hf', hl', rfl⟩
      have hl3 : (xs.map D.int).length ≤ 11 := by rw [List.length_map]; exact hl
      have q1 := cut_len (xs.map D.int) none (some a)
      have q2 := cut_len (xs.map D.int) (some (a + 1)) none
      have q3 := cut_len (xs.map D.int) (some a) none
      have ilx := il_ints xs
      have k1 : cTupleX [.ref 2] [c3, .lst fs', .lst (((xs.set a.toNat (sg xs l)).set l.toNat (sg xs a)).map D.int)] = some (.tup (((xs.set a.toNat (sg xs l)).set l.toNat (sg xs a)).map D.int), [c3, .lst fs', .lst (((xs.set a.toNat (sg xs l)).set l.toNat (sg xs a)).map D.int)]) := rfl
      have k2 : ∀ u v w : D, gAddX (.ref 1) (.lst [u, v, w]) [c3, .lst fs', .lst (((xs.set a.toNat (sg xs l)).set l.toNat (sg xs a)).map D.int)] = some (.lst (fs' ++ [u, v, w]), [c3, .lst fs', .lst (((xs.set a.toNat (sg xs l)).set l.toNat (sg xs a)).map D.int)]) := fun u v w => by
        show (if fs'.length + 3 ≤ 1000000 then some (D.lst (fs' ++ [u, v, w]), _) else none) = _
        rw [if_pos (by omega)]
      show R (sAsg _ _ (NE N xs sp (some (.ref 1)) a l (sg xs a) (some (.ref 2)) (some (.lst odd)) e10) [c3, .lst fs', .lst (((xs.set a.toNat (sg xs l)).set l.toNat (sg xs a)).map D.int)]) _
      simp only [R_some, wb_bl, wi_int, wstr_str, wtup_tup, wlst_lst, wref_ref, wp_var0, wp_varS, wp_C, wp_Bin, wp_neg, wp_nil, wp_cons, wp_tup, wp_lst, wp_lstM, wp_Call, wp_And, wp_Or, wp_Not, wp_Test, wp_tAnd, wp_tOr, wp_tNot, wp_If, wp_Chain, wp_Skip, wp_Break, wp_Cont, wp_Never, wp_fNever, wp_Seq, wp_pfl_nx, wp_pfl_rt, wp_pfl_bk, wp_pfl_ct, wp_Expr, wp_Ret, wp_sIf, wp_Asg, wp_N, wp_gNil, wp_gCons, wp_gTup, wp_gSub, wp_Par, wp_two, wp_Run, wp_run_rt, wp_run_nx, wp_bk_nx, wp_bk_ct, wp_bk_bk, wp_bk_rt, wp_r1, wp_r2, wp_add, wp_addL, wp_addS, wp_mul, wp_fdiv, wp_mod, wp_I0, wp_eqI, wp_eqS, wp_eqB, wp_neI, wp_neS, wp_neB, wp_isN, wp_notN, isn_int, isn_non, isn_str, isn_tup, isn_lst, isn_ref, isn_bl, wp_isi, wp_someB, isi_str_str, isi_int_int, isi_int_bl, isi_bool_int, isi_bool_bl, isi_int_non, isi_int_str, isi_tuple_tup, wp_abs, wp_max2, wp_min2, wp_maxT, wp_intI, wp_intB, wp_lenS, wp_lenT, wp_lenL, wp_lenC, wp_divmod, wp_listL, wp_listT, wp_tupL, wp_tupT, wp_KIn, wp_strE, wp_Fld, wp_FldO, wp_Meth, wp_MakeF, wp_someL, wp_iR1, wp_iR2, wp_iLst, wp_iTup, wp_Prop, wp_IsC, wp_DGet1, wp_DIn, wp_gUnl, wp_DictK, wp_rep, wp_MethK, wp_CallK, wp_DispF, wp_DIx, wp_someX, wp_ixL, wp_ixT, wp_ixC, atI0, atI1, atI2, ixN0, ixN1, wp_Sl, wp_oNone, wp_oSome, wp_slC, wp_slL, wp_slS, str_eq, String.reduceEq, in_ring_crowd, in_ring_star, in_ring_pairs, in_ring_row, in_ring_ring, in_ring_core, in_ring_linked, in_ring_odd_ring, in_ring_even_ring, Bool.or_self, Bool.and_self, wp_Lc, wp_Yes, wp_pow10_9, wp_pow10_18, wp_pow10_40, wp_For, wp_sFld, wp_last, set_last, wp_KIx, wp_inT, wp_inL, eqF_str, flat_str, flat_int, flat_non, List.any_cons, List.any_nil, List.all_cons, List.all_nil, Bool.and_true, Bool.or_false, Bool.true_and, Bool.false_and, Bool.and_false, Bool.false_or, Bool.or_true, Bool.true_or, Bool.not_not, List.map_cons, List.map_nil, List.length_cons, List.length_nil, List.cons_append, List.nil_append, List.append_nil, List.set_cons_zero, List.set_cons_succ, List.replicate_succ, List.replicate_zero, Nat.reduceSub, Nat.reduceAdd, Nat.reduceLeDiff, Nat.zero_add, Nat.sub_self, decide_eq_true_eq, Bool.not_eq_true', Bool.not_eq_eq_eq_not, Bool.not_true, Bool.not_false, decide_eq_false_iff_not, if_true, if_false, reduceIte, Bool.false_eq_true, true_and, and_true, decide_true, decide_false, Bool.true_eq_false, eq_self, wp_SlX, wp_sXt, wp_aXt, wp_aXi, eq_R k1, eq_R (k2 _ _ _)]
      refine ⟨by omega, by omega, ?_, _, _, _, _, _, _, _, _, rfl, rfl, ?_, ?_⟩
      · rw [List.length_append]
        simp only [List.length_cons, List.length_nil]
        omega
      · intro p hp
        rcases List.mem_append.mp hp with hp | hp
        · exact hf' p hp
        · refine all_cons (Q := PN) (pn_tup (il_ints _) ?_) (all_cons (pn_tup (il_app (il_cut ilx _ _) (il_cut ilx _ _)) ?_) (all_cons (pn_tup (il_app (il_app (il_cut ilx _ _) (il_cons rfl rfl il_nil)) (il_cut ilx _ _)) ?_) all_nil)) p hp
          · rw [List.length_map, List.length_set, List.length_set]
            omega
          · rw [List.length_append]
            omega
          · rw [List.length_append, List.length_append]
            simp only [List.length_cons, List.length_nil]
            omega
      · rw [List.length_append]
        simp only [List.length_cons, List.length_nil]
        omega
  obtain ⟨fl, S', em, ps2, more, e5, e6, e7, e8, e9, e10, rfl, rfl, hp2, hl2⟩ := main
  refine ⟨_, _, (if_t t).trans em, ?_⟩
  exact ⟨_, _, rfl, c3, more, ps2, rfl, hc3.mono (by omega), thawD_of (noP hp2), hp2, hl2⟩
end LW

namespace LW
open PySem PySem.Spec L2 TL DL
open PyProof.Rows hiding pairD cutD
/-! # the law's right -/
theorem near_eq {N : Int} {xs : List Int} (h0 : 0 ≤ N) (hn : N ≤ 10) (hr : Row N xs) (hx : (xs.length : Int) = N) {S : Sto} {i m : Nat} {c : Cell} (hS : S[i]? = some c) (hc : Sk c m) (hm : m ≤ 10000) :
    ∃ ps c', w__law_near_rows [.ref i, .int N, .tup (xs.map D.int)] S = some (.lst ps, S.set i c') ∧ (∀ p ∈ ps, PN p) ∧ ps.length ≤ 1000 ∧ Sk c' (m + 10) := by
  obtain ⟨d, S', e, c', more, ps, rfl, hc', ht, hp, hl⟩ := near_in h0 hn hr hx hc hm
  refine ⟨ps, c', pure1_eq ?_ hS (sk_free hc) e (sk_free hc') ht, hp, hl, hc'⟩
  show (true && (noRefs (xs.map D.int) && true)) = true
  rw [noRefs_ints]
  rfl
/-- the stock at i -/
def At (S : Sto) (i m : Nat) : Prop := ∃ c, S[i]? = some c ∧ Sk c m
theorem At.set {S : Sto} {i m m' : Nat} {c : Cell} (h : At S i m) (hc : Sk c m') : At (S.set i c) i m' := by
  obtain ⟨c0, h0, _⟩ := h
  exact ⟨c, set_at h0, hc⟩
theorem At.app {S : Sto} {i m : Nat} (h : At S i m) (c : Cell) : At (S ++ [c]) i m := by
  obtain ⟨c0, h0, hc⟩ := h
  have := (List.getElem?_eq_some_iff.mp h0).1
  exact ⟨c0, by rw [List.getElem?_append_left this]; exact h0, hc⟩
theorem At.lt {S : Sto} {i m : Nat} (h : At S i m) : i < S.length := by
  obtain ⟨c0, h0, hc⟩ := h
  exact (List.getElem?_eq_some_iff.mp h0).1
theorem At.put {S : Sto} {i m j : Nat} (h : At S i m) (hj : j ≠ i) (c : Cell) : At (S.set j c) i m := by
  obtain ⟨c0, h0, hc⟩ := h
  exact ⟨c0, by rw [List.getElem?_set_ne hj]; exact h0, hc⟩
theorem takeA {S : Sto} {i m : Nat} (h : At S i m) (hm : m ≤ 1000000) (k : Int) (h0 : 0 < k) (h1 : k ≤ 1000000) : ∃ r S', w__law_take [.ref i, .int k] S = some (.int r, S') ∧ 0 ≤ r ∧ r < k ∧ At S' i (m + 1) := by
  obtain ⟨c, hc, a, b, z, rfl, g1, g2, g3, g4⟩ := h
  obtain ⟨r, S', e1, r0, r1, st, ap⟩ := take_ok (S := S) (i := i) (n := m) ⟨a, b, z, hc, g1, g2, g3, g4⟩ hm k h0 (by omega)
  obtain ⟨a', b', z', q, q1, q2, q3, q4⟩ := st
  exact ⟨r, S', e1, r0, r1, _, q, a', b', z', rfl, q1, q2, q3, q4⟩
theorem Ties.up {n : Int} {T : List (Int × Int)} (h : Ties n T) : Ties (n + 1) T := ⟨fun p hp => by
  have := h.rng p hp
  omega, h.asc⟩
theorem pn_row {xs : List Int} (h : xs.length ≤ 1000) : PN (.tup (xs.map D.int)) := pn_tup (il_ints xs) (by rw [List.length_map]; exact h)
theorem find_row {N : Int} {xs : List Int} (hr : Row N xs) (hx : (xs.length : Int) = N) {x : Int} (h0 : 0 ≤ x) (h1 : x < N) : ∃ j : Nat, ((xs.map D.int).findIdx? fun z => eqF z (.int x)) = some j := by
  cases e : (xs.map D.int).findIdx? fun z => eqF z (.int x) with
  | some j => exact ⟨j, rfl⟩
  | none =>
    rw [List.findIdx?_eq_none_iff] at e
    have m := row_all (by omega) hr.nd hr.rng hx h0 h1
    have := e (.int x) (List.mem_map.mpr ⟨x, m, rfl⟩)
    simp [eqF] at this
theorem inv_eq {N : Int} {xs : List Int} (h0 : 0 ≤ N) (hn : N ≤ 10) (hr : Row N xs) (hx : (xs.length : Int) = N) {e0 e2 e4 e5 e6 e7 e8 e9 e10 e11 e12 e13 e14 e15 : Option D} (S : Sto) :
    ∃ ys : List Int, ys.length ≤ 1000 ∧ (fCall cTupleX (fCons (fLc (iRange1 (fCons (fVar 1) fNil)) (gN 15) tYesD (fIndex (fVar 3) (fVar 15)) [15]) fNil)) [e0, some (.int N), e2, some (.lst (xs.map D.int)), e4, e5, e6, e7, e8, e9, e10, e11, e12, e13, e14, e15] S = some (.tup (ys.map D.int), S) := by
  have hul := upto_len h0
  refine ⟨(upto N).map fun x => (((xs.map D.int).findIdx? fun z => eqF z (.int x)).getD 0 : Nat), by rw [List.length_map]; omega, ?_⟩
  have e : (fLc (iRange1 (fCons (fVar 1) fNil)) (gN 15) tYesD (fIndex (fVar 3) (fVar 15)) [15]) [e0, some (.int N), e2, some (.lst (xs.map D.int)), e4, e5, e6, e7, e8, e9, e10, e11, e12, e13, e14, e15] S = some (.lst (((upto N).map fun x => ((((xs.map D.int).findIdx? fun z => eqF z (.int x)).getD 0 : Nat) : Int)).map D.int), S) := by
    unfold fLc
    rw [range1_eq (n := N) (S1 := S) rfl (by omega) (by omega), range_upto]
    show (if ((upto N).map D.int).length ≤ 1000000 then (lcD _ _ _ [e0, some (.int N), e2, some (.lst (xs.map D.int)), e4, e5, e6, e7, e8, e9, e10, e11, e12, e13, e14, none] ((upto N).map D.int) S).bind _ else none) = _
    rw [if_pos (by rw [List.length_map]; omega), lc_map D.int (fun x => D.int ((((xs.map D.int).findIdx? fun z => eqF z (.int x)).getD 0 : Nat) : Int)) (fun x hxm => ?_)]
    · rw [List.map_map]
      rfl
    · have r := (upto_row N).rng x hxm
      obtain ⟨j, hj⟩ := find_row hr hx r.1 r.2
      refine ⟨[e0, some (.int N), e2, some (.lst (xs.map D.int)), e4, e5, e6, e7, e8, e9, e10, e11, e12, e13, e14, some (.int x)], rfl, rfl, ?_⟩
      show (if flatD (.int x) = true ∧ (xs.map D.int).all flatD = true then ((xs.map D.int).findIdx? fun z => eqF z (.int x)).map fun j => (D.int (j : Nat), S) else none) = _
      rw [if_pos ⟨rfl, all_flat xs⟩, hj]
      rfl
  exact call_of (cons_of e rfl) rfl
end LW

namespace LW
open PySem PySem.Spec L2 TL DL
open PyProof.Rows hiding pairD cutD
theorem jd {n : Int} {T U : List (Int × Int)} (h0 : 0 ≤ n) (hn : n ≤ 10) (hT : Ties n T) (hU : Ties n U) {d : D} (hd : PN d) {fas : FA} {env : DEnv} {S S' : Sto} (h : fas env S = some ([.int n, .lst (T.map pairD), .lst (U.map pairD), d], S')) : (tNotD (fTest (fCall w__law_judged fas))) env S = some (false, S') :=
  tnot_of (b := true) (test_of (call_of h (judged_eq h0 hn hT hU hd.1 S')))

theorem right_loop1 {i : Nat} {N : Int} {T : List (Int × Int)} {xs ys : List Int} (h0 : 0 ≤ N) (hn : N ≤ 10) (hT : Ties N T) (hr : Row N xs) (hx : (xs.length : Int) = N) (hys : ys.length ≤ 1000) {S : Sto} {m : Nat} (hS : At S i m) (hm : m ≤ 10000) {P : Fl → Sto → Prop} (hP : ∀ e7 S', At S' i (m + 10) → P (.nx [some (.ref i), some (.int N), some (.lst (T.map pairD)), some (.lst (xs.map D.int)), some (.lst ((renL xs T).map pairD)), some (.tup (xs.map D.int)), some (.tup (ys.map D.int)), e7, none, none, none, none, none, none, none, none]) S') :
    R ((sFor (iLst (fBin gAddX (fCall w__law_near_rows (fCons (fVar 0) (fCons (fVar 1) (fCons (fVar 5) fNil)))) (fLst (fCons (fVar 6) (fCons (fTupR1 (fVar 1)) fNil))))) (gN 7) (sIf (tNotD (fTest (fCall w__law_judged (fCons (fVar 1) (fCons (fVar 2) (fCons (fVar 4) (fCons (fVar 7) fNil))))))) (sRet (fC (.bl false))) sSkip)) [some (.ref i), some (.int N), some (.lst (T.map pairD)), some (.lst (xs.map D.int)), some (.lst ((renL xs T).map pairD)), some (.tup (xs.map D.int)), some (.tup (ys.map D.int)), none, none, none, none, none, none, none, none, none] S) P := by
  obtain ⟨c, hc0, hc⟩ := id hS
  obtain ⟨ps, c', e, hp, hl, hc'⟩ := near_eq h0 hn hr hx hc0 hc hm
  have hA : At (S.set i c') i (m + 10) := hS.set hc'
  have hF : (iLst (fBin gAddX (fCall w__law_near_rows (fCons (fVar 0) (fCons (fVar 1) (fCons (fVar 5) fNil)))) (fLst (fCons (fVar 6) (fCons (fTupR1 (fVar 1)) fNil))))) [some (.ref i), some (.int N), some (.lst (T.map pairD)), some (.lst (xs.map D.int)), some (.lst ((renL xs T).map pairD)), some (.tup (xs.map D.int)), some (.tup (ys.map D.int)), none, none, none, none, none, none, none, none, none] S = some (ps ++ [.tup (ys.map D.int), .tup ((upto N).map D.int)], S.set i c') := by
    have k1 : (fTupR1 (fVar 1)) [some (.ref i), some (.int N), some (.lst (T.map pairD)), some (.lst (xs.map D.int)), some (.lst ((renL xs T).map pairD)), some (.tup (xs.map D.int)), some (.tup (ys.map D.int)), none, none, none, none, none, none, none, none, none] (S.set i c') = some (.tup ((upto N).map D.int), S.set i c') := by
      show (if okR N = true ∧ N ≤ 16777216 then some (D.tup (rangeD 0 N), S.set i c') else none) = _
      rw [if_pos ⟨ok_range (by omega) (by omega), by omega⟩, range_upto]
    have k2 : (fLst (fCons (fVar 6) (fCons (fTupR1 (fVar 1)) fNil))) [some (.ref i), some (.int N), some (.lst (T.map pairD)), some (.lst (xs.map D.int)), some (.lst ((renL xs T).map pairD)), some (.tup (xs.map D.int)), some (.tup (ys.map D.int)), none, none, none, none, none, none, none, none, none] (S.set i c') = some (.lst [.tup (ys.map D.int), .tup ((upto N).map D.int)], S.set i c') := by
      unfold fLst
      rw [cons_of (x := .tup (ys.map D.int)) (S1 := S.set i c') rfl (cons_of k1 rfl)]
      rfl
    have k0 : (fCall w__law_near_rows (fCons (fVar 0) (fCons (fVar 1) (fCons (fVar 5) fNil)))) [some (.ref i), some (.int N), some (.lst (T.map pairD)), some (.lst (xs.map D.int)), some (.lst ((renL xs T).map pairD)), some (.tup (xs.map D.int)), some (.tup (ys.map D.int)), none, none, none, none, none, none, none, none, none] S = some (.lst ps, S.set i c') := call_of (S1 := S) (ds := [.ref i, .int N, .tup (xs.map D.int)]) rfl e
    have k3 := bin_of (g := gAddX) (r := (.lst (ps ++ [.tup (ys.map D.int), .tup ((upto N).map D.int)]), S.set i c')) k0 k2 (by
      show (if ps.length + 2 ≤ 1000000 then some (D.lst (ps ++ [.tup (ys.map D.int), .tup ((upto N).map D.int)]), S.set i c') else none) = _
      rw [if_pos (by omega)])
    unfold iLst
    rw [k3]
    rfl
  have hall : ∀ p ∈ ps ++ [D.tup (ys.map D.int), .tup ((upto N).map D.int)], PN p := fun p hm2 => by
    rcases List.mem_append.mp hm2 with h | h
    · exact hp p h
    · exact all_cons (Q := PN) (pn_row hys) (all_cons (pn_row (by have := upto_len h0; omega)) all_nil) p h
  refine r_forM hF (fun env S' => At S' i (m + 10) ∧ ∃ e7 : Option D, env = [some (.ref i), some (.int N), some (.lst (T.map pairD)), some (.lst (xs.map D.int)), some (.lst ((renL xs T).map pairD)), some (.tup (xs.map D.int)), some (.tup (ys.map D.int)), e7, none, none, none, none, none, none, none, none]) ⟨hA, none, rfl⟩ ?_ ?_
  · rintro d hd env S' ⟨hA', e7, rfl⟩
    refine ⟨[some (.ref i), some (.int N), some (.lst (T.map pairD)), some (.lst (xs.map D.int)), some (.lst ((renL xs T).map pairD)), some (.tup (xs.map D.int)), some (.tup (ys.map D.int)), some d, none, none, none, none, none, none, none, none], S', rfl, ?_⟩
    exact ⟨_, _, (if_f (jd h0 hn hT (ren_ties hr hx hT) (hall d hd) rfl)).trans rfl, hA', some d, rfl⟩
  · rintro env S' ⟨hA', e7, rfl⟩
    exact hP e7 S' hA'

theorem right_loop2 {i : Nat} {N : Int} {T : List (Int × Int)} {xs ys : List Int} (h0 : 0 ≤ N) (hn : N ≤ 10) (hT : Ties N T) (hr : Row N xs) (hx : (xs.length : Int) = N) {S : Sto} {m : Nat} (hS : At S i m) (hm : m ≤ 10000) (e7 : Option D) {P : Fl → Sto → Prop} (hP : ∀ e9 e10 S' m', At S' i m' → P (.nx [some (.ref i), some (.int N), some (.lst (T.map pairD)), some (.lst (xs.map D.int)), some (.lst ((renL xs T).map pairD)), some (.tup (xs.map D.int)), some (.tup (ys.map D.int)), e7, some (.lst ((pairsL N).map pairD)), e9, e10, none, none, none, none, none]) S') :
    R ((sFor (iRange1 (fCons (fCall cMin2 (fCons (fC (.int 6)) (fCons (fCall cLen (fCons (fVar 8) fNil)) fNil))) fNil)) (gN 9) (sSeq (sAsg (fBin gIx (fVar 8) (fCall w__law_take (fCons (fVar 0) (fCons (fCall cLen (fCons (fVar 8) fNil)) fNil)))) (gN 10))
    (sSeq (sIf (tNotD (fTest (fCall w__law_judged (fCons (fVar 1) (fCons (fVar 2) (fCons (fCall w__law_flipped (fCons (fVar 4) (fCons (fVar 10) fNil))) (fCons (fVar 5) fNil))))))) (sRet (fC (.bl false))) sSkip)
    (sIf (tNotD (fTest (fCall w__law_judged (fCons (fVar 1) (fCons (fCall w__law_flipped (fCons (fVar 2) (fCons (fVar 10) fNil))) (fCons (fVar 4) (fCons (fVar 5) fNil))))))) (sRet (fC (.bl false))) sSkip)))) [some (.ref i), some (.int N), some (.lst (T.map pairD)), some (.lst (xs.map D.int)), some (.lst ((renL xs T).map pairD)), some (.tup (xs.map D.int)), some (.tup (ys.map D.int)), e7, some (.lst ((pairsL N).map pairD)), none, none, none, none, none, none, none] S) P := by
  have hpl := pairs_len h0 hn
  have hF : ∃ k : Int, k ≤ 6 ∧ k ≤ (pairsL N).length ∧ (iRange1 (fCons (fCall cMin2 (fCons (fC (.int 6)) (fCons (fCall cLen (fCons (fVar 8) fNil)) fNil))) fNil)) [some (.ref i), some (.int N), some (.lst (T.map pairD)), some (.lst (xs.map D.int)), some (.lst ((renL xs T).map pairD)), some (.tup (xs.map D.int)), some (.tup (ys.map D.int)), e7, some (.lst ((pairsL N).map pairD)), none, none, none, none, none, none, none] S = some (rangeD 0 k, S) := by
    refine ⟨if ((pairsL N).length : Int) < 6 then ((pairsL N).length : Int) else 6, by omega, by omega, ?_⟩
    refine range1_eq (call_of (S1 := S) (ds := [.int 6, .int ((pairsL N).length : Int)]) ?_ rfl) (by omega) (by omega)
    show some ([D.int 6, D.int (((pairsL N).map pairD).length : Int)], S) = _
    rw [List.length_map]
  obtain ⟨k, hk6, hkl, hF⟩ := hF
  have hU := ren_ties hr hx hT
  refine r_for hF (fun j env S' => At S' i (m + j) ∧ ∃ e9 e10 : Option D, env = [some (.ref i), some (.int N), some (.lst (T.map pairD)), some (.lst (xs.map D.int)), some (.lst ((renL xs T).map pairD)), some (.tup (xs.map D.int)), some (.tup (ys.map D.int)), e7, some (.lst ((pairsL N).map pairD)), e9, e10, none, none, none, none, none]) ⟨hS, none, none, rfl⟩ ?_ ?_
  · rintro j d env S' hj ⟨hA, e9, e10, rfl⟩
    have hjl : j < k.toNat := by
      have := (List.getElem?_eq_some_iff.mp hj).1
      unfold rangeD at this
      rw [List.length_map, List.length_range] at this
      omega
    refine ⟨[some (.ref i), some (.int N), some (.lst (T.map pairD)), some (.lst (xs.map D.int)), some (.lst ((renL xs T).map pairD)), some (.tup (xs.map D.int)), some (.tup (ys.map D.int)), e7, some (.lst ((pairsL N).map pairD)), some d, e10, none, none, none, none, none], S', rfl, ?_⟩
    obtain ⟨r, S2, er, r0, r1, hA2⟩ := takeA hA (by omega) ((pairsL N).length : Int) (by omega) (by omega)
    obtain ⟨q, rfl⟩ := Int.eq_ofNat_of_zero_le r0
    have hq : q < (pairsL N).length := by omega
    have hg : (pairsL N)[q]? = some (pairsL N)[q] := List.getElem?_eq_getElem hq
    have hpr := mem_pairs.mp (List.mem_of_getElem? hg)
    have a1 : (fBin gIx (fVar 8) (fCall w__law_take (fCons (fVar 0) (fCons (fCall cLen (fCons (fVar 8) fNil)) fNil)))) [some (.ref i), some (.int N), some (.lst (T.map pairD)), some (.lst (xs.map D.int)), some (.lst ((renL xs T).map pairD)), some (.tup (xs.map D.int)), some (.tup (ys.map D.int)), e7, some (.lst ((pairsL N).map pairD)), some d, e10, none, none, none, none, none] S' = some (pairD (pairsL N)[q], S2) := by
      refine bin_of (S1 := S') (S2 := S2) (x := .lst ((pairsL N).map pairD)) (y := .int (q : Int)) rfl (call_of (S1 := S') (ds := [.ref i, .int ((pairsL N).length : Int)]) ?_ er) ?_
      · show some ([D.ref i, D.int (((pairsL N).map pairD).length : Int)], S') = _
        rw [List.length_map]
      · show (atI ((pairsL N).map pairD) (q : Int)).map _ = _
        rw [atI_nat (v := pairD (pairsL N)[q]) (by rw [List.getElem?_map, hg]; rfl)]
        rfl
    have b1 : (fCall w__law_flipped (fCons (fVar 4) (fCons (fVar 10) fNil))) [some (.ref i), some (.int N), some (.lst (T.map pairD)), some (.lst (xs.map D.int)), some (.lst ((renL xs T).map pairD)), some (.tup (xs.map D.int)), some (.tup (ys.map D.int)), e7, some (.lst ((pairsL N).map pairD)), some d, some (pairD (pairsL N)[q]), none, none, none, none, none] S2 = some (.lst ((flipL (renL xs T) (pairsL N)[q]).map pairD), S2) := call_of (S1 := S2) (ds := [.lst ((renL xs T).map pairD), pairD (pairsL N)[q]]) rfl (flipped_eq hn hU _ _ rfl)
    have b2 : (fCall w__law_flipped (fCons (fVar 2) (fCons (fVar 10) fNil))) [some (.ref i), some (.int N), some (.lst (T.map pairD)), some (.lst (xs.map D.int)), some (.lst ((renL xs T).map pairD)), some (.tup (xs.map D.int)), some (.tup (ys.map D.int)), e7, some (.lst ((pairsL N).map pairD)), some d, some (pairD (pairsL N)[q]), none, none, none, none, none] S2 = some (.lst ((flipL T (pairsL N)[q]).map pairD), S2) := call_of (S1 := S2) (ds := [.lst (T.map pairD), pairD (pairsL N)[q]]) rfl (flipped_eq hn hT _ _ rfl)
    have pr : PN (.tup (xs.map D.int)) := pn_row (by omega)
    have j1 := jd h0 hn hT (flip_ties hU hpr) pr (fas := (fCons (fVar 1) (fCons (fVar 2) (fCons (fCall w__law_flipped (fCons (fVar 4) (fCons (fVar 10) fNil))) (fCons (fVar 5) fNil))))) (env := [some (.ref i), some (.int N), some (.lst (T.map pairD)), some (.lst (xs.map D.int)), some (.lst ((renL xs T).map pairD)), some (.tup (xs.map D.int)), some (.tup (ys.map D.int)), e7, some (.lst ((pairsL N).map pairD)), some d, some (pairD (pairsL N)[q]), none, none, none, none, none]) (S := S2) (cons_of (x := .int N) (S1 := S2) rfl (cons_of (x := .lst (T.map pairD)) (S1 := S2) rfl (cons_of b1 rfl)))
    have j2 := jd h0 hn (flip_ties hT hpr) hU pr (fas := (fCons (fVar 1) (fCons (fCall w__law_flipped (fCons (fVar 2) (fCons (fVar 10) fNil))) (fCons (fVar 4) (fCons (fVar 5) fNil))))) (env := [some (.ref i), some (.int N), some (.lst (T.map pairD)), some (.lst (xs.map D.int)), some (.lst ((renL xs T).map pairD)), some (.tup (xs.map D.int)), some (.tup (ys.map D.int)), e7, some (.lst ((pairsL N).map pairD)), some d, some (pairD (pairsL N)[q]), none, none, none, none, none]) (S := S2) (cons_of (x := .int N) (S1 := S2) rfl (cons_of b2 rfl))
    refine ⟨_, _, (seq_nx (set_of (i := 10) a1)).trans ((seq_nx ((if_f j1).trans rfl)).trans ((if_f j2).trans rfl)), hA2, _, _, rfl⟩
  · rintro env S' ⟨hA, e9, e10, rfl⟩
    exact hP e9 e10 S' _ hA

theorem right_loop3 {i : Nat} {N : Int} {T : List (Int × Int)} {xs ys : List Int} (h0 : 0 ≤ N) (hn : N ≤ 10) (hT : Ties N T) (hr : Row N xs) (hx : (xs.length : Int) = N) {S : Sto} (e7 e9 e10 : Option D) {P : Fl → Sto → Prop} (hP : ∀ e11 e12 e13 S', P (.nx [some (.ref i), some (.int N), some (.lst (T.map pairD)), some (.lst (xs.map D.int)), some (.lst ((renL xs T).map pairD)), some (.tup (xs.map D.int)), some (.tup (ys.map D.int)), e7, some (.lst ((pairsL N).map pairD)), e9, e10, e11, e12, e13, none, none]) S') :
    R ((sFor (iLst (fSlX (fVar 8) oNone (oSome (fC (.int 20))))) (gTup 2 (gCons (gN 11) (gCons (gN 12) gNil))) (sSeq (sAsg (fCall cListM (fCons (fVar 3) fNil)) (gN 13))
    (sSeq (sAsg (fTup (fCons (fBin gIx (fVar 3) (fVar 12)) (fCons (fBin gIx (fVar 3) (fVar 11)) fNil))) (gTup 2 (gCons (gSub gSetA (fVar 13) (fVar 11)) (gCons (gSub gSetA (fVar 13) (fVar 12)) gNil))))
    (sIf (tNotD (fTest (fCall w__law_judged (fCons (fVar 1) (fCons (fVar 2) (fCons (fVar 4) (fCons (fCall cTupleX (fCons (fVar 13) fNil)) fNil))))))) (sRet (fC (.bl false))) sSkip)))) [some (.ref i), some (.int N), some (.lst (T.map pairD)), some (.lst (xs.map D.int)), some (.lst ((renL xs T).map pairD)), some (.tup (xs.map D.int)), some (.tup (ys.map D.int)), e7, some (.lst ((pairsL N).map pairD)), e9, e10, none, none, none, none, none] S) P := by
  have hU := ren_ties hr hx hT
  refine r_forM (items := DL.cutD ((pairsL N).map pairD) none (some 20)) (S1 := S) rfl (fun env S' => ∃ e11 e12 e13 : Option D, env = [some (.ref i), some (.int N), some (.lst (T.map pairD)), some (.lst (xs.map D.int)), some (.lst ((renL xs T).map pairD)), some (.tup (xs.map D.int)), some (.tup (ys.map D.int)), e7, some (.lst ((pairsL N).map pairD)), e9, e10, e11, e12, e13, none, none]) ⟨none, none, none, rfl⟩ ?_ ?_
  · rintro d hd env S' ⟨e11, e12, e13, rfl⟩
    obtain ⟨p, hp, rfl⟩ := List.mem_map.mp (List.mem_of_mem_drop (List.mem_of_mem_take hd))
    have r := mem_pairs.mp hp
    refine ⟨[some (.ref i), some (.int N), some (.lst (T.map pairD)), some (.lst (xs.map D.int)), some (.lst ((renL xs T).map pairD)), some (.tup (xs.map D.int)), some (.tup (ys.map D.int)), e7, some (.lst ((pairsL N).map pairD)), e9, e10, some (.int p.1), some (.int p.2), e13, none, none], S', rfl, ?_⟩
    have i1 := fun S => ix_rowL (xs := xs) (i := p.1) hx (by omega) (by omega) S
    have i2 := fun S => ix_rowL (xs := xs) (i := p.2) hx (by omega) (by omega) S
    let S2 := S' ++ [.lst (xs.map D.int)]
    have g2 : S2[S'.length]? = some (.lst (xs.map D.int)) := get_last _ _
    have k0 : (fCall cListM (fCons (fVar 3) fNil)) [some (.ref i), some (.int N), some (.lst (T.map pairD)), some (.lst (xs.map D.int)), some (.lst ((renL xs T).map pairD)), some (.tup (xs.map D.int)), some (.tup (ys.map D.int)), e7, some (.lst ((pairsL N).map pairD)), e9, e10, some (.int p.1), some (.int p.2), e13, none, none] S' = some (.ref S'.length, S2) := call_of (S1 := S') (ds := [.lst (xs.map D.int)]) rfl rfl
    have k1 : (fTup (fCons (fBin gIx (fVar 3) (fVar 12)) (fCons (fBin gIx (fVar 3) (fVar 11)) fNil))) [some (.ref i), some (.int N), some (.lst (T.map pairD)), some (.lst (xs.map D.int)), some (.lst ((renL xs T).map pairD)), some (.tup (xs.map D.int)), some (.tup (ys.map D.int)), e7, some (.lst ((pairsL N).map pairD)), e9, e10, some (.int p.1), some (.int p.2), some (.ref S'.length), none, none] S2 = some (.tup [.int (sg xs p.2), .int (sg xs p.1)], S2) := by
      unfold fTup
      rw [cons_of (bin_of (S1 := S2) (S2 := S2) (x := .lst (xs.map D.int)) (y := .int p.2) rfl rfl (i2 _)) (cons_of (bin_of (S1 := S2) (S2 := S2) (x := .lst (xs.map D.int)) (y := .int p.1) rfl rfl (i1 _)) rfl)]
      rfl
    have w1 := gset_l g2 p.1.toNat (by rw [List.length_map]; omega) (.int (sg xs p.2))
    let S3 := S2.set S'.length (.lst ((xs.map D.int).set p.1.toNat (.int (sg xs p.2))))
    have g3 : S3[S'.length]? = some (.lst ((xs.map D.int).set p.1.toNat (.int (sg xs p.2)))) := set_at g2
    have w2 := gset_l g3 p.2.toNat (by rw [List.length_set, List.length_map]; omega) (.int (sg xs p.1))
    let S4 := S3.set S'.length (.lst (((xs.map D.int).set p.1.toNat (.int (sg xs p.2))).set p.2.toNat (.int (sg xs p.1))))
    have g4 : S4[S'.length]? = some (.lst (((xs.set p.1.toNat (sg xs p.2)).set p.2.toNat (sg xs p.1)).map D.int)) := by
      have : S4[S'.length]? = some (.lst (((xs.map D.int).set p.1.toNat (.int (sg xs p.2))).set p.2.toNat (.int (sg xs p.1)))) := set_at g3
      rw [this, List.map_set, List.map_set]
    rw [Int.toNat_of_nonneg (by omega)] at w1 w2
    have k2 : (sAsg (fTup (fCons (fBin gIx (fVar 3) (fVar 12)) (fCons (fBin gIx (fVar 3) (fVar 11)) fNil))) (gTup 2 (gCons (gSub gSetA (fVar 13) (fVar 11)) (gCons (gSub gSetA (fVar 13) (fVar 12)) gNil)))) [some (.ref i), some (.int N), some (.lst (T.map pairD)), some (.lst (xs.map D.int)), some (.lst ((renL xs T).map pairD)), some (.tup (xs.map D.int)), some (.tup (ys.map D.int)), e7, some (.lst ((pairsL N).map pairD)), e9, e10, some (.int p.1), some (.int p.2), some (.ref S'.length), none, none] S2 = some (.nx [some (.ref i), some (.int N), some (.lst (T.map pairD)), some (.lst (xs.map D.int)), some (.lst ((renL xs T).map pairD)), some (.tup (xs.map D.int)), some (.tup (ys.map D.int)), e7, some (.lst ((pairsL N).map pairD)), e9, e10, some (.int p.1), some (.int p.2), some (.ref S'.length), none, none], S4) := by
      refine asg_of k1 ?_
      show (((gSetA (.ref S'.length) (.int p.1) (.int (sg xs p.2)) S2).map _).bind _) = _
      rw [w1]
      show (((gSetA (.ref S'.length) (.int p.2) (.int (sg xs p.1)) S3).map _).bind _) = _
      rw [w2]
      rfl
    have k3 : (fCall cTupleX (fCons (fVar 13) fNil)) [some (.ref i), some (.int N), some (.lst (T.map pairD)), some (.lst (xs.map D.int)), some (.lst ((renL xs T).map pairD)), some (.tup (xs.map D.int)), some (.tup (ys.map D.int)), e7, some (.lst ((pairsL N).map pairD)), e9, e10, some (.int p.1), some (.int p.2), some (.ref S'.length), none, none] S4 = some (.tup (((xs.set p.1.toNat (sg xs p.2)).set p.2.toNat (sg xs p.1)).map D.int), S4) := by
      refine call_of (S1 := S4) (ds := [.ref S'.length]) rfl ?_
      show ((match S4[S'.length]? with | some (.lst ds) => some ds | _ => none : Option (List D)).map fun ds => (D.tup ds, S4)) = _
      rw [g4]
      rfl
    have j1 := jd h0 hn hT hU (pn_row (xs := (xs.set p.1.toNat (sg xs p.2)).set p.2.toNat (sg xs p.1)) (by rw [List.length_set, List.length_set]; omega)) (fas := (fCons (fVar 1) (fCons (fVar 2) (fCons (fVar 4) (fCons (fCall cTupleX (fCons (fVar 13) fNil)) fNil))))) (env := [some (.ref i), some (.int N), some (.lst (T.map pairD)), some (.lst (xs.map D.int)), some (.lst ((renL xs T).map pairD)), some (.tup (xs.map D.int)), some (.tup (ys.map D.int)), e7, some (.lst ((pairsL N).map pairD)), e9, e10, some (.int p.1), some (.int p.2), some (.ref S'.length), none, none]) (S := S4) (cons_of (x := .int N) (S1 := S4) rfl (cons_of (x := .lst (T.map pairD)) (S1 := S4) rfl (cons_of (x := .lst ((renL xs T).map pairD)) (S1 := S4) rfl (cons_of k3 rfl))))
    exact ⟨_, _, (seq_nx (set_of (i := 13) k0)).trans ((seq_nx k2).trans ((if_f j1).trans rfl)), _, _, _, rfl⟩
  · rintro env S' ⟨e11, e12, e13, rfl⟩
    exact hP e11 e12 e13 S'

end LW

namespace LW
open PySem PySem.Spec L2 TL DL
open PyProof.Rows hiding pairD cutD

theorem right_loop4 {i : Nat} {N : Int} {T : List (Int × Int)} {xs ys : List Int} (h0 : 0 ≤ N) (hn : N < 10) (hT : Ties N T) (hU : Ties N (renL xs T)) {S : Sto} (e7 e9 e10 e11 e12 e13 : Option D) {P : Fl → Sto → Prop} (hxl : xs.length ≤ 1000) (hP : ∀ e5 e14, P (.nx [some (.ref i), some (.int N), some (.lst (T.map pairD)), some (.lst (xs.map D.int)), some (.lst ((renL xs T).map pairD)), e5, some (.tup (ys.map D.int)), e7, some (.lst ((pairsL N).map pairD)), e9, e10, e11, e12, e13, e14, none]) S) :
    R ((sFor (iLst (fLst (fCons (fCall cTupleX (fCons (fVar 3) fNil)) (fCons (fBin gAddX (fCall cTupleX (fCons (fVar 3) fNil)) (fTup (fCons (fVar 1) fNil))) (fCons (fBin gAddX (fTup (fCons (fVar 1) fNil)) (fCall cTupleX (fCons (fVar 3) fNil))) fNil))))) (gN 5) (sFor (iLst (fLst (fCons (fLst (fCons (fVar 1) (fCons (fBin gAddX (fVar 1) (fC (.int 1))) fNil))) (fCons (fLst (fCons (fBin gAddX (fVar 1) (fC (.int 1))) (fCons (fVar 1) fNil))) fNil)))) (gN 14) (sIf (tNotD (fTest (fCall w__law_agrees (fCons (fTup (fCons (fC (.str "alike")) (fCons (fCall w__law_line (fCons (fBin gIx (fVar 14) (fC (.int 0))) (fCons (fVar 2) fNil))) (fCons (fCall w__law_line (fCons (fBin gIx (fVar 14) (fC (.int 1))) (fCons (fVar 4) fNil))) fNil)))) (fCons (fVar 5) (fCons (fC (.bl false)) fNil)))))) (sRet (fC (.bl false))) sSkip))) [some (.ref i), some (.int N), some (.lst (T.map pairD)), some (.lst (xs.map D.int)), some (.lst ((renL xs T).map pairD)), some (.tup (xs.map D.int)), some (.tup (ys.map D.int)), e7, some (.lst ((pairsL N).map pairD)), e9, e10, e11, e12, e13, none, none] S) P := by
  have hF : (iLst (fLst (fCons (fCall cTupleX (fCons (fVar 3) fNil)) (fCons (fBin gAddX (fCall cTupleX (fCons (fVar 3) fNil)) (fTup (fCons (fVar 1) fNil))) (fCons (fBin gAddX (fTup (fCons (fVar 1) fNil)) (fCall cTupleX (fCons (fVar 3) fNil))) fNil))))) [some (.ref i), some (.int N), some (.lst (T.map pairD)), some (.lst (xs.map D.int)), some (.lst ((renL xs T).map pairD)), some (.tup (xs.map D.int)), some (.tup (ys.map D.int)), e7, some (.lst ((pairsL N).map pairD)), e9, e10, e11, e12, e13, none, none] S = some ([.tup (xs.map D.int), .tup (xs.map D.int ++ [.int N]), .tup ([.int N] ++ xs.map D.int)], S) := by
    have hl : (xs.map D.int).length ≤ 1000 := by rw [List.length_map]; exact hxl
    have k0 : (fCall cTupleX (fCons (fVar 3) fNil)) [some (.ref i), some (.int N), some (.lst (T.map pairD)), some (.lst (xs.map D.int)), some (.lst ((renL xs T).map pairD)), some (.tup (xs.map D.int)), some (.tup (ys.map D.int)), e7, some (.lst ((pairsL N).map pairD)), e9, e10, e11, e12, e13, none, none] S = some (.tup (xs.map D.int), S) := call_of (S1 := S) (ds := [.lst (xs.map D.int)]) rfl rfl
    have k1 := bin_of (g := gAddX) (fb := (fTup (fCons (fVar 1) fNil))) (S2 := S) (y := .tup [.int N]) (r := (.tup (xs.map D.int ++ [.int N]), S)) k0 rfl (by
      show (if (xs.map D.int).length + 1 ≤ 1000000 then some (D.tup (xs.map D.int ++ [.int N]), S) else none) = _
      rw [if_pos (by omega)])
    have k2 := bin_of (g := gAddX) (fa := (fTup (fCons (fVar 1) fNil))) (S := S) (x := .tup [.int N]) (r := (.tup ([.int N] ++ xs.map D.int), S)) rfl k0 (by
      show (if 1 + (xs.map D.int).length ≤ 1000000 then some (D.tup ([.int N] ++ xs.map D.int), S) else none) = _
      rw [if_pos (by omega)])
    unfold iLst fLst
    rw [cons_of k0 (cons_of k1 (cons_of k2 rfl))]
    rfl
  refine r_forM hF (fun env S' => S' = S ∧ ∃ e5 e14 : Option D, env = [some (.ref i), some (.int N), some (.lst (T.map pairD)), some (.lst (xs.map D.int)), some (.lst ((renL xs T).map pairD)), e5, some (.tup (ys.map D.int)), e7, some (.lst ((pairsL N).map pairD)), e9, e10, e11, e12, e13, e14, none]) ⟨rfl, _, _, rfl⟩ ?_ ?_
  · rintro d hd env S' ⟨rfl, e5, e14, rfl⟩
    refine ⟨[some (.ref i), some (.int N), some (.lst (T.map pairD)), some (.lst (xs.map D.int)), some (.lst ((renL xs T).map pairD)), some d, some (.tup (ys.map D.int)), e7, some (.lst ((pairsL N).map pairD)), e9, e10, e11, e12, e13, e14, none], S', rfl, ?_⟩
    refine r_forM (items := [.lst [.int N, .int (N + 1)], .lst [.int (N + 1), .int N]]) (S1 := S') rfl (fun env S2 => S2 = S' ∧ ∃ e14 : Option D, env = [some (.ref i), some (.int N), some (.lst (T.map pairD)), some (.lst (xs.map D.int)), some (.lst ((renL xs T).map pairD)), some d, some (.tup (ys.map D.int)), e7, some (.lst ((pairsL N).map pairD)), e9, e10, e11, e12, e13, e14, none]) ⟨rfl, _, rfl⟩ ?_ ?_
    · rintro z hz env S2 ⟨rfl, e14, rfl⟩
      obtain ⟨n1, n2, rfl, hne, a0, a1, b0, b1, t1, t2⟩ : ∃ n1 n2 : Int, z = .lst [.int n1, .int n2] ∧ n1 ≠ n2 ∧ 0 ≤ n1 ∧ n1 ≤ 10 ∧ 0 ≤ n2 ∧ n2 ≤ 10 ∧ Ties n1 T ∧ Ties n2 (renL xs T) := by
        rcases List.mem_cons.mp hz with rfl | hz
        · exact ⟨N, N + 1, rfl, by omega, by omega, by omega, by omega, by omega, hT, hU.up⟩
        · rcases List.mem_cons.mp hz with rfl | hz
          · exact ⟨N + 1, N, rfl, by omega, by omega, by omega, by omega, by omega, hT.up, hU⟩
          · cases hz
      refine ⟨[some (.ref i), some (.int N), some (.lst (T.map pairD)), some (.lst (xs.map D.int)), some (.lst ((renL xs T).map pairD)), some d, some (.tup (ys.map D.int)), e7, some (.lst ((pairsL N).map pairD)), e9, e10, e11, e12, e13, some (.lst [.int n1, .int n2]), none], S2, rfl, ?_⟩
      have l1 : (fCall w__law_line (fCons (fBin gIx (fVar 14) (fC (.int 0))) (fCons (fVar 2) fNil))) [some (.ref i), some (.int N), some (.lst (T.map pairD)), some (.lst (xs.map D.int)), some (.lst ((renL xs T).map pairD)), some d, some (.tup (ys.map D.int)), e7, some (.lst ((pairsL N).map pairD)), e9, e10, e11, e12, e13, some (.lst [.int n1, .int n2]), none] S2 = some (.str (lineT n1 T), S2) := call_of (S1 := S2) (ds := [.int n1, .lst (T.map pairD)]) rfl (line_eq a0 a1 a1 t1 S2)
      have l2 : (fCall w__law_line (fCons (fBin gIx (fVar 14) (fC (.int 1))) (fCons (fVar 4) fNil))) [some (.ref i), some (.int N), some (.lst (T.map pairD)), some (.lst (xs.map D.int)), some (.lst ((renL xs T).map pairD)), some d, some (.tup (ys.map D.int)), e7, some (.lst ((pairsL N).map pairD)), e9, e10, e11, e12, e13, some (.lst [.int n1, .int n2]), none] S2 = some (.str (lineT n2 (renL xs T)), S2) := call_of (S1 := S2) (ds := [.int n2, .lst ((renL xs T).map pairD)]) rfl (line_eq b0 b1 b1 t2 S2)
      have l3 : (fTup (fCons (fC (.str "alike")) (fCons (fCall w__law_line (fCons (fBin gIx (fVar 14) (fC (.int 0))) (fCons (fVar 2) fNil))) (fCons (fCall w__law_line (fCons (fBin gIx (fVar 14) (fC (.int 1))) (fCons (fVar 4) fNil))) fNil)))) [some (.ref i), some (.int N), some (.lst (T.map pairD)), some (.lst (xs.map D.int)), some (.lst ((renL xs T).map pairD)), some d, some (.tup (ys.map D.int)), e7, some (.lst ((pairsL N).map pairD)), e9, e10, e11, e12, e13, some (.lst [.int n1, .int n2]), none] S2 = some (.tup [.str "alike", .str (lineT n1 T), .str (lineT n2 (renL xs T))], S2) := by
        unfold fTup
        rw [cons_of (x := .str "alike") (S1 := S2) rfl (cons_of l1 (cons_of l2 rfl))]
        rfl
      have t : (tNotD (fTest (fCall w__law_agrees (fCons (fTup (fCons (fC (.str "alike")) (fCons (fCall w__law_line (fCons (fBin gIx (fVar 14) (fC (.int 0))) (fCons (fVar 2) fNil))) (fCons (fCall w__law_line (fCons (fBin gIx (fVar 14) (fC (.int 1))) (fCons (fVar 4) fNil))) fNil)))) (fCons (fVar 5) (fCons (fC (.bl false)) fNil)))))) [some (.ref i), some (.int N), some (.lst (T.map pairD)), some (.lst (xs.map D.int)), some (.lst ((renL xs T).map pairD)), some d, some (.tup (ys.map D.int)), e7, some (.lst ((pairsL N).map pairD)), e9, e10, e11, e12, e13, some (.lst [.int n1, .int n2]), none] S2 = some (false, S2) :=
        tnot_of (b := true) (test_of (call_of (cons_of l3 (cons_of (x := d) (S1 := S2) rfl rfl)) (agrees_ne hne a0 a1 b0 b1 t1 t2 d S2)))
      exact ⟨_, _, (if_f t).trans rfl, rfl, _, rfl⟩
    · rintro env S2 ⟨rfl, e14, rfl⟩
      exact ⟨rfl, _, _, rfl⟩
  · rintro env S' ⟨rfl, e5, e14, rfl⟩
    exact hP e5 e14

theorem right_ok {S : Sto} {i n : Nat} (h : Stk S i n) (hn : n ≤ 100) : R (w__law_right [.ref i] S) fun d _ => d = .bl true := by
  have hA : At S i n := by
    obtain ⟨a, b, c, e, q⟩ := h
    exact ⟨_, e, a, b, c, rfl, q⟩
  show R (runD 16 (b__law_right w__law_judged w__law_agrees w__law_line w__law_flipped w__law_take w__law_pairs w__law_near_rows w__law_renamed w__law_some_order w__law_some_ties) [.ref i] S) _
  rw [wp_Run]
  show R (b__law_right w__law_judged w__law_agrees w__law_line w__law_flipped w__law_take w__law_pairs w__law_near_rows w__law_renamed w__law_some_order w__law_some_ties [some (.ref i), none, none, none, none, none, none, none, none, none, none, none, none, none, none, none] S) _
  unfold b__law_right
  rw [wp_Seq]
  obtain ⟨r, S1, er, r0, r1, hA1⟩ := takeA hA (by omega) 11 (by decide) (by decide)
  obtain ⟨N, hN0, hN, e1⟩ : ∃ N : Int, 0 ≤ N ∧ N ≤ 10 ∧ (sAsg (fBin gIx (fLst (fCons (fC (.int 4)) (fCons (fC (.int 5)) (fCons (fC (.int 6)) (fCons (fC (.int 7)) (fCons (fC (.int 8)) (fCons (fC (.int 9)) (fCons (fC (.int 10)) (fCons (fC (.int 3)) (fCons (fC (.int 2)) (fCons (fC (.int 1)) (fCons (fC (.int 0)) fNil)))))))))))) (fCall w__law_take (fCons (fVar 0) (fCons (fC (.int 11)) fNil)))) (gN 1)) [some (.ref i), none, none, none, none, none, none, none, none, none, none, none, none, none, none, none] S = some (.nx [some (.ref i), some (.int N), none, none, none, none, none, none, none, none, none, none, none, none, none, none], S1) := by
    have k : ∃ N : Int, 0 ≤ N ∧ N ≤ 10 ∧ gIx (.lst [.int 4, .int 5, .int 6, .int 7, .int 8, .int 9, .int 10, .int 3, .int 2, .int 1, .int 0]) (.int r) S1 = some (.int N, S1) := by
      have : r = 0 ∨ r = 1 ∨ r = 2 ∨ r = 3 ∨ r = 4 ∨ r = 5 ∨ r = 6 ∨ r = 7 ∨ r = 8 ∨ r = 9 ∨ r = 10 := by omega
      rcases this with rfl | rfl | rfl | rfl | rfl | rfl | rfl | rfl | rfl | rfl | rfl <;> exact ⟨_, by decide, by decide, rfl⟩
    obtain ⟨N, a, b, k⟩ := k
    exact ⟨N, a, b, set_of (i := 1) (bin_of (S1 := S) (x := .lst [.int 4, .int 5, .int 6, .int 7, .int 8, .int 9, .int 10, .int 3, .int 2, .int 1, .int 0]) rfl (call_of (S1 := S) (ds := [.ref i, .int 11]) rfl er) k)⟩
  refine ⟨_, _, e1, ?_⟩
  show R (sSeq _ _ [some (.ref i), some (.int N), none, none, none, none, none, none, none, none, none, none, none, none, none, none] S1) _
  rw [wp_Seq]
  obtain ⟨c1, hc1, hk1⟩ := id hA1
  obtain ⟨T, c2, e2, hT, hk2⟩ := some_ties_eq hN0 hN hc1 hk1 (by omega)
  have hA2 := hA1.set hk2
  obtain ⟨c3, hc3, hk3⟩ := id hA2
  obtain ⟨xs, c4, e3, hr, hx, hk4⟩ := some_order_eq hN0 hN hc3 hk3 (by omega)
  have hA3 := hA2.set hk4
  generalize (S1.set i c2).set i c4 = S3 at hA3 e3
  generalize S1.set i c2 = S2 at hA2 e2 e3
  refine ⟨.nx [some (.ref i), some (.int N), some (.lst (T.map pairD)), some (.lst (xs.map D.int)), none, none, none, none, none, none, none, none, none, none, none, none], S3, ?_, ?_⟩
  · have k1 : (fTup (fCons (fCall w__law_some_ties (fCons (fVar 0) (fCons (fVar 1) fNil))) (fCons (fCall w__law_some_order (fCons (fVar 0) (fCons (fVar 1) fNil))) fNil))) [some (.ref i), some (.int N), none, none, none, none, none, none, none, none, none, none, none, none, none, none] S1 = some (.tup [.lst (T.map pairD), .lst (xs.map D.int)], S3) := by
      unfold fTup
      rw [cons_of (call_of (S1 := S1) (ds := [.ref i, .int N]) rfl e2) (cons_of (call_of (S1 := S2) (ds := [.ref i, .int N]) rfl e3) rfl)]
      rfl
    exact asg_of k1 rfl
  show R (sSeq _ _ [some (.ref i), some (.int N), some (.lst (T.map pairD)), some (.lst (xs.map D.int)), none, none, none, none, none, none, none, none, none, none, none, none] S3) _
  rw [wp_Seq]
  have hU := ren_ties hr hx hT
  refine ⟨.nx [some (.ref i), some (.int N), some (.lst (T.map pairD)), some (.lst (xs.map D.int)), some (.lst ((renL xs T).map pairD)), some (.tup (xs.map D.int)), none, none, none, none, none, none, none, none, none, none], S3, ?_, ?_⟩
  · unfold sPar
    rw [cons_of (call_of (S1 := S3) (ds := [.lst (T.map pairD), .lst (xs.map D.int)]) rfl (law_renamed_eq hN hT hx S3)) (cons_of (x := .tup (xs.map D.int)) (S1 := S3) (call_of (S1 := S3) (ds := [.lst (xs.map D.int)]) rfl rfl) rfl)]
    rfl
  show R (sSeq _ _ [some (.ref i), some (.int N), some (.lst (T.map pairD)), some (.lst (xs.map D.int)), some (.lst ((renL xs T).map pairD)), some (.tup (xs.map D.int)), none, none, none, none, none, none, none, none, none, none] S3) _
  rw [wp_Seq]
  obtain ⟨ys, hys, e6⟩ := inv_eq (e0 := some (.ref i)) (e2 := some (.lst (T.map pairD))) (e4 := some (.lst ((renL xs T).map pairD))) (e5 := some (.tup (xs.map D.int))) (e6 := none) (e7 := none) (e8 := none) (e9 := none) (e10 := none) (e11 := none) (e12 := none) (e13 := none) (e14 := none) (e15 := none) hN0 hN hr hx S3
  refine ⟨_, _, set_of (i := 6) e6, ?_⟩
  show R (sSeq _ _ [some (.ref i), some (.int N), some (.lst (T.map pairD)), some (.lst (xs.map D.int)), some (.lst ((renL xs T).map pairD)), some (.tup (xs.map D.int)), some (.tup (ys.map D.int)), none, none, none, none, none, none, none, none, none] S3) _
  rw [wp_Seq]
  refine right_loop1 hN0 hN hT hr hx hys hA3 (by omega) fun e7 S4 hA4 => ?_
  show R (sSeq _ _ [some (.ref i), some (.int N), some (.lst (T.map pairD)), some (.lst (xs.map D.int)), some (.lst ((renL xs T).map pairD)), some (.tup (xs.map D.int)), some (.tup (ys.map D.int)), e7, none, none, none, none, none, none, none, none] S4) _
  rw [wp_Seq]
  have pr : PN (.tup (xs.map D.int)) := pn_row (by omega)
  have t1 : (tOrD (tNotD (fTest (fCall w__law_judged (fCons (fVar 1) (fCons (fVar 4) (fCons (fVar 2) (fCons (fVar 6) fNil))))))) (tNotD (fTest (fCall w__law_judged (fCons (fVar 1) (fCons (fVar 4) (fCons (fVar 2) (fCons (fVar 5) fNil)))))))) [some (.ref i), some (.int N), some (.lst (T.map pairD)), some (.lst (xs.map D.int)), some (.lst ((renL xs T).map pairD)), some (.tup (xs.map D.int)), some (.tup (ys.map D.int)), e7, none, none, none, none, none, none, none, none] S4 = some (false, S4) := by
    rw [or_of (jd hN0 hN hU hT (pn_row hys) rfl)]
    exact jd hN0 hN hU hT pr rfl
  refine ⟨_, _, (if_f t1).trans rfl, ?_⟩
  show R (sSeq _ _ [some (.ref i), some (.int N), some (.lst (T.map pairD)), some (.lst (xs.map D.int)), some (.lst ((renL xs T).map pairD)), some (.tup (xs.map D.int)), some (.tup (ys.map D.int)), e7, none, none, none, none, none, none, none, none] S4) _
  rw [wp_Seq]
  refine ⟨_, _, set_of (i := 8) (call_of (S1 := S4) (ds := [.int N]) rfl (pairs_eq hN0 hN S4)), ?_⟩
  show R (sSeq _ _ [some (.ref i), some (.int N), some (.lst (T.map pairD)), some (.lst (xs.map D.int)), some (.lst ((renL xs T).map pairD)), some (.tup (xs.map D.int)), some (.tup (ys.map D.int)), e7, some (.lst ((pairsL N).map pairD)), none, none, none, none, none, none, none] S4) _
  rw [wp_Seq]
  refine right_loop2 hN0 hN hT hr hx hA4 (by omega) e7 fun e9 e10 S5 m' hA5 => ?_
  show R (sSeq _ _ [some (.ref i), some (.int N), some (.lst (T.map pairD)), some (.lst (xs.map D.int)), some (.lst ((renL xs T).map pairD)), some (.tup (xs.map D.int)), some (.tup (ys.map D.int)), e7, some (.lst ((pairsL N).map pairD)), e9, e10, none, none, none, none, none] S5) _
  rw [wp_Seq]
  refine right_loop3 hN0 hN hT hr hx e7 e9 e10 fun e11 e12 e13 S6 => ?_
  show R (sSeq _ _ [some (.ref i), some (.int N), some (.lst (T.map pairD)), some (.lst (xs.map D.int)), some (.lst ((renL xs T).map pairD)), some (.tup (xs.map D.int)), some (.tup (ys.map D.int)), e7, some (.lst ((pairsL N).map pairD)), e9, e10, e11, e12, e13, none, none] S6) _
  rw [wp_Seq]
  have t2 : (fTest (fBin gEq (fVar 1) (fC (.int 10)))) [some (.ref i), some (.int N), some (.lst (T.map pairD)), some (.lst (xs.map D.int)), some (.lst ((renL xs T).map pairD)), some (.tup (xs.map D.int)), some (.tup (ys.map D.int)), e7, some (.lst ((pairsL N).map pairD)), e9, e10, e11, e12, e13, none, none] S6 = some (decide (N = 10), S6) := rfl
  by_cases h10 : N = 10
  · rw [decide_eq_true h10] at t2
    exact ⟨_, _, (if_t t2).trans rfl, rfl⟩
  rw [decide_eq_false h10] at t2
  refine ⟨_, _, (if_f t2).trans rfl, ?_⟩
  show R (sSeq _ _ [some (.ref i), some (.int N), some (.lst (T.map pairD)), some (.lst (xs.map D.int)), some (.lst ((renL xs T).map pairD)), some (.tup (xs.map D.int)), some (.tup (ys.map D.int)), e7, some (.lst ((pairsL N).map pairD)), e9, e10, e11, e12, e13, none, none] S6) _
  rw [wp_Seq]
  refine right_loop4 hN0 (by omega) hT hU e7 e9 e10 e11 e12 e13 (by omega) fun e5 e14 => ?_
  show R (sRet _ [some (.ref i), some (.int N), some (.lst (T.map pairD)), some (.lst (xs.map D.int)), some (.lst ((renL xs T).map pairD)), e5, some (.tup (ys.map D.int)), e7, some (.lst ((pairsL N).map pairD)), e9, e10, e11, e12, e13, e14, none] S6) _
  have k1 : (fBin gAddX (fCall cTupleX (fCons (fVar 3) fNil)) (fTup (fCons (fVar 1) fNil))) [some (.ref i), some (.int N), some (.lst (T.map pairD)), some (.lst (xs.map D.int)), some (.lst ((renL xs T).map pairD)), e5, some (.tup (ys.map D.int)), e7, some (.lst ((pairsL N).map pairD)), e9, e10, e11, e12, e13, e14, none] S6 = some (.tup ((xs ++ [N]).map D.int), S6) := by
    refine bin_of (S1 := S6) (S2 := S6) (x := .tup (xs.map D.int)) (y := .tup [.int N]) (call_of (S1 := S6) (ds := [.lst (xs.map D.int)]) rfl rfl) rfl ?_
    show (if (xs.map D.int).length + 1 ≤ 1000000 then some (D.tup (xs.map D.int ++ [.int N]), S6) else none) = _
    rw [if_pos (by rw [List.length_map]; omega), List.map_append]
    rfl
  exact ⟨_, _, ret_of (call_of (cons_of (x := .int (N + 1)) (S1 := S6) rfl (cons_of (x := .lst (T.map pairD)) (S1 := S6) rfl (cons_of (x := .lst ((renL xs T).map pairD)) (S1 := S6) rfl (cons_of k1 rfl)))) (judged_eq (by omega) (by omega) hT.up hU.up (pn_row (xs := xs ++ [N]) (by rw [List.length_append]; simp; omega)).1 S6)), rfl⟩

theorem range_mem {m : Int} (hm : m ≤ 1000) {d : D} (hd : d ∈ DL.rangeD 0 m) : ∃ k : Nat, d = .int k ∧ k ≤ 1000 := by
  unfold DL.rangeD at hd
  obtain ⟨j, hj, rfl⟩ := List.mem_map.mp hd
  have := List.mem_range.mp hj
  exact ⟨j, by simp, by omega⟩
theorem turn_arg (ns : List Int) (k : Nat) {S S1 : Sto} {d : D} (hs : d__law_stock [.scr ns, .int k] S = some (d, S1)) : (fCons (fCall w__law_stock (fCons (fVar 0) (fCons (fVar 1) fNil))) fNil) [some (.scr ns), some (.int k)] S = some ([d], S1) := by
  have h : (fCall w__law_stock (fCons (fVar 0) (fCons (fVar 1) fNil))) [some (.scr ns), some (.int k)] S = some (d, S1) := call_of (S1 := S) (ds := [.scr ns, .int k]) (by rfl) hs
  exact cons_of h rfl
theorem turn_ok (ns : List Int) (h : ns.length ≤ 63) (k : Nat) (hk : k ≤ 1000) (S : Sto) : R ((fTest (fCall w__law_right (fCons (fCall w__law_stock (fCons (fVar 0) (fCons (fVar 1) fNil))) fNil))) [some (.scr ns), some (.int k)] S) fun b _ => b = true := by
  obtain ⟨a, b, hs, hb, hb2⟩ := stock_ok ns h k hk S
  have hr := right_ok (stk_new S (a := a) hb hb2) (by decide)
  refine r_test (r_call (turn_arg ns k hs) (hr.imp fun d S6 hd => ?_))
  exact ⟨true, hd, rfl⟩
theorem loop_ok (ns : List Int) (h : ns.length ≤ 63) (m : Int) (hm : m ≤ 1000) {f : FA} {S : Sto} {P : Fl → Sto → Prop} (hf : f [some (.scr ns), none] S = some (DL.rangeD 0 m, S)) (hP : ∀ e S', P (.nx [some (.scr ns), e]) S') :
    R (sFor f (gN 1) (sIf (tNotD (fTest (fCall w__law_right (fCons (fCall w__law_stock (fCons (fVar 0) (fCons (fVar 1) fNil))) fNil)))) (sRet (fC (.bl false))) sSkip) [some (.scr ns), none] S) P := by
  refine r_forM hf (fun env S6 => (∃ e : Option D, env = [some (.scr ns), e])) ⟨_, rfl⟩ ?_ ?_
  · rintro d hd env S ⟨e, rfl⟩
    obtain ⟨k, rfl, hk⟩ := range_mem hm hd
    refine R.of (a := [some (.scr ns), some (.int k)]) (S1 := S) rfl ?_
    refine r_if (r_not ((turn_ok ns h k hk S).imp fun b S6 hb => ?_))
    subst hb
    rw [if_neg (by decide)]
    exact r_skip ⟨_, rfl⟩
  · rintro env S ⟨e, rfl⟩
    exact hP e S
theorem lens (n : Nat) (hn : n ≤ 63) : ∃ m : Int, (if (if (4 : Int) < (n : Int) then 4 else (n : Int)) > 2 then (if (4 : Int) < (n : Int) then 4 else (n : Int)) else 2) = m ∧ 0 ≤ m ∧ m ≤ 4 := ⟨_, rfl, by omega, by omega⟩
theorem items_ok (ns : List Int) (h : ns.length ≤ 63) (S : Sto) : ∃ m : Int, m ≤ 4 ∧ (iRange1 (fCons (fCall cMax2 (fCons (fC (.int 2)) (fCons (fCall cMin2 (fCons (fCall cLen (fCons (fVar 0) fNil)) (fCons (fC (.int 4)) fNil))) fNil))) fNil)) [some (.scr ns), none] S = some (DL.rangeD 0 m, S) := by
  obtain ⟨m, e, h0, h4⟩ := lens ns.length h
  refine ⟨m, h4, ?_⟩
  have h1 : (fCall cLen (fCons (fVar 0) fNil)) [some (.scr ns), none] S = some (.int ns.length, S) := by rfl
  have h2 : (fCall cMin2 (fCons (fCall cLen (fCons (fVar 0) fNil)) (fCons (fC (.int 4)) fNil))) [some (.scr ns), none] S = some (.int (if (4 : Int) < (ns.length : Int) then 4 else (ns.length : Int)), S) := call_of (S1 := S) (ds := [.int ns.length, .int 4]) (cons_of h1 rfl) rfl
  have h3 : (fCall cMax2 (fCons (fC (.int 2)) (fCons (fCall cMin2 (fCons (fCall cLen (fCons (fVar 0) fNil)) (fCons (fC (.int 4)) fNil))) fNil))) [some (.scr ns), none] S = some (.int m, S) := by
    refine call_of (S1 := S) (ds := [.int 2, .int (if (4 : Int) < (ns.length : Int) then 4 else (ns.length : Int))]) (cons_of (S1 := S) rfl (cons_of h2 rfl)) ?_
    rw [← e]
    rfl
  unfold iRange1
  rw [cons_of h3 (ys := []) (S2 := S) rfl]
  show (if okR m = true then some (DL.rangeD 0 m, S) else none) = _
  rw [if_pos]
  rcases (by omega : m = 0 ∨ m = 1 ∨ m = 2 ∨ m = 3 ∨ m = 4) with rfl | rfl | rfl | rfl | rfl <;> decide
theorem plain (ns : List Int) (h : ns.length ≤ 63) : ∃ S', lawD [.scr ns] [] = some (.bl true, S') := by
  obtain ⟨m, hm, hi⟩ := items_ok ns h []
  have main : R (lawD [.scr ns] []) fun d S' => d = .bl true := by
    refine r_run (r_seq (loop_ok ns h m (by omega) hi fun e S' => ?_))
    exact R.of (a := Fl.rt (.bl true)) (S1 := S') rfl rfl
  obtain ⟨d, S', e, rfl⟩ := main
  exact ⟨S', e⟩
end LW

namespace LW
open PySem PySem.Spec PyProof.Rows L2 DL
theorem all_mk {l : PySem.W.OpenLaw} {w : World} {K : PySem.W.Frag} {h : Heap} {mg : Str → Option Value} {fa : Addr} (X : K.In h) (G : h.Ns mainGlobals mg) (hfa : mg "law" = some (.ref fa))
    {t_DIGITS : Tok}
    {t_MOST_PEOPLE : Tok}
    {t_MOST_SHAPED : Tok}
    {g_LENGTHS : Addr} {es_LENGTHS : Array DictEntry} {cn_LENGTHS : Nat}
    {f_is_integer : Addr} {od_is_integer an_is_integer : Option Addr} {sl_is_integer : Array (Option Value)} {oc_is_integer kV_is_integer dc_is_integer pm_is_integer cd_is_integer ct_is_integer : Value}
    {f_is_between : Addr} {od_is_between an_is_between : Option Addr} {sl_is_between : Array (Option Value)} {oc_is_between kV_is_between dc_is_between pm_is_between cd_is_between ct_is_between : Value}
    {f_natural : Addr} {od_natural an_natural : Option Addr} {sl_natural : Array (Option Value)} {oc_natural kV_natural dc_natural pm_natural cd_natural ct_natural : Value}
    {f_party_of : Addr} {od_party_of an_party_of : Option Addr} {sl_party_of : Array (Option Value)} {oc_party_of kV_party_of dc_party_of pm_party_of cd_party_of ct_party_of : Value}
    {f_are_people : Addr} {od_are_people an_are_people : Option Addr} {sl_are_people : Array (Option Value)} {oc_are_people kV_are_people dc_are_people pm_are_people cd_are_people ct_are_people : Value}
    {f_renamed : Addr} {od_renamed an_renamed : Option Addr} {sl_renamed : Array (Option Value)} {oc_renamed kV_renamed dc_renamed pm_renamed cd_renamed ct_renamed : Value}
    {f_is_about_parties : Addr} {od_is_about_parties an_is_about_parties : Option Addr} {sl_is_about_parties : Array (Option Value)} {oc_is_about_parties kV_is_about_parties dc_is_about_parties pm_is_about_parties cd_is_about_parties ct_is_about_parties : Value}
    {f_accepts : Addr} {od_accepts an_accepts : Option Addr} {sl_accepts : Array (Option Value)} {oc_accepts kV_accepts dc_accepts pm_accepts cd_accepts ct_accepts : Value}
    {f__law_stock : Addr} {od__law_stock an__law_stock : Option Addr} {sl__law_stock : Array (Option Value)} {oc__law_stock kV__law_stock dc__law_stock pm__law_stock cd__law_stock ct__law_stock : Value}
    {f__law_take : Addr} {od__law_take an__law_take : Option Addr} {sl__law_take : Array (Option Value)} {oc__law_take kV__law_take dc__law_take pm__law_take cd__law_take ct__law_take : Value}
    {f__law_agrees : Addr} {od__law_agrees an__law_agrees : Option Addr} {sl__law_agrees : Array (Option Value)} {oc__law_agrees kV__law_agrees dc__law_agrees pm__law_agrees cd__law_agrees ct__law_agrees : Value}
    {f__law_is : Addr} {od__law_is an__law_is : Option Addr} {sl__law_is : Array (Option Value)} {oc__law_is kV__law_is dc__law_is pm__law_is cd__law_is ct__law_is : Value}
    {f__law_line : Addr} {od__law_line an__law_line : Option Addr} {sl__law_line : Array (Option Value)} {oc__law_line kV__law_line dc__law_line pm__law_line cd__law_line ct__law_line : Value}
    {f__law_pairs : Addr} {od__law_pairs an__law_pairs : Option Addr} {sl__law_pairs : Array (Option Value)} {oc__law_pairs kV__law_pairs dc__law_pairs pm__law_pairs cd__law_pairs ct__law_pairs : Value}
    {f__law_flipped : Addr} {od__law_flipped an__law_flipped : Option Addr} {sl__law_flipped : Array (Option Value)} {oc__law_flipped kV__law_flipped dc__law_flipped pm__law_flipped cd__law_flipped ct__law_flipped : Value}
    {f__law_tie : Addr} {od__law_tie an__law_tie : Option Addr} {sl__law_tie : Array (Option Value)} {oc__law_tie kV__law_tie dc__law_tie pm__law_tie cd__law_tie ct__law_tie : Value}
    {f__law_some_ties : Addr} {od__law_some_ties an__law_some_ties : Option Addr} {sl__law_some_ties : Array (Option Value)} {oc__law_some_ties kV__law_some_ties dc__law_some_ties pm__law_some_ties cd__law_some_ties ct__law_some_ties : Value}
    {f__law_some_order : Addr} {od__law_some_order an__law_some_order : Option Addr} {sl__law_some_order : Array (Option Value)} {oc__law_some_order kV__law_some_order dc__law_some_order pm__law_some_order cd__law_some_order ct__law_some_order : Value}
    {f__law_people : Addr} {od__law_people an__law_people : Option Addr} {sl__law_people : Array (Option Value)} {oc__law_people kV__law_people dc__law_people pm__law_people cd__law_people ct__law_people : Value}
    {f__law_near_rows : Addr} {od__law_near_rows an__law_near_rows : Option Addr} {sl__law_near_rows : Array (Option Value)} {oc__law_near_rows kV__law_near_rows dc__law_near_rows pm__law_near_rows cd__law_near_rows ct__law_near_rows : Value}
    {f__law_renamed : Addr} {od__law_renamed an__law_renamed : Option Addr} {sl__law_renamed : Array (Option Value)} {oc__law_renamed kV__law_renamed dc__law_renamed pm__law_renamed cd__law_renamed ct__law_renamed : Value}
    {f__law_due : Addr} {od__law_due an__law_due : Option Addr} {sl__law_due : Array (Option Value)} {oc__law_due kV__law_due dc__law_due pm__law_due cd__law_due ct__law_due : Value}
    {f__law_judged : Addr} {od__law_judged an__law_judged : Option Addr} {sl__law_judged : Array (Option Value)} {oc__law_judged kV__law_judged dc__law_judged pm__law_judged cd__law_judged ct__law_judged : Value}
    {f__law_right : Addr} {od__law_right an__law_right : Option Addr} {sl__law_right : Array (Option Value)} {oc__law_right kV__law_right dc__law_right pm__law_right cd__law_right ct__law_right : Value}
    {f_law : Addr} {od_law an_law : Option Addr} {sl_law : Array (Option Value)} {oc_law kV_law dc_law pm_law cd_law ct_law : Value}
    (n_abs : PySem.W.nsIn K mainGlobals "abs" = some none)
    (n_any : PySem.W.nsIn K mainGlobals "any" = some none)
    (n_bool : PySem.W.nsIn K mainGlobals "bool" = some none)
    (n_enumerate : PySem.W.nsIn K mainGlobals "enumerate" = some none)
    (n_int : PySem.W.nsIn K mainGlobals "int" = some none)
    (n_isinstance : PySem.W.nsIn K mainGlobals "isinstance" = some none)
    (n_len : PySem.W.nsIn K mainGlobals "len" = some none)
    (n_list : PySem.W.nsIn K mainGlobals "list" = some none)
    (n_max : PySem.W.nsIn K mainGlobals "max" = some none)
    (n_min : PySem.W.nsIn K mainGlobals "min" = some none)
    (n_range : PySem.W.nsIn K mainGlobals "range" = some none)
    (n_sorted : PySem.W.nsIn K mainGlobals "sorted" = some none)
    (n_str : PySem.W.nsIn K mainGlobals "str" = some none)
    (n_tuple : PySem.W.nsIn K mainGlobals "tuple" = some none)
    (c_DIGITS : PySem.W.nsIn K mainGlobals "DIGITS" = some (some (.str "0123456789" t_DIGITS)))
    (c_MOST_PEOPLE : PySem.W.nsIn K mainGlobals "MOST_PEOPLE" = some (some (.int 10 t_MOST_PEOPLE)))
    (c_MOST_SHAPED : PySem.W.nsIn K mainGlobals "MOST_SHAPED" = some (some (.int 6 t_MOST_SHAPED)))
    (k_LENGTHS : PySem.W.nsIn K mainGlobals "LENGTHS" = some (some (.ref g_LENGTHS)))
    (l_LENGTHS : K.lookup g_LENGTHS = some ⟨.type "dict", none, .dict es_LENGTHS cn_LENGTHS, #[]⟩)
    (o_LENGTHS : TabOk w.params tab_LENGTHS es_LENGTHS.toList)
    (y_LENGTHS : (g_LENGTHS == sysModules) = false)
    (a_is_integer : PySem.W.nsIn K mainGlobals "is_integer" = some (some (.ref f_is_integer)))
    (l_is_integer : K.lookup f_is_integer = some ⟨oc_is_integer, od_is_integer, .func (PySem.W.fnOf "is_integer" "is_integer" (defArgs s_is_integer) (defBody s_is_integer) (defScope s_is_integer) .none kV_is_integer dc_is_integer pm_is_integer an_is_integer cd_is_integer ct_is_integer), sl_is_integer⟩)
    (c_is_integer : PySem.W.codeIn K cd_is_integer "is_integer" = true)
    (k_is_integer : PySem.W.keepIn K (.ref f_is_integer) = true)
    (a_is_between : PySem.W.nsIn K mainGlobals "is_between" = some (some (.ref f_is_between)))
    (l_is_between : K.lookup f_is_between = some ⟨oc_is_between, od_is_between, .func (PySem.W.fnOf "is_between" "is_between" (defArgs s_is_between) (defBody s_is_between) (defScope s_is_between) .none kV_is_between dc_is_between pm_is_between an_is_between cd_is_between ct_is_between), sl_is_between⟩)
    (c_is_between : PySem.W.codeIn K cd_is_between "is_between" = true)
    (k_is_between : PySem.W.keepIn K (.ref f_is_between) = true)
    (a_natural : PySem.W.nsIn K mainGlobals "natural" = some (some (.ref f_natural)))
    (l_natural : K.lookup f_natural = some ⟨oc_natural, od_natural, .func (PySem.W.fnOf "natural" "natural" (defArgs s_natural) (defBody s_natural) (defScope s_natural) .none kV_natural dc_natural pm_natural an_natural cd_natural ct_natural), sl_natural⟩)
    (c_natural : PySem.W.codeIn K cd_natural "natural" = true)
    (k_natural : PySem.W.keepIn K (.ref f_natural) = true)
    (a_party_of : PySem.W.nsIn K mainGlobals "party_of" = some (some (.ref f_party_of)))
    (l_party_of : K.lookup f_party_of = some ⟨oc_party_of, od_party_of, .func (PySem.W.fnOf "party_of" "party_of" (defArgs s_party_of) (defBody s_party_of) (defScope s_party_of) .none kV_party_of dc_party_of pm_party_of an_party_of cd_party_of ct_party_of), sl_party_of⟩)
    (c_party_of : PySem.W.codeIn K cd_party_of "party_of" = true)
    (k_party_of : PySem.W.keepIn K (.ref f_party_of) = true)
    (a_are_people : PySem.W.nsIn K mainGlobals "are_people" = some (some (.ref f_are_people)))
    (l_are_people : K.lookup f_are_people = some ⟨oc_are_people, od_are_people, .func (PySem.W.fnOf "are_people" "are_people" (defArgs s_are_people) (defBody s_are_people) (defScope s_are_people) .none kV_are_people dc_are_people pm_are_people an_are_people cd_are_people ct_are_people), sl_are_people⟩)
    (c_are_people : PySem.W.codeIn K cd_are_people "are_people" = true)
    (k_are_people : PySem.W.keepIn K (.ref f_are_people) = true)
    (a_renamed : PySem.W.nsIn K mainGlobals "renamed" = some (some (.ref f_renamed)))
    (l_renamed : K.lookup f_renamed = some ⟨oc_renamed, od_renamed, .func (PySem.W.fnOf "renamed" "renamed" (defArgs s_renamed) (defBody s_renamed) (defScope s_renamed) .none kV_renamed dc_renamed pm_renamed an_renamed cd_renamed ct_renamed), sl_renamed⟩)
    (c_renamed : PySem.W.codeIn K cd_renamed "renamed" = true)
    (k_renamed : PySem.W.keepIn K (.ref f_renamed) = true)
    (a_is_about_parties : PySem.W.nsIn K mainGlobals "is_about_parties" = some (some (.ref f_is_about_parties)))
    (l_is_about_parties : K.lookup f_is_about_parties = some ⟨oc_is_about_parties, od_is_about_parties, .func (PySem.W.fnOf "is_about_parties" "is_about_parties" (defArgs s_is_about_parties) (defBody s_is_about_parties) (defScope s_is_about_parties) .none kV_is_about_parties dc_is_about_parties pm_is_about_parties an_is_about_parties cd_is_about_parties ct_is_about_parties), sl_is_about_parties⟩)
    (c_is_about_parties : PySem.W.codeIn K cd_is_about_parties "is_about_parties" = true)
    (k_is_about_parties : PySem.W.keepIn K (.ref f_is_about_parties) = true)
    (a_accepts : PySem.W.nsIn K mainGlobals "accepts" = some (some (.ref f_accepts)))
    (l_accepts : K.lookup f_accepts = some ⟨oc_accepts, od_accepts, .func (PySem.W.fnOf "accepts" "accepts" (defArgs s_accepts) (defBody s_accepts) (defScope s_accepts) .none kV_accepts dc_accepts pm_accepts an_accepts cd_accepts ct_accepts), sl_accepts⟩)
    (c_accepts : PySem.W.codeIn K cd_accepts "accepts" = true)
    (k_accepts : PySem.W.keepIn K (.ref f_accepts) = true)
    (a__law_stock : PySem.W.nsIn K mainGlobals "_law_stock" = some (some (.ref f__law_stock)))
    (l__law_stock : K.lookup f__law_stock = some ⟨oc__law_stock, od__law_stock, .func (PySem.W.fnOf "_law_stock" "_law_stock" (defArgs s__law_stock) (defBody s__law_stock) (defScope s__law_stock) .none kV__law_stock dc__law_stock pm__law_stock an__law_stock cd__law_stock ct__law_stock), sl__law_stock⟩)
    (c__law_stock : PySem.W.codeIn K cd__law_stock "_law_stock" = true)
    (k__law_stock : PySem.W.keepIn K (.ref f__law_stock) = true)
    (a__law_take : PySem.W.nsIn K mainGlobals "_law_take" = some (some (.ref f__law_take)))
    (l__law_take : K.lookup f__law_take = some ⟨oc__law_take, od__law_take, .func (PySem.W.fnOf "_law_take" "_law_take" (defArgs s__law_take) (defBody s__law_take) (defScope s__law_take) .none kV__law_take dc__law_take pm__law_take an__law_take cd__law_take ct__law_take), sl__law_take⟩)
    (c__law_take : PySem.W.codeIn K cd__law_take "_law_take" = true)
    (k__law_take : PySem.W.keepIn K (.ref f__law_take) = true)
    (a__law_agrees : PySem.W.nsIn K mainGlobals "_law_agrees" = some (some (.ref f__law_agrees)))
    (l__law_agrees : K.lookup f__law_agrees = some ⟨oc__law_agrees, od__law_agrees, .func (PySem.W.fnOf "_law_agrees" "_law_agrees" (defArgs s__law_agrees) (defBody s__law_agrees) (defScope s__law_agrees) .none kV__law_agrees dc__law_agrees pm__law_agrees an__law_agrees cd__law_agrees ct__law_agrees), sl__law_agrees⟩)
    (c__law_agrees : PySem.W.codeIn K cd__law_agrees "_law_agrees" = true)
    (k__law_agrees : PySem.W.keepIn K (.ref f__law_agrees) = true)
    (a__law_is : PySem.W.nsIn K mainGlobals "_law_is" = some (some (.ref f__law_is)))
    (l__law_is : K.lookup f__law_is = some ⟨oc__law_is, od__law_is, .func (PySem.W.fnOf "_law_is" "_law_is" (defArgs s__law_is) (defBody s__law_is) (defScope s__law_is) .none kV__law_is dc__law_is pm__law_is an__law_is cd__law_is ct__law_is), sl__law_is⟩)
    (c__law_is : PySem.W.codeIn K cd__law_is "_law_is" = true)
    (k__law_is : PySem.W.keepIn K (.ref f__law_is) = true)
    (a__law_line : PySem.W.nsIn K mainGlobals "_law_line" = some (some (.ref f__law_line)))
    (l__law_line : K.lookup f__law_line = some ⟨oc__law_line, od__law_line, .func (PySem.W.fnOf "_law_line" "_law_line" (defArgs s__law_line) (defBody s__law_line) (defScope s__law_line) .none kV__law_line dc__law_line pm__law_line an__law_line cd__law_line ct__law_line), sl__law_line⟩)
    (c__law_line : PySem.W.codeIn K cd__law_line "_law_line" = true)
    (k__law_line : PySem.W.keepIn K (.ref f__law_line) = true)
    (a__law_pairs : PySem.W.nsIn K mainGlobals "_law_pairs" = some (some (.ref f__law_pairs)))
    (l__law_pairs : K.lookup f__law_pairs = some ⟨oc__law_pairs, od__law_pairs, .func (PySem.W.fnOf "_law_pairs" "_law_pairs" (defArgs s__law_pairs) (defBody s__law_pairs) (defScope s__law_pairs) .none kV__law_pairs dc__law_pairs pm__law_pairs an__law_pairs cd__law_pairs ct__law_pairs), sl__law_pairs⟩)
    (c__law_pairs : PySem.W.codeIn K cd__law_pairs "_law_pairs" = true)
    (k__law_pairs : PySem.W.keepIn K (.ref f__law_pairs) = true)
    (a__law_flipped : PySem.W.nsIn K mainGlobals "_law_flipped" = some (some (.ref f__law_flipped)))
    (l__law_flipped : K.lookup f__law_flipped = some ⟨oc__law_flipped, od__law_flipped, .func (PySem.W.fnOf "_law_flipped" "_law_flipped" (defArgs s__law_flipped) (defBody s__law_flipped) (defScope s__law_flipped) .none kV__law_flipped dc__law_flipped pm__law_flipped an__law_flipped cd__law_flipped ct__law_flipped), sl__law_flipped⟩)
    (c__law_flipped : PySem.W.codeIn K cd__law_flipped "_law_flipped" = true)
    (k__law_flipped : PySem.W.keepIn K (.ref f__law_flipped) = true)
    (a__law_tie : PySem.W.nsIn K mainGlobals "_law_tie" = some (some (.ref f__law_tie)))
    (l__law_tie : K.lookup f__law_tie = some ⟨oc__law_tie, od__law_tie, .func (PySem.W.fnOf "_law_tie" "_law_tie" (defArgs s__law_tie) (defBody s__law_tie) (defScope s__law_tie) .none kV__law_tie dc__law_tie pm__law_tie an__law_tie cd__law_tie ct__law_tie), sl__law_tie⟩)
    (c__law_tie : PySem.W.codeIn K cd__law_tie "_law_tie" = true)
    (k__law_tie : PySem.W.keepIn K (.ref f__law_tie) = true)
    (a__law_some_ties : PySem.W.nsIn K mainGlobals "_law_some_ties" = some (some (.ref f__law_some_ties)))
    (l__law_some_ties : K.lookup f__law_some_ties = some ⟨oc__law_some_ties, od__law_some_ties, .func (PySem.W.fnOf "_law_some_ties" "_law_some_ties" (defArgs s__law_some_ties) (defBody s__law_some_ties) (defScope s__law_some_ties) .none kV__law_some_ties dc__law_some_ties pm__law_some_ties an__law_some_ties cd__law_some_ties ct__law_some_ties), sl__law_some_ties⟩)
    (c__law_some_ties : PySem.W.codeIn K cd__law_some_ties "_law_some_ties" = true)
    (k__law_some_ties : PySem.W.keepIn K (.ref f__law_some_ties) = true)
    (a__law_some_order : PySem.W.nsIn K mainGlobals "_law_some_order" = some (some (.ref f__law_some_order)))
    (l__law_some_order : K.lookup f__law_some_order = some ⟨oc__law_some_order, od__law_some_order, .func (PySem.W.fnOf "_law_some_order" "_law_some_order" (defArgs s__law_some_order) (defBody s__law_some_order) (defScope s__law_some_order) .none kV__law_some_order dc__law_some_order pm__law_some_order an__law_some_order cd__law_some_order ct__law_some_order), sl__law_some_order⟩)
    (c__law_some_order : PySem.W.codeIn K cd__law_some_order "_law_some_order" = true)
    (k__law_some_order : PySem.W.keepIn K (.ref f__law_some_order) = true)
    (a__law_people : PySem.W.nsIn K mainGlobals "_law_people" = some (some (.ref f__law_people)))
    (l__law_people : K.lookup f__law_people = some ⟨oc__law_people, od__law_people, .func (PySem.W.fnOf "_law_people" "_law_people" (defArgs s__law_people) (defBody s__law_people) (defScope s__law_people) .none kV__law_people dc__law_people pm__law_people an__law_people cd__law_people ct__law_people), sl__law_people⟩)
    (c__law_people : PySem.W.codeIn K cd__law_people "_law_people" = true)
    (k__law_people : PySem.W.keepIn K (.ref f__law_people) = true)
    (a__law_near_rows : PySem.W.nsIn K mainGlobals "_law_near_rows" = some (some (.ref f__law_near_rows)))
    (l__law_near_rows : K.lookup f__law_near_rows = some ⟨oc__law_near_rows, od__law_near_rows, .func (PySem.W.fnOf "_law_near_rows" "_law_near_rows" (defArgs s__law_near_rows) (defBody s__law_near_rows) (defScope s__law_near_rows) .none kV__law_near_rows dc__law_near_rows pm__law_near_rows an__law_near_rows cd__law_near_rows ct__law_near_rows), sl__law_near_rows⟩)
    (c__law_near_rows : PySem.W.codeIn K cd__law_near_rows "_law_near_rows" = true)
    (k__law_near_rows : PySem.W.keepIn K (.ref f__law_near_rows) = true)
    (a__law_renamed : PySem.W.nsIn K mainGlobals "_law_renamed" = some (some (.ref f__law_renamed)))
    (l__law_renamed : K.lookup f__law_renamed = some ⟨oc__law_renamed, od__law_renamed, .func (PySem.W.fnOf "_law_renamed" "_law_renamed" (defArgs s__law_renamed) (defBody s__law_renamed) (defScope s__law_renamed) .none kV__law_renamed dc__law_renamed pm__law_renamed an__law_renamed cd__law_renamed ct__law_renamed), sl__law_renamed⟩)
    (c__law_renamed : PySem.W.codeIn K cd__law_renamed "_law_renamed" = true)
    (k__law_renamed : PySem.W.keepIn K (.ref f__law_renamed) = true)
    (a__law_due : PySem.W.nsIn K mainGlobals "_law_due" = some (some (.ref f__law_due)))
    (l__law_due : K.lookup f__law_due = some ⟨oc__law_due, od__law_due, .func (PySem.W.fnOf "_law_due" "_law_due" (defArgs s__law_due) (defBody s__law_due) (defScope s__law_due) .none kV__law_due dc__law_due pm__law_due an__law_due cd__law_due ct__law_due), sl__law_due⟩)
    (c__law_due : PySem.W.codeIn K cd__law_due "_law_due" = true)
    (k__law_due : PySem.W.keepIn K (.ref f__law_due) = true)
    (a__law_judged : PySem.W.nsIn K mainGlobals "_law_judged" = some (some (.ref f__law_judged)))
    (l__law_judged : K.lookup f__law_judged = some ⟨oc__law_judged, od__law_judged, .func (PySem.W.fnOf "_law_judged" "_law_judged" (defArgs s__law_judged) (defBody s__law_judged) (defScope s__law_judged) .none kV__law_judged dc__law_judged pm__law_judged an__law_judged cd__law_judged ct__law_judged), sl__law_judged⟩)
    (c__law_judged : PySem.W.codeIn K cd__law_judged "_law_judged" = true)
    (k__law_judged : PySem.W.keepIn K (.ref f__law_judged) = true)
    (a__law_right : PySem.W.nsIn K mainGlobals "_law_right" = some (some (.ref f__law_right)))
    (l__law_right : K.lookup f__law_right = some ⟨oc__law_right, od__law_right, .func (PySem.W.fnOf "_law_right" "_law_right" (defArgs s__law_right) (defBody s__law_right) (defScope s__law_right) .none kV__law_right dc__law_right pm__law_right an__law_right cd__law_right ct__law_right), sl__law_right⟩)
    (c__law_right : PySem.W.codeIn K cd__law_right "_law_right" = true)
    (k__law_right : PySem.W.keepIn K (.ref f__law_right) = true)
    (a_law : PySem.W.nsIn K mainGlobals "law" = some (some (.ref f_law)))
    (l_law : K.lookup f_law = some ⟨oc_law, od_law, .func (PySem.W.fnOf "law" "law" (defArgs s_law) (defBody s_law) (defScope s_law) .none kV_law dc_law pm_law an_law cd_law ct_law), sl_law⟩)
    (c_law : PySem.W.codeIn K cd_law "law" = true)
    (k_law : PySem.W.keepIn K (.ref f_law) = true) :
    ∃ fd : FuncData, (∀ (s : Shared) (v : Value), BindsTo s fd ⟨[v], []⟩ [("_law_script", v)]) ∧ ∀ base : Heap, K.In base → base.Ns mainGlobals mg → FnG l.prog w K mg base 14 fa fd ["_law_script"] (spScr K) := by
  have e := hfa.symm.trans (PySem.W.mg_of X G a_law)
  cases e
  have T : Txt w K mg := ⟨PySem.W.mg_none_of X G n_abs,
    PySem.W.mg_none_of X G n_any,
    PySem.W.mg_none_of X G n_bool,
    PySem.W.mg_none_of X G n_enumerate,
    PySem.W.mg_none_of X G n_int,
    PySem.W.mg_none_of X G n_isinstance,
    PySem.W.mg_none_of X G n_len,
    PySem.W.mg_none_of X G n_list,
    PySem.W.mg_none_of X G n_max,
    PySem.W.mg_none_of X G n_min,
    PySem.W.mg_none_of X G n_range,
    PySem.W.mg_none_of X G n_sorted,
    PySem.W.mg_none_of X G n_str,
    PySem.W.mg_none_of X G n_tuple,
    ⟨_, PySem.W.mg_of X G c_DIGITS, ⟨_, rfl⟩⟩,
    ⟨_, PySem.W.mg_of X G c_MOST_PEOPLE, ⟨_, rfl⟩⟩,
    ⟨_, PySem.W.mg_of X G c_MOST_SHAPED, ⟨_, rfl⟩⟩,
    kg_of (PySem.W.mg_of X G k_LENGTHS) l_LENGTHS o_LENGTHS y_LENGTHS,
    ⟨_, _, fun_mk (st := s_is_integer) l_is_integer c_is_integer k_is_integer, PySem.W.mg_of X G a_is_integer, (fun_mk (st := s_is_integer) l_is_integer c_is_integer k_is_integer).binds (ps := ["value"]) (fun _ _ _ _ _ _ us hl => match us, hl with | [_], _ => rfl), (fun b hb => by cases hb)⟩,
    ⟨_, _, fun_mk (st := s_is_between) l_is_between c_is_between k_is_between, PySem.W.mg_of X G a_is_between, (fun_mk (st := s_is_between) l_is_between c_is_between k_is_between).binds (ps := ["value", "least", "most"]) (fun _ _ _ _ _ _ us hl => match us, hl with | [_, _, _], _ => rfl), (fun b hb => by cases hb)⟩,
    ⟨_, _, fun_mk (st := s_natural) l_natural c_natural k_natural, PySem.W.mg_of X G a_natural, (fun_mk (st := s_natural) l_natural c_natural k_natural).binds (ps := ["text", "most"]) (fun _ _ _ _ _ _ us hl => match us, hl with | [_, _], _ => rfl), (fun b hb => by cases hb)⟩,
    ⟨_, _, fun_mk (st := s_party_of) l_party_of c_party_of k_party_of, PySem.W.mg_of X G a_party_of, (fun_mk (st := s_party_of) l_party_of c_party_of k_party_of).binds (ps := ["text"]) (fun _ _ _ _ _ _ us hl => match us, hl with | [_], _ => rfl), (fun b hb => by cases hb)⟩,
    ⟨_, _, fun_mk (st := s_are_people) l_are_people c_are_people k_are_people, PySem.W.mg_of X G a_are_people, (fun_mk (st := s_are_people) l_are_people c_are_people k_are_people).binds (ps := ["value", "people"]) (fun _ _ _ _ _ _ us hl => match us, hl with | [_, _], _ => rfl), (fun b hb => by cases hb)⟩,
    ⟨_, _, fun_mk (st := s_renamed) l_renamed c_renamed k_renamed, PySem.W.mg_of X G a_renamed, (fun_mk (st := s_renamed) l_renamed c_renamed k_renamed).binds (ps := ["ties", "row"]) (fun _ _ _ _ _ _ us hl => match us, hl with | [_, _], _ => rfl), (fun b hb => by cases hb)⟩,
    ⟨_, _, fun_mk (st := s_is_about_parties) l_is_about_parties c_is_about_parties k_is_about_parties, PySem.W.mg_of X G a_is_about_parties, (fun_mk (st := s_is_about_parties) l_is_about_parties c_is_about_parties k_is_about_parties).binds (ps := ["word", "party", "other", "certificate"]) (fun _ _ _ _ _ _ us hl => match us, hl with | [_, _, _, _], _ => rfl), (fun b hb => by cases hb)⟩,
    ⟨_, _, fun_mk (st := s_accepts) l_accepts c_accepts k_accepts, PySem.W.mg_of X G a_accepts, (fun_mk (st := s_accepts) l_accepts c_accepts k_accepts).binds (ps := ["claim", "certificate"]) (fun _ _ _ _ _ _ us hl => match us, hl with | [_, _], _ => rfl), (fun b hb => by cases hb)⟩,
    ⟨_, _, fun_mk (st := s__law_stock) l__law_stock c__law_stock k__law_stock, PySem.W.mg_of X G a__law_stock, (fun_mk (st := s__law_stock) l__law_stock c__law_stock k__law_stock).binds (ps := ["_law_script", "_law_k"]) (fun _ _ _ _ _ _ us hl => match us, hl with | [_, _], _ => rfl), (fun b hb => by cases hb)⟩,
    ⟨_, _, fun_mk (st := s__law_take) l__law_take c__law_take k__law_take, PySem.W.mg_of X G a__law_take, (fun_mk (st := s__law_take) l__law_take c__law_take k__law_take).binds (ps := ["_law_stock_here", "_law_many"]) (fun _ _ _ _ _ _ us hl => match us, hl with | [_, _], _ => rfl), (fun b hb => by cases hb)⟩,
    ⟨_, _, fun_mk (st := s__law_agrees) l__law_agrees c__law_agrees k__law_agrees, PySem.W.mg_of X G a__law_agrees, (fun_mk (st := s__law_agrees) l__law_agrees c__law_agrees k__law_agrees).binds (ps := ["_law_claim", "_law_paper", "_law_due_here"]) (fun _ _ _ _ _ _ us hl => match us, hl with | [_, _, _], _ => rfl), (fun b hb => by cases hb)⟩,
    ⟨_, _, fun_mk (st := s__law_is) l__law_is c__law_is k__law_is, PySem.W.mg_of X G a__law_is, (fun_mk (st := s__law_is) l__law_is c__law_is k__law_is).binds (ps := ["_law_value", "_law_least", "_law_most"]) (fun _ _ _ _ _ _ us hl => match us, hl with | [_, _, _], _ => rfl), (fun b hb => by cases hb)⟩,
    ⟨_, _, fun_mk (st := s__law_line) l__law_line c__law_line k__law_line, PySem.W.mg_of X G a__law_line, (fun_mk (st := s__law_line) l__law_line c__law_line k__law_line).binds (ps := ["_law_many", "_law_ties"]) (fun _ _ _ _ _ _ us hl => match us, hl with | [_, _], _ => rfl), (fun b hb => by cases hb)⟩,
    ⟨_, _, fun_mk (st := s__law_pairs) l__law_pairs c__law_pairs k__law_pairs, PySem.W.mg_of X G a__law_pairs, (fun_mk (st := s__law_pairs) l__law_pairs c__law_pairs k__law_pairs).binds (ps := ["_law_many"]) (fun _ _ _ _ _ _ us hl => match us, hl with | [_], _ => rfl), (fun b hb => by cases hb)⟩,
    ⟨_, _, fun_mk (st := s__law_flipped) l__law_flipped c__law_flipped k__law_flipped, PySem.W.mg_of X G a__law_flipped, (fun_mk (st := s__law_flipped) l__law_flipped c__law_flipped k__law_flipped).binds (ps := ["_law_ties", "_law_tie_here"]) (fun _ _ _ _ _ _ us hl => match us, hl with | [_, _], _ => rfl), (fun b hb => by cases hb)⟩,
    ⟨_, _, fun_mk (st := s__law_tie) l__law_tie c__law_tie k__law_tie, PySem.W.mg_of X G a__law_tie, (fun_mk (st := s__law_tie) l__law_tie c__law_tie k__law_tie).binds (ps := ["_law_one", "_law_other"]) (fun _ _ _ _ _ _ us hl => match us, hl with | [_, _], _ => rfl), (fun b hb => by cases hb)⟩,
    ⟨_, _, fun_mk (st := s__law_some_ties) l__law_some_ties c__law_some_ties k__law_some_ties, PySem.W.mg_of X G a__law_some_ties, (fun_mk (st := s__law_some_ties) l__law_some_ties c__law_some_ties k__law_some_ties).binds (ps := ["_law_stock_here", "_law_many"]) (fun _ _ _ _ _ _ us hl => match us, hl with | [_, _], _ => rfl), (fun b hb => by cases hb)⟩,
    ⟨_, _, fun_mk (st := s__law_some_order) l__law_some_order c__law_some_order k__law_some_order, PySem.W.mg_of X G a__law_some_order, (fun_mk (st := s__law_some_order) l__law_some_order c__law_some_order k__law_some_order).binds (ps := ["_law_stock_here", "_law_many"]) (fun _ _ _ _ _ _ us hl => match us, hl with | [_, _], _ => rfl), (fun b hb => by cases hb)⟩,
    ⟨_, _, fun_mk (st := s__law_people) l__law_people c__law_people k__law_people, PySem.W.mg_of X G a__law_people, (fun_mk (st := s__law_people) l__law_people c__law_people k__law_people).binds (ps := ["_law_paper", "_law_many"]) (fun _ _ _ _ _ _ us hl => match us, hl with | [_, _], _ => rfl), (fun b hb => by cases hb)⟩,
    ⟨_, _, fun_mk (st := s__law_near_rows) l__law_near_rows c__law_near_rows k__law_near_rows, PySem.W.mg_of X G a__law_near_rows, (fun_mk (st := s__law_near_rows) l__law_near_rows c__law_near_rows k__law_near_rows).binds (ps := ["_law_stock_here", "_law_many", "_law_paper"]) (fun _ _ _ _ _ _ us hl => match us, hl with | [_, _, _], _ => rfl), (fun b hb => by cases hb)⟩,
    ⟨_, _, fun_mk (st := s__law_renamed) l__law_renamed c__law_renamed k__law_renamed, PySem.W.mg_of X G a__law_renamed, (fun_mk (st := s__law_renamed) l__law_renamed c__law_renamed k__law_renamed).binds (ps := ["_law_ties", "_law_row"]) (fun _ _ _ _ _ _ us hl => match us, hl with | [_, _], _ => rfl), (fun b hb => by cases hb)⟩,
    ⟨_, _, fun_mk (st := s__law_due) l__law_due c__law_due k__law_due, PySem.W.mg_of X G a__law_due, (fun_mk (st := s__law_due) l__law_due c__law_due k__law_due).binds (ps := ["_law_many", "_law_ties", "_law_others", "_law_paper"]) (fun _ _ _ _ _ _ us hl => match us, hl with | [_, _, _, _], _ => rfl), (fun b hb => by cases hb)⟩,
    ⟨_, _, fun_mk (st := s__law_judged) l__law_judged c__law_judged k__law_judged, PySem.W.mg_of X G a__law_judged, (fun_mk (st := s__law_judged) l__law_judged c__law_judged k__law_judged).binds (ps := ["_law_many", "_law_ties", "_law_others", "_law_paper"]) (fun _ _ _ _ _ _ us hl => match us, hl with | [_, _, _, _], _ => rfl), (fun b hb => by cases hb)⟩,
    ⟨_, _, fun_mk (st := s__law_right) l__law_right c__law_right k__law_right, PySem.W.mg_of X G a__law_right, (fun_mk (st := s__law_right) l__law_right c__law_right k__law_right).binds (ps := ["_law_stock_here"]) (fun _ _ _ _ _ _ us hl => match us, hl with | [_], _ => rfl), (fun b hb => by cases hb)⟩,
    ⟨_, _, fun_mk (st := s_law) l_law c_law k_law, PySem.W.mg_of X G a_law, (fun_mk (st := s_law) l_law c_law k_law).binds (ps := ["_law_script"]) (fun _ _ _ _ _ _ us hl => match us, hl with | [_], _ => rfl), (fun b hb => by cases hb)⟩⟩
  exact ⟨_, fun s v => .of_eq rfl, fun base _ _ => law_scr (ct := (fun _ => none)) (law_fn (fun_mk (st := s_law) l_law c_law k_law) T) plain⟩

def hFacts0 : List (Fr → Bool) := [fun K => freeB K "abs",
  fun K => freeB K "any",
  fun K => freeB K "bool",
  fun K => freeB K "enumerate",
  fun K => freeB K "int",
  fun K => freeB K "isinstance",
  fun K => freeB K "len",
  fun K => freeB K "list",
  fun K => freeB K "max",
  fun K => freeB K "min",
  fun K => freeB K "range",
  fun K => freeB K "sorted",
  fun K => freeB K "str",
  fun K => freeB K "tuple",
  fun K => litB K "DIGITS" (.str "0123456789"),
  fun K => litB K "MOST_PEOPLE" (.int (10)),
  fun K => litB K "MOST_SHAPED" (.int (6)),
  fun K => gloB K "LENGTHS",
  fun K => !(He.ga K "LENGTHS" == sysModules),
  fun K => gloB K "is_integer",
  fun K => gloB K "is_between",
  fun K => gloB K "natural",
  fun K => gloB K "party_of",
  fun K => gloB K "are_people",
  fun K => gloB K "renamed",
  fun K => gloB K "is_about_parties",
  fun K => gloB K "accepts",
  fun K => gloB K "_law_stock",
  fun K => gloB K "_law_take",
  fun K => gloB K "_law_agrees"]
def hFacts1 : List (Fr → Bool) := [fun K => gloB K "_law_is",
  fun K => gloB K "_law_line",
  fun K => gloB K "_law_pairs",
  fun K => gloB K "_law_flipped",
  fun K => gloB K "_law_tie",
  fun K => gloB K "_law_some_ties",
  fun K => gloB K "_law_some_order",
  fun K => gloB K "_law_people",
  fun K => gloB K "_law_near_rows",
  fun K => gloB K "_law_renamed",
  fun K => gloB K "_law_due",
  fun K => gloB K "_law_judged",
  fun K => gloB K "_law_right",
  fun K => gloB K "law"]
def hFacts : List (Fr → Bool) := hFacts0 ++ hFacts1
def hDefs0 : List DefK := [⟨fun K => He.ga K "is_integer", "is_integer", "is_integer", s_is_integer, false⟩,
  ⟨fun K => He.ga K "is_between", "is_between", "is_between", s_is_between, false⟩,
  ⟨fun K => He.ga K "natural", "natural", "natural", s_natural, false⟩,
  ⟨fun K => He.ga K "party_of", "party_of", "party_of", s_party_of, false⟩,
  ⟨fun K => He.ga K "are_people", "are_people", "are_people", s_are_people, false⟩,
  ⟨fun K => He.ga K "renamed", "renamed", "renamed", s_renamed, false⟩,
  ⟨fun K => He.ga K "is_about_parties", "is_about_parties", "is_about_parties", s_is_about_parties, false⟩,
  ⟨fun K => He.ga K "accepts", "accepts", "accepts", s_accepts, false⟩,
  ⟨fun K => He.ga K "_law_stock", "_law_stock", "_law_stock", s__law_stock, false⟩,
  ⟨fun K => He.ga K "_law_take", "_law_take", "_law_take", s__law_take, false⟩,
  ⟨fun K => He.ga K "_law_agrees", "_law_agrees", "_law_agrees", s__law_agrees, false⟩,
  ⟨fun K => He.ga K "_law_is", "_law_is", "_law_is", s__law_is, false⟩,
  ⟨fun K => He.ga K "_law_line", "_law_line", "_law_line", s__law_line, false⟩,
  ⟨fun K => He.ga K "_law_pairs", "_law_pairs", "_law_pairs", s__law_pairs, false⟩,
  ⟨fun K => He.ga K "_law_flipped", "_law_flipped", "_law_flipped", s__law_flipped, false⟩,
  ⟨fun K => He.ga K "_law_tie", "_law_tie", "_law_tie", s__law_tie, false⟩,
  ⟨fun K => He.ga K "_law_some_ties", "_law_some_ties", "_law_some_ties", s__law_some_ties, false⟩,
  ⟨fun K => He.ga K "_law_some_order", "_law_some_order", "_law_some_order", s__law_some_order, false⟩,
  ⟨fun K => He.ga K "_law_people", "_law_people", "_law_people", s__law_people, false⟩,
  ⟨fun K => He.ga K "_law_near_rows", "_law_near_rows", "_law_near_rows", s__law_near_rows, false⟩,
  ⟨fun K => He.ga K "_law_renamed", "_law_renamed", "_law_renamed", s__law_renamed, false⟩,
  ⟨fun K => He.ga K "_law_due", "_law_due", "_law_due", s__law_due, false⟩,
  ⟨fun K => He.ga K "_law_judged", "_law_judged", "_law_judged", s__law_judged, false⟩,
  ⟨fun K => He.ga K "_law_right", "_law_right", "_law_right", s__law_right, false⟩,
  ⟨fun K => He.ga K "law", "law", "law", s_law, false⟩]
def hDefs : List DefK := hDefs0
def hNames0 : List Str := ["LENGTHS",
  "is_integer",
  "is_between",
  "natural",
  "party_of",
  "are_people",
  "renamed",
  "is_about_parties",
  "accepts",
  "_law_stock",
  "_law_take",
  "_law_agrees",
  "_law_is",
  "_law_line",
  "_law_pairs",
  "_law_flipped",
  "_law_tie",
  "_law_some_ties",
  "_law_some_order",
  "_law_people",
  "_law_near_rows",
  "_law_renamed",
  "_law_due",
  "_law_judged",
  "_law_right",
  "law"]
def hNames : List Str := hNames0
def hLoose0 : List Str := ["MOST_PEOPLE",
  "MOST_ASKED",
  "MOST_OUT",
  "MOST_SHAPED",
  "__name__",
  "masks_of",
  "mask_of",
  "is_in",
  "count_of",
  "first_in",
  "has_crowd",
  "has_pairs",
  "last_ones",
  "has_row",
  "is_ring_count",
  "has_ring",
  "has_core",
  "hang_together",
  "is_linked",
  "is_held",
  "DIGITS",
  "LEAST",
  "RINGS",
  "LENGTHS",
  "is_integer",
  "is_between",
  "accepts",
  "is_number",
  "is_about_things",
  "is_about_parties"]
def hLoose1 : List Str := ["is_about_party",
  "natural",
  "thing_of",
  "party_of",
  "pairs_of",
  "most_ties",
  "most_without_rings",
  "least_ties",
  "greatest_sizes",
  "is_following",
  "are_people",
  "is_ascending",
  "is_tie_tuple",
  "is_shown",
  "is_group",
  "is_line",
  "is_freed",
  "forcing_ties",
  "renamed",
  "orders_of",
  "lots_of",
  "is_fewest",
  "_law_stock",
  "_law_take",
  "_law_agrees",
  "_law_is",
  "_law_line",
  "_law_pairs",
  "_law_flipped",
  "_law_some_ties"]
def hLoose2 : List Str := ["_law_some_order",
  "_law_tie",
  "_law_people",
  "_law_near_rows",
  "_law_renamed",
  "_law_due",
  "_law_judged",
  "_law_right"]
def hLoose : List Str := hLoose0 ++ hLoose1 ++ hLoose2
def hTabs : List (Str × List (Str × Int)) := [("LENGTHS", tab_LENGTHS)]
def hd : HeadK := ⟨hNames, 4, [], hFacts, hDefs, hTabs⟩
abbrev Rw : PySem.W.OpenRow := PySem.W.OpenLaw.row PySem.Challenge.rw_forcedties_k63_renamings_judged
abbrev qv : Program := PySem.W.view Rw.prog [70]
set_option maxHeartbeats 0 in
theorem run_false (w : World) : HandSHeadRun.RunEq Rw qv hd.hook hd.ob 60000 hLoose (w.withFollow "special-get-raises" false) := by
  intro os
  kernel_rfl
set_option maxHeartbeats 0 in
theorem run_true (w : World) : HandSHeadRun.RunEq Rw qv hd.hook hd.ob 60000 hLoose (w.withFollow "special-get-raises" true) := by
  intro os
  kernel_rfl
theorem run (w : World) : HandSHeadRun.RunEq Rw qv hd.hook hd.ob 60000 hLoose w := PySem.W.byRow2 "special-get-raises" (P := fun w => HandSHeadRun.RunEq Rw qv hd.hook hd.ob 60000 hLoose w) run_false run_true w
theorem facts {l : PySem.W.OpenLaw} {w : World} {K : Fr} {h : Heap} {mg : Str → Option Value} {fa : Addr} (G : h.Ns mainGlobals mg) (hfa : mg "law" = some (.ref fa)) (c : hd.Says w h K) :
    ∃ fd : FuncData, (∀ (s : Shared) (v : Value), BindsTo s fd ⟨[v], []⟩ [("_law_script", v)]) ∧ ∀ base : Heap, K.In base → base.Ns mainGlobals mg → FnG l.prog w K mg base 14 fa fd ["_law_script"] (spScr K) := by
  obtain ⟨t_DIGITS, c_DIGITS⟩ := str_at (c.fact 14 _ rfl)
  obtain ⟨t_MOST_PEOPLE, c_MOST_PEOPLE⟩ := int_at (c.fact 15 _ rfl)
  obtain ⟨t_MOST_SHAPED, c_MOST_SHAPED⟩ := int_at (c.fact 16 _ rfl)
  obtain ⟨es_LENGTHS, cn_LENGTHS, l_LENGTHS, o_LENGTHS⟩ := tb_at (c.tab 0 _ rfl)
  obtain ⟨oc_is_integer, od_is_integer, sl_is_integer, kV_is_integer, dc_is_integer, pm_is_integer, an_is_integer, cd_is_integer, ct_is_integer, l_is_integer, c_is_integer, k_is_integer⟩ := def_at (c.def_ 0 _ rfl).1 (c.def_ 0 _ rfl).2
  obtain ⟨oc_is_between, od_is_between, sl_is_between, kV_is_between, dc_is_between, pm_is_between, an_is_between, cd_is_between, ct_is_between, l_is_between, c_is_between, k_is_between⟩ := def_at (c.def_ 1 _ rfl).1 (c.def_ 1 _ rfl).2
  obtain ⟨oc_natural, od_natural, sl_natural, kV_natural, dc_natural, pm_natural, an_natural, cd_natural, ct_natural, l_natural, c_natural, k_natural⟩ := def_at (c.def_ 2 _ rfl).1 (c.def_ 2 _ rfl).2
  obtain ⟨oc_party_of, od_party_of, sl_party_of, kV_party_of, dc_party_of, pm_party_of, an_party_of, cd_party_of, ct_party_of, l_party_of, c_party_of, k_party_of⟩ := def_at (c.def_ 3 _ rfl).1 (c.def_ 3 _ rfl).2
  obtain ⟨oc_are_people, od_are_people, sl_are_people, kV_are_people, dc_are_people, pm_are_people, an_are_people, cd_are_people, ct_are_people, l_are_people, c_are_people, k_are_people⟩ := def_at (c.def_ 4 _ rfl).1 (c.def_ 4 _ rfl).2
  obtain ⟨oc_renamed, od_renamed, sl_renamed, kV_renamed, dc_renamed, pm_renamed, an_renamed, cd_renamed, ct_renamed, l_renamed, c_renamed, k_renamed⟩ := def_at (c.def_ 5 _ rfl).1 (c.def_ 5 _ rfl).2
  obtain ⟨oc_is_about_parties, od_is_about_parties, sl_is_about_parties, kV_is_about_parties, dc_is_about_parties, pm_is_about_parties, an_is_about_parties, cd_is_about_parties, ct_is_about_parties, l_is_about_parties, c_is_about_parties, k_is_about_parties⟩ := def_at (c.def_ 6 _ rfl).1 (c.def_ 6 _ rfl).2
  obtain ⟨oc_accepts, od_accepts, sl_accepts, kV_accepts, dc_accepts, pm_accepts, an_accepts, cd_accepts, ct_accepts, l_accepts, c_accepts, k_accepts⟩ := def_at (c.def_ 7 _ rfl).1 (c.def_ 7 _ rfl).2
  obtain ⟨oc__law_stock, od__law_stock, sl__law_stock, kV__law_stock, dc__law_stock, pm__law_stock, an__law_stock, cd__law_stock, ct__law_stock, l__law_stock, c__law_stock, k__law_stock⟩ := def_at (c.def_ 8 _ rfl).1 (c.def_ 8 _ rfl).2
  obtain ⟨oc__law_take, od__law_take, sl__law_take, kV__law_take, dc__law_take, pm__law_take, an__law_take, cd__law_take, ct__law_take, l__law_take, c__law_take, k__law_take⟩ := def_at (c.def_ 9 _ rfl).1 (c.def_ 9 _ rfl).2
  obtain ⟨oc__law_agrees, od__law_agrees, sl__law_agrees, kV__law_agrees, dc__law_agrees, pm__law_agrees, an__law_agrees, cd__law_agrees, ct__law_agrees, l__law_agrees, c__law_agrees, k__law_agrees⟩ := def_at (c.def_ 10 _ rfl).1 (c.def_ 10 _ rfl).2
  obtain ⟨oc__law_is, od__law_is, sl__law_is, kV__law_is, dc__law_is, pm__law_is, an__law_is, cd__law_is, ct__law_is, l__law_is, c__law_is, k__law_is⟩ := def_at (c.def_ 11 _ rfl).1 (c.def_ 11 _ rfl).2
  obtain ⟨oc__law_line, od__law_line, sl__law_line, kV__law_line, dc__law_line, pm__law_line, an__law_line, cd__law_line, ct__law_line, l__law_line, c__law_line, k__law_line⟩ := def_at (c.def_ 12 _ rfl).1 (c.def_ 12 _ rfl).2
  obtain ⟨oc__law_pairs, od__law_pairs, sl__law_pairs, kV__law_pairs, dc__law_pairs, pm__law_pairs, an__law_pairs, cd__law_pairs, ct__law_pairs, l__law_pairs, c__law_pairs, k__law_pairs⟩ := def_at (c.def_ 13 _ rfl).1 (c.def_ 13 _ rfl).2
  obtain ⟨oc__law_flipped, od__law_flipped, sl__law_flipped, kV__law_flipped, dc__law_flipped, pm__law_flipped, an__law_flipped, cd__law_flipped, ct__law_flipped, l__law_flipped, c__law_flipped, k__law_flipped⟩ := def_at (c.def_ 14 _ rfl).1 (c.def_ 14 _ rfl).2
  obtain ⟨oc__law_tie, od__law_tie, sl__law_tie, kV__law_tie, dc__law_tie, pm__law_tie, an__law_tie, cd__law_tie, ct__law_tie, l__law_tie, c__law_tie, k__law_tie⟩ := def_at (c.def_ 15 _ rfl).1 (c.def_ 15 _ rfl).2
  obtain ⟨oc__law_some_ties, od__law_some_ties, sl__law_some_ties, kV__law_some_ties, dc__law_some_ties, pm__law_some_ties, an__law_some_ties, cd__law_some_ties, ct__law_some_ties, l__law_some_ties, c__law_some_ties, k__law_some_ties⟩ := def_at (c.def_ 16 _ rfl).1 (c.def_ 16 _ rfl).2
  obtain ⟨oc__law_some_order, od__law_some_order, sl__law_some_order, kV__law_some_order, dc__law_some_order, pm__law_some_order, an__law_some_order, cd__law_some_order, ct__law_some_order, l__law_some_order, c__law_some_order, k__law_some_order⟩ := def_at (c.def_ 17 _ rfl).1 (c.def_ 17 _ rfl).2
  obtain ⟨oc__law_people, od__law_people, sl__law_people, kV__law_people, dc__law_people, pm__law_people, an__law_people, cd__law_people, ct__law_people, l__law_people, c__law_people, k__law_people⟩ := def_at (c.def_ 18 _ rfl).1 (c.def_ 18 _ rfl).2
  obtain ⟨oc__law_near_rows, od__law_near_rows, sl__law_near_rows, kV__law_near_rows, dc__law_near_rows, pm__law_near_rows, an__law_near_rows, cd__law_near_rows, ct__law_near_rows, l__law_near_rows, c__law_near_rows, k__law_near_rows⟩ := def_at (c.def_ 19 _ rfl).1 (c.def_ 19 _ rfl).2
  obtain ⟨oc__law_renamed, od__law_renamed, sl__law_renamed, kV__law_renamed, dc__law_renamed, pm__law_renamed, an__law_renamed, cd__law_renamed, ct__law_renamed, l__law_renamed, c__law_renamed, k__law_renamed⟩ := def_at (c.def_ 20 _ rfl).1 (c.def_ 20 _ rfl).2
  obtain ⟨oc__law_due, od__law_due, sl__law_due, kV__law_due, dc__law_due, pm__law_due, an__law_due, cd__law_due, ct__law_due, l__law_due, c__law_due, k__law_due⟩ := def_at (c.def_ 21 _ rfl).1 (c.def_ 21 _ rfl).2
  obtain ⟨oc__law_judged, od__law_judged, sl__law_judged, kV__law_judged, dc__law_judged, pm__law_judged, an__law_judged, cd__law_judged, ct__law_judged, l__law_judged, c__law_judged, k__law_judged⟩ := def_at (c.def_ 22 _ rfl).1 (c.def_ 22 _ rfl).2
  obtain ⟨oc__law_right, od__law_right, sl__law_right, kV__law_right, dc__law_right, pm__law_right, an__law_right, cd__law_right, ct__law_right, l__law_right, c__law_right, k__law_right⟩ := def_at (c.def_ 23 _ rfl).1 (c.def_ 23 _ rfl).2
  obtain ⟨oc_law, od_law, sl_law, kV_law, dc_law, pm_law, an_law, cd_law, ct_law, l_law, c_law, k_law⟩ := def_at (c.def_ 24 _ rfl).1 (c.def_ 24 _ rfl).2
  exact all_mk c.in_ G hfa (He.eqO_ok (c.fact 0 _ rfl))
    (He.eqO_ok (c.fact 1 _ rfl))
    (He.eqO_ok (c.fact 2 _ rfl))
    (He.eqO_ok (c.fact 3 _ rfl))
    (He.eqO_ok (c.fact 4 _ rfl))
    (He.eqO_ok (c.fact 5 _ rfl))
    (He.eqO_ok (c.fact 6 _ rfl))
    (He.eqO_ok (c.fact 7 _ rfl))
    (He.eqO_ok (c.fact 8 _ rfl))
    (He.eqO_ok (c.fact 9 _ rfl))
    (He.eqO_ok (c.fact 10 _ rfl))
    (He.eqO_ok (c.fact 11 _ rfl))
    (He.eqO_ok (c.fact 12 _ rfl))
    (He.eqO_ok (c.fact 13 _ rfl))
    c_DIGITS
    c_MOST_PEOPLE
    c_MOST_SHAPED
    (He.eqO_ok (c.fact 17 _ rfl))
    l_LENGTHS
    o_LENGTHS
    (notB (c.fact 18 _ rfl))
    (He.eqO_ok (c.fact 19 _ rfl))
    l_is_integer
    c_is_integer
    k_is_integer
    (He.eqO_ok (c.fact 20 _ rfl))
    l_is_between
    c_is_between
    k_is_between
    (He.eqO_ok (c.fact 21 _ rfl))
    l_natural
    c_natural
    k_natural
    (He.eqO_ok (c.fact 22 _ rfl))
    l_party_of
    c_party_of
    k_party_of
    (He.eqO_ok (c.fact 23 _ rfl))
    l_are_people
    c_are_people
    k_are_people
    (He.eqO_ok (c.fact 24 _ rfl))
    l_renamed
    c_renamed
    k_renamed
    (He.eqO_ok (c.fact 25 _ rfl))
    l_is_about_parties
    c_is_about_parties
    k_is_about_parties
    (He.eqO_ok (c.fact 26 _ rfl))
    l_accepts
    c_accepts
    k_accepts
    (He.eqO_ok (c.fact 27 _ rfl))
    l__law_stock
    c__law_stock
    k__law_stock
    (He.eqO_ok (c.fact 28 _ rfl))
    l__law_take
    c__law_take
    k__law_take
    (He.eqO_ok (c.fact 29 _ rfl))
    l__law_agrees
    c__law_agrees
    k__law_agrees
    (He.eqO_ok (c.fact 30 _ rfl))
    l__law_is
    c__law_is
    k__law_is
    (He.eqO_ok (c.fact 31 _ rfl))
    l__law_line
    c__law_line
    k__law_line
    (He.eqO_ok (c.fact 32 _ rfl))
    l__law_pairs
    c__law_pairs
    k__law_pairs
    (He.eqO_ok (c.fact 33 _ rfl))
    l__law_flipped
    c__law_flipped
    k__law_flipped
    (He.eqO_ok (c.fact 34 _ rfl))
    l__law_tie
    c__law_tie
    k__law_tie
    (He.eqO_ok (c.fact 35 _ rfl))
    l__law_some_ties
    c__law_some_ties
    k__law_some_ties
    (He.eqO_ok (c.fact 36 _ rfl))
    l__law_some_order
    c__law_some_order
    k__law_some_order
    (He.eqO_ok (c.fact 37 _ rfl))
    l__law_people
    c__law_people
    k__law_people
    (He.eqO_ok (c.fact 38 _ rfl))
    l__law_near_rows
    c__law_near_rows
    k__law_near_rows
    (He.eqO_ok (c.fact 39 _ rfl))
    l__law_renamed
    c__law_renamed
    k__law_renamed
    (He.eqO_ok (c.fact 40 _ rfl))
    l__law_due
    c__law_due
    k__law_due
    (He.eqO_ok (c.fact 41 _ rfl))
    l__law_judged
    c__law_judged
    k__law_judged
    (He.eqO_ok (c.fact 42 _ rfl))
    l__law_right
    c__law_right
    k__law_right
    (He.eqO_ok (c.fact 43 _ rfl))
    l_law
    c_law
    k_law
end LW
open PySem PySem.W PySem.Calls PyProof.Rows in
set_option maxRecDepth 100000 in
set_option maxHeartbeats 0 in
theorem PySem.Challenge.cw_forcedties_k63_renamings_judged_holds : PySem.Challenge.rw_forcedties_k63_renamings_judged.Holds := by
  w_on; o_law
  refine HandSHeadRun.head_any (r := OpenLaw.row PySem.Challenge.rw_forcedties_k63_renamings_judged) (q := LW.qv) (H := LW.hd.hook) (ob := LW.hd.ob) (M := 60000) (loose := LW.hLoose) (d := HandSHeadRun.topDef (OpenLaw.row PySem.Challenge.rw_forcedties_k63_renamings_judged).prog 70) (kwd := []) LW.hd.ob_eq
    (by kernel_rfl) (fun s => by kernel_rfl) LW.run (by kernel_rfl) (by kernel_rfl) (by kernel_rfl) (by rfl) (by first | assumption | decide +kernel) (by decide +kernel) ⟨rfl, rfl, rfl, rfl, rfl, by decide +kernel⟩ ?hw ?hc
  case hw => w_witness2
  case hc =>
    refine DL.walkE (l := PySem.Challenge.rw_forcedties_k63_renamings_judged) (k := 14) (x := "_law_script") rfl (by kernel_rfl) ⟨rfl, by decide, by decide⟩ ?F
    intro w mg fa h Y G hmg0
    obtain ⟨K, c⟩ := Y
    have hmg : mg ("law" : PySem.Str) = some (.ref fa) := by
      have e : (HandSHeadRun.topDef (OpenLaw.row PySem.Challenge.rw_forcedties_k63_renamings_judged).prog 70).name = ("law" : PySem.Str) := by kernel_rfl
      rw [← e]
      exact hmg0
    obtain ⟨fd, hb, hF⟩ := LW.facts (l := PySem.Challenge.rw_forcedties_k63_renamings_judged) G hmg c
    exact ⟨K, fd, c.in_, hb, hF⟩
