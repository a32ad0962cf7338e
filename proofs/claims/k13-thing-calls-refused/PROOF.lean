import PyProof.Rows.All
import Wide.All
import OpenK.AllK
import Wide.FinOn
import HandS.ForMost
import HandS.Defaults
import HandS.Property
import HandS.EndBits
import HandS.Wide
import HandS.WideBits
import HandS.More
import HandS.IsInst
import HandS.Lambda
import HandS.EndTab
import HandS.ExcInit
import HandS.Deep
import HandS.Conv
import HandS.List
import PyProof.ReprRoads
import PyProof.CallFns
import HandS.NoneIn
import HandS.Codes
import HandS.ExcOwn
import KE.KExcInit
import PyProof.ExcBaseAll.ArithmeticError
import PyProof.ExcBaseAll.ValueError
import HandS.ExcIs
import HandS.ExcField
import HandS.SetFor
import KE.KTryMore
import KE.KNestM
import KE.GoesMore
import KE.GoesEnum
import KE.KStateDown
import HandS.Head0
import HandS.Head1
import HandS.Head2
import HandS.HeadHook1
import PySem.Challenge.RW_forcedties_k13_thing_calls_refused
set_option Elab.async false
set_option linter.all false
set_option maxRecDepth 100000
set_option maxHeartbeats 4000000

namespace DL
open PySem PySem.Spec PyProof.Rows L2
/-! # Promises of defs that are called while nothing is being shown (no repr is under way) -/
structure RoomG (k : Nat) (A : Around) : Prop where
  room : Room k A
  gd : A.guards = some []
theorem RoomG.mono {j k : Nat} {A : Around} (r : RoomG k A) (h : j ≤ k) : RoomG j A := ⟨r.room.mono h, r.gd⟩
theorem RoomG.deeper {k : Nat} {A : Around} (r : RoomG (k + 1) A) (env : Env) : RoomG k (A.deeper env) := ⟨r.room.deeper env, r.gd⟩
theorem RoomG.in1 {k : Nat} {A : Around} (r : RoomG (k + 1) A) : RoomG k A.in1 := ⟨r.room.in1, r.gd⟩
theorem make_guards {A : Around} {C : Addr} {us : List Value} {kw : List (Str × Value)} : (A.under (.builtin "type.__call__" ⟨.ref C :: us, kw⟩)).guards = A.guards := by
  cases h : A.guards <;> simp [Around.under, Code.guards, Code.isGuard, guardIds, pushGuards, h]
theorem RoomG.make {k : Nat} {A : Around} (r : RoomG (k + 1) A) (C : Addr) (us : List Value) (kw : List (Str × Value)) : RoomG k (A.under (.builtin "type.__call__" ⟨.ref C :: us, kw⟩)) := ⟨r.room.make C us kw, by rw [make_guards]; exact r.gd⟩
theorem RoomG.units {k : Nat} {A : Around} (r : RoomG k A) : A.units + 64 < cLine := r.room.units
structure FnG (P : Program) (w : World) (K : PySem.W.Frag) (mg : Str → Option Value) (base : Heap) (k : Nat) (f : Addr) (fd : FuncData) (ps : List Str) (sp : Sp) : Prop where
  len : ∀ vs H Q E, sp vs H Q E → vs.length = ps.length
  run : ∀ (A : Around) (outer : List Env) (s : Shared) (H : Hp) (args : Args) (us : List Value) (vs : List V) (Q : VK) (E : XK), RoomG k A → Env0 P w K mg base A outer s H →
    BindsTo s fd args (ps.zip us) → Vals vs us → sp vs H Q E → codeAny (model P w) A (.call (.ref f) args) (CR CX0 outer P w H s Q E) s
section
variable {P : Program} {w : World} {K : PySem.W.Frag} {mg : Str → Option Value} {base : Heap} {j k : Nat} {f : Addr} {fd : FuncData} {ps : List Str} {sp sp' : Sp}
theorem FnG.mono (F : FnG P w K mg base j f fd ps sp) (h : j ≤ k) : FnG P w K mg base k f fd ps sp := ⟨F.len, fun A o s H ar us vs Q E r => F.run A o s H ar us vs Q E (r.mono h)⟩
theorem FnG.imp (F : FnG P w K mg base k f fd ps sp) (h : ∀ vs H Q E, sp' vs H Q E → sp vs H Q E) : FnG P w K mg base k f fd ps sp' :=
  ⟨fun vs H Q E q => F.len vs H Q E (h _ _ _ _ q), fun A o s H ar us vs Q E r e0 b v q => F.run A o s H ar us vs Q E r e0 b v (h _ _ _ _ q)⟩
end
/-- what stands behind a call that ends well -/
theorem behind {X : Cx} {pins : List (Addr × Obj)} {σ : L2.St} {H : Hp} {s s' : Shared} {Q : VK} {E : XK} {r : Except Value Flow} (I : Inv X pins σ H s) (h : CR CX0 X.stack X.prog X.w H s Q E r s') : ∃ u, r = .ok (.ret u) ∧ EP X pins σ Q u s' := by
  cases r with
  | error er => exact False.elim h
  | ok fl =>
    cases fl <;> first | exact False.elim h | skip
    rename_i u
    exact ⟨u, rfl, I.after h⟩
section
variable {X : Cx} {k : Nat} {f C : Addr} {fd : FuncData} {ps : List Str} {sp : Sp} {dvs : List V} {ds : List Value} {E : XK} {x m : Str} {p pos apos : Pos} {e o : Expr} {es : List Expr} {ta : TE} {t tk : TA} {kws : List Keyword} {ks : List Str} {n : Nat} {g : List Value → List Value → List Value} {gV : List V → List V → List V}
theorem runG {pins : List (Addr × Obj)} {σ : L2.St} {H : Hp} {s : Shared} {Q : VK} {ar : Args} {us : List Value} {vs : List V} (F : FnG X.prog X.w X.K X.mg X.base k f fd ps sp) (hr : RoomG k X.A) (I : Inv X pins σ H s)
    (hb : BindsTo s fd ar (ps.zip us)) (rv : Vals vs us) (h : sp vs H Q E) : wpAny (model X.prog X.w) X.A (call (.ref f) ar.pos ar.kw) (EP X pins σ Q) X.xe s := by
  refine wpAny_call (codeAny_mono (F.run X.A X.stack s H ar us vs Q E hr I.env0 hb rv h) fun r s' q => ?_)
  obtain ⟨u, rfl, z⟩ := behind I q
  exact z
theorem runGb {pins : List (Addr × Obj)} {σ : L2.St} {H : Hp} {s : Shared} {Q : VK} {us : List Value} {vs : List V} (F : FnG X.prog X.w X.K X.mg X.base k f fd ps sp) (hr : RoomG k X.A) (hb : Binds X.K fd ps ds) (hd : Vals dvs ds)
    (I : Inv X pins σ H s) (rv : Vals vs us) (h : sp (vs ++ dvs) H Q E) : wpAny (model X.prog X.w) X.A (call (.ref f) us) (EP X pins σ Q) X.xe s :=
  runG (ar := ⟨us, []⟩) F hr I (hb s us I.kIn (by rw [← (rv.append hd).length]; exact F.len _ _ _ _ h)) (rv.append hd) h
theorem runGk {pins : List (Addr × Obj)} {σ : L2.St} {H : Hp} {s : Shared} {Q : VK} {us ws : List Value} {vs zs : List V} (F : FnG X.prog X.w X.K X.mg X.base k f fd ps sp) (hr : RoomG k X.A) (hb : KBn X.K fd ps n ks g gV)
    (I : Inv X pins σ H s) (rv : Vals vs us) (rz : Vals zs ws) (l1 : vs.length = n) (l2 : zs.length = ks.length) (h : sp (gV vs zs) H Q E) : wpAny (model X.prog X.w) X.A (call (.ref f) us (ks.zip ws)) (EP X pins σ Q) X.xe s :=
  runG (ar := ⟨us, ks.zip ws⟩) F hr I (hb.to s us ws I.kIn (rv.length.symm.trans l1) (rz.length.symm.trans l2)) (hb.rel rv rz) h
/-! calls by position -/
theorem pe_callG (F : FnG X.prog X.w X.K X.mg X.base k f fd ps sp) (hr : RoomG k X.A) (hg : Gl X x) (hm : X.mg x = some (.ref f)) (hk : PySem.W.keepIn X.K (.ref f) = true) (hb : Binds X.K fd ps ds) (hd : Vals dvs ds)
    (ha : PA X (e :: es) t) (hdb : (x == ("__debug__" : Str)) = false := by decide) (hst : starEach (e :: es) X.env = (false, eval e X.env) :: starEach es X.env := by rfl) (hpl : (backTo pos (starEach es X.env)).any (·.1) = false := by rfl) :
    PE X (.Call (.Name x p) (e :: es) [] pos) (tCall sp dvs E t) :=
  ⟨fun pins s σ H Q I h => wpAny_Call_Name_kw (ld_glob I hg hm (PySem.W.callWith_K (h₀ := X.base) I.ok.mod.kin hk
    (thn (ha.run pos pins s σ H _ I h) fun us s1 ⟨vs, H1, I1, rv, q⟩ => ⟨I1.kIn, runGb F hr hb hd I1 rv q⟩) hst hpl) hdb)⟩
theorem pe_callG0 (F : FnG X.prog X.w X.K X.mg X.base k f fd ps sp) (hr : RoomG k X.A) (hg : Gl X x) (hm : X.mg x = some (.ref f)) (hk : PySem.W.keepIn X.K (.ref f) = true) (hb : Binds X.K fd ps ds) (hd : Vals dvs ds)
    (hdb : (x == ("__debug__" : Str)) = false := by decide) : PE X (.Call (.Name x p) [] [] pos) (tCall sp dvs E tNil) :=
  ⟨fun pins s σ H Q I h => wpAny_Call_Name_kw (ld_glob I hg hm (PySem.W.callWith_K0 I.kIn hk (runGb (us := []) F hr hb hd I .nil h)) hdb)⟩
theorem pe_methG {pl : Sem Bool} (he : PE X o ta) (c : Cls X.K C) (hm : Meth X.K C m f) (F : FnG X.prog X.w X.K X.mg X.base k f fd ps sp) (hr : RoomG k X.A) (hb : Binds X.K fd ps ds) (hd : Vals dvs ds) (ha : PA X (e :: es) t)
    (hst : starEach (e :: es) X.env = (false, eval e X.env) :: starEach es X.env := by rfl) (hpl : (backTo pos (starEach es X.env)).any (·.1) = false := by rfl)
    (ht : eval (.Call (.Attribute o m apos) (e :: es) [] pos) X.env = (eval o X.env >>= fun ov => standAt apos.atName >>= fun _ => holding [ov] (getMethod ov m pl) >>= fun q =>
      callWith pos q.1 q.2 (backTo pos (starEach (e :: es) X.env)) (backToKw pos (keywordEach [] X.env))) := by rfl) :
    PE X (.Call (.Attribute o m apos) (e :: es) [] pos) (tMeth C m sp dvs E ta t) := by
  refine ⟨fun pins s σ H Q I h => PySem.W.methodCall_KW (pl := pl) (thn (he.run pins s σ H _ I h) fun u s1 ⟨y, H1, I1, ry, a, dx, fs, ex, ea, l, q⟩ => ?_) ht⟩
  subst ex
  have ry : u = Value.ref a := ry
  subst ry
  exact getmeth_ok I1 ea c hm l (PySem.W.callWith_K (first := [.ref a]) (h₀ := X.base) I.ok.mod.kin hm.kp (thn (ha.run pos pins s1 σ H1 _ I1 q)
    fun us s2 ⟨vs, H2, I2, rv, q2⟩ => ⟨I2.kIn, runGb (us := .ref a :: us) (vs := .ref a :: vs) F hr hb hd I2 (.cons rfl rv) q2⟩) hst hpl)
theorem pe_methG0 {pl : Sem Bool} (he : PE X o ta) (c : Cls X.K C) (hm : Meth X.K C m f) (F : FnG X.prog X.w X.K X.mg X.base k f fd ps sp) (hr : RoomG k X.A) (hb : Binds X.K fd ps ds) (hd : Vals dvs ds)
    (ht : eval (.Call (.Attribute o m apos) [] [] pos) X.env = (eval o X.env >>= fun ov => standAt apos.atName >>= fun _ => holding [ov] (getMethod ov m pl) >>= fun q =>
      callWith pos q.1 q.2 (backTo pos (starEach [] X.env)) (backToKw pos (keywordEach [] X.env))) := by rfl) : PE X (.Call (.Attribute o m apos) [] [] pos) (tMeth C m sp dvs E ta tNil) := by
  refine ⟨fun pins s σ H Q I h => PySem.W.methodCall_KW (pl := pl) (thn (he.run pins s σ H _ I h) fun u s1 ⟨y, H1, I1, ry, a, dx, fs, ex, ea, l, q⟩ => ?_) ht⟩
  subst ex
  have ry : u = Value.ref a := ry
  subst ry
  exact getmeth_ok I1 ea c hm l (PySem.W.callWith_K0 (first := [.ref a]) I1.kIn hm.kp (runGb (us := [.ref a]) (vs := [.ref a]) F hr hb hd I1 (.cons rfl .nil) q))
/-! calls by name alone -/
def tMethK (C : Addr) (m : Str) (n : Nat) (sp : Sp) (gV : List V → List V → List V) (E : XK) (ta : TE) (tk : TA) : TE := fun σ H Q => ta σ H fun x H1 => ∃ a dx fs, x = .ref a ∧ H1 a = some (.ins C dx fs) ∧ fs.lookup m = none ∧
  tk σ H1 fun zs H2 => zs.length = n ∧ sp (gV [x] zs) H2 Q E
theorem pe_methGK {pl : Sem Bool} (he : PE X o ta) (c : Cls X.K C) (hm : Meth X.K C m f) (F : FnG X.prog X.w X.K X.mg X.base k f fd ps sp) (hr : RoomG k X.A) (hb : KBn X.K fd ps 1 ks g gV) (hkw : PK X kws tk)
    (hall : (backToKw pos (keywordEach kws X.env)).all (·.1.isSome) = true := by rfl) (hks : (backToKw pos (keywordEach kws X.env)).filterMap (·.1) = ks := by rfl)
    (hpl : ((backTo pos (starEach [] X.env)).any (·.1) || (backToKw pos (keywordEach kws X.env)).any (·.1.isNone)) = false := by rfl)
    (ht : eval (.Call (.Attribute o m apos) [] kws pos) X.env = (eval o X.env >>= fun ov => standAt apos.atName >>= fun _ => holding [ov] (getMethod ov m pl) >>= fun q =>
      callWith pos q.1 q.2 (backTo pos (starEach [] X.env)) (backToKw pos (keywordEach kws X.env))) := by rfl) : PE X (.Call (.Attribute o m apos) [] kws pos) (tMethK C m ks.length sp gV E ta tk) := by
  refine ⟨fun pins s σ H Q I h => PySem.W.methodCall_KW (pl := pl) (thn (he.run pins s σ H _ I h) fun u s1 ⟨y, H1, I1, ry, a, dx, fs, ex, ea, l, q⟩ => ?_) ht⟩
  subst ex
  have ry : u = Value.ref a := ry
  subst ry
  refine getmeth_ok I1 ea c hm l (PySem.W.callWith_KW0 (first := [.ref a]) (h₀ := X.base) I.ok.mod.kin hm.kp hall (thn (hkw.run pos pins s1 σ H1 _ I1 q) fun ws s2 ⟨zs, H2, I2, rz, lz, q2⟩ => ⟨I2.kIn, ?_⟩) hpl)
  rw [hks]
  exact runGk (us := [.ref a]) (vs := [.ref a]) F hr hb I2 (.cons rfl .nil) rz rfl lz q2
def tCallK0 (n : Nat) (sp : Sp) (gV : List V → List V → List V) (E : XK) (tk : TA) : TE := fun σ H Q => tk σ H fun zs H2 => zs.length = n ∧ sp (gV [] zs) H2 Q E
theorem pe_callGK (F : FnG X.prog X.w X.K X.mg X.base k f fd ps sp) (hr : RoomG k X.A) (hg : Gl X x) (hm : X.mg x = some (.ref f)) (hk : PySem.W.keepIn X.K (.ref f) = true) (hb : KBn X.K fd ps 0 ks g gV) (hkw : PK X kws tk)
    (hall : (backToKw pos (keywordEach kws X.env)).all (·.1.isSome) = true := by rfl) (hks : (backToKw pos (keywordEach kws X.env)).filterMap (·.1) = ks := by rfl) (hdb : (x == ("__debug__" : Str)) = false := by decide)
    (hpl : ((backTo pos (starEach [] X.env)).any (·.1) || (backToKw pos (keywordEach kws X.env)).any (·.1.isNone)) = false := by rfl) : PE X (.Call (.Name x p) [] kws pos) (tCallK0 ks.length sp gV E tk) := by
  refine ⟨fun pins s σ H Q I h => wpAny_Call_Name_kw (ld_glob I hg hm (PySem.W.callWith_KW0 (h₀ := X.base) I.ok.mod.kin hk hall (thn (hkw.run pos pins s σ H _ I h) fun ws s2 ⟨zs, H2, I2, rz, lz, q2⟩ => ⟨I2.kIn, ?_⟩) hpl) hdb)⟩
  rw [hks]
  exact runGk (us := []) (vs := []) F hr hb I2 .nil rz rfl lz q2
/-! new objects -/
theorem runMk {pins : List (Addr × Obj)} {σ : L2.St} {H : Hp} {s : Shared} {Q : VK} {us ws zs' : List Value} {kn : List Str} (M : Mk X.K C f) (F : FnG X.prog X.w X.K X.mg X.base k f fd ps sp) (hr : RoomG (k + 1) X.A) (I : Inv X pins σ H s)
    (hb : ∀ s' : Shared, X.K.In s'.heap → BindsTo s' fd ⟨.ref (s.heap.objs.size + 1) :: us, kn.zip ws⟩ (ps.zip (.ref (s.heap.objs.size + 1) :: zs'))) {zv : List V} (rv : Vals zv zs')
    (h : ∀ y dx, H y = none → H dx = none → dx ≠ y → sp (.ref y :: zv) (upd (upd H dx (.own y)) y (.ins C dx [])) (fun v H2 => v = .non ∧ Q (.ref y) H2) E) :
    wpAny (model X.prog X.w) X.A (call (.ref C) us (kn.zip ws)) (EP X pins σ Q) X.xe s := by
  have hq := h (s.heap.objs.size + 1) s.heap.objs.size (I.hok.fresh (Nat.le_succ _)) (I.hok.fresh (Nat.le_refl _)) (Nat.ne_of_lt (Nat.lt_succ_self _))
  have J := Inv.made (C := C) I
  refine wpAny_call (make_map (f := f) I.kIn M.makes M.init (beq_iff_eq.mp M.fn) (codeAny_mono (F.run _ X.stack _ _ _ _ (V.ref (s.heap.objs.size + 1) :: zv) _ E (hr.make C us (kn.zip ws)) (J.env0.make C us (kn.zip ws)) (hb _ J.kIn) (.cons rfl rv) hq) fun r s' z => ?_))
  obtain ⟨u, rfl, v, H', I3, ru, ev, q3⟩ := behind J z
  subst ev
  exact ⟨ru, V.ref (s.heap.objs.size + 1), H', I3, rfl, q3⟩
theorem pe_makeG (M : Mk X.K C f) (F : FnG X.prog X.w X.K X.mg X.base k f fd ps sp) (hr : RoomG (k + 1) X.A) (hg : Gl X x) (hm : X.mg x = some (.ref C)) (hb : Binds X.K fd ps ds) (hd : Vals dvs ds)
    (ha : PA X (e :: es) t) (hdb : (x == ("__debug__" : Str)) = false := by decide) (hst : starEach (e :: es) X.env = (false, eval e X.env) :: starEach es X.env := by rfl) (hpl : (backTo pos (starEach es X.env)).any (·.1) = false := by rfl) :
    PE X (.Call (.Name x p) (e :: es) [] pos) (tMake C sp dvs E t) := by
  refine ⟨fun pins s σ H Q I h => wpAny_Call_Name_kw (ld_glob I hg hm (PySem.W.callWith_K (h₀ := X.base) I.ok.mod.kin M.kp (thn (ha.run pos pins s σ H _ I h) fun us s1 ⟨vs, H1, I1, rv, q⟩ => ⟨I1.kIn, ?_⟩) hst hpl) hdb)⟩
  have q0 := q (s1.heap.objs.size + 1) s1.heap.objs.size (I1.hok.fresh (Nat.le_succ _)) (I1.hok.fresh (Nat.le_refl _)) (Nat.ne_of_lt (Nat.lt_succ_self _))
  have hl := F.len _ _ _ _ q0
  refine runMk (kn := []) (ws := []) M F hr I1 (fun s' kin => hb s' (Value.ref (s1.heap.objs.size + 1) :: us) kin ?_) (rv.append hd) q
  rw [← hl, List.cons_append, List.length_cons, List.length_cons, (rv.append hd).length]
def tMakeK0 (C : Addr) (n : Nat) (sp : Sp) (gV : List V → List V → List V) (E : XK) (tk : TA) : TE := fun σ H Q => tk σ H fun zs H1 => zs.length = n ∧ ∀ y dx, H1 y = none → H1 dx = none → dx ≠ y →
  sp (gV [.ref y] zs) (upd (upd H1 dx (.own y)) y (.ins C dx [])) (fun v H2 => v = .non ∧ Q (.ref y) H2) E
end
/-! ## the body of a def -/
section
variable {P : Program} {w : World} {K : PySem.W.Frag} {mg : Str → Option Value} {base : Heap}
theorem fnG_of {k : Nat} {f : Addr} {nm qual : Str} {prm : Arguments} {body : List Stmt} {scope : Scope} {dV kV doc pm cdv ct oc : Value} {an od : Option Addr} {osl : Array (Option Value)} {N ps : List Str} {sp : Sp}
    (lk : K.lookup f = some ⟨oc, od, .func (PySem.W.fnOf nm qual prm body scope dV kV doc pm an cdv ct), osl⟩) (hcd : PySem.W.codeIn K cdv qual = true) (S : FnScope N ps scope) (len : ∀ vs H Q E, sp vs H Q E → vs.length = ps.length)
    (hbody : ∀ (A : Around) (outer : List Env) (s : Shared) (H : Hp) (vs : List V) (Q : VK) (E : XK), RoomG k (A.deeper (envOfC qual scope s.heap.objs.size f cdv)) → sp vs H Q E →
      ∃ t, PSs (cxOf CX0 P w K mg base N qual scope f cdv A outer s H E).nox body t ∧ t { nx := fun _ H' => Q .non H', rt := Q } (start N vs) H) : FnG P w K mg base (k + 1) f (PySem.W.fnOf nm qual prm body scope dV kV doc pm an cdv ct) ps sp := by
  refine ⟨len, fun A outer s H ar us vs Q E hr e0 hb rv hsp => ?_⟩
  have old := fun b o e => (e0.bs b o e).1
  have kin : K.In s.heap := e0.mod.kin.keeps old
  refine codeAny_call_function hr.room.depth (kin _ _ lk) rfl S.co S.gen rfl (PySem.W.codeRec_of kin hcd) (hb _ _ _ _ (wpAny_newFunctionEnv_cells S.kind (fun y hy => ?_) fun env he s1 nw => ?_))
  · rcases S.par y.1 (List.of_mem_zip (b := y.2) hy).1 with q | q
    · exact .inl q
    · exact .inr ⟨q, PySem.W.cellsFrom_some _ _ _ (.inl q)⟩
  · subst he
    refine ⟨(e0.mod.nolimit.keeps old).keeps nw.toInCall.keep, codeAny_func ?_⟩
    obtain ⟨t, ht, hq⟩ := hbody A outer s H vs Q E (hr.deeper _) hsp
    refine wpAny_mono (ht.nox.run [] s1 (start N vs) H _ (inv_start S hr.room.hd e0 (len _ _ _ _ hsp) rv nw) hq) (fun fl s' z => ?_) fun _ _ z => z
    cases fl with
    | ret u => obtain ⟨v, _, G, J, ru, q⟩ := z; exact ⟨v, G, J.os, J.bare, J.base, J.hok, ru, q⟩
    | next => obtain ⟨_, G, J, q⟩ := z; exact ⟨.non, G, J.os, J.bare, J.base, J.hok, rfl, q⟩
    | brk => obtain ⟨_, _, _, q⟩ := z; exact q.elim
    | cont => obtain ⟨_, _, _, q⟩ := z; exact q.elim
theorem funG {x qual : Str} {st : Stmt} {f : Addr} {fd : FuncData} {N ps : List Str} {k : Nat} {sp : Sp} (F : Fun K x qual st f fd) (S : FnScope N ps (defScope st)) (len : ∀ vs H Q E, sp vs H Q E → vs.length = ps.length)
    (hbody : ∀ (cdv : Value) (A : Around) (outer : List Env) (s : Shared) (H : Hp) (vs : List V) (Q : VK) (E : XK), RoomG k (A.deeper (envOfC qual (defScope st) s.heap.objs.size f cdv)) → sp vs H Q E →
      ∃ t, PSs (cxOf CX0 P w K mg base N qual (defScope st) f cdv A outer s H E).nox (defBody st) t ∧ t { nx := fun _ H' => Q .non H', rt := Q } (start N vs) H) : FnG P w K mg base (k + 1) f fd ps sp := by
  obtain ⟨oc, od, kV, doc, pm, an, cdv, ct, osl, rfl, lk, hcd⟩ := F.ex
  exact fnG_of lk hcd S len (hbody cdv)
theorem funDG {x qual : Str} {prm : Arguments} {body : List Stmt} {scope : Scope} {dvs : List V} {kws : List (Str × V)} {f : Addr} {fd : FuncData} {N ps : List Str} {k : Nat} {sp : Sp} (F : FunD K x qual prm body scope dvs kws f fd) (S : FnScope N ps scope)
    (len : ∀ vs H Q E, sp vs H Q E → vs.length = ps.length)
    (hbody : ∀ (cdv : Value) (A : Around) (outer : List Env) (s : Shared) (H : Hp) (vs : List V) (Q : VK) (E : XK), RoomG k (A.deeper (envOfC qual scope s.heap.objs.size f cdv)) → sp vs H Q E →
      ∃ t, PSs (cxOf CX0 P w K mg base N qual scope f cdv A outer s H E).nox body t ∧ t { nx := fun _ H' => Q .non H', rt := Q } (start N vs) H) : FnG P w K mg base (k + 1) f fd ps sp := by
  obtain ⟨oc, od, dV, kV, doc, pm, an, cdv, ct, osl, rfl, lk, hcd, _, _⟩ := F.ex
  exact fnG_of lk hcd S len (hbody cdv)
end
/-! ## the law's end -/
section
variable {P : Program} {w : World} {K : PySem.W.Frag} {mg mb : Str → Option Value} {k : Nat} {fa a : Addr} {fd : FuncData} {x : Str} {sp : Sp} {s : Shared} {vs : List Value} {ns : List Int}
/-- from a tracked heap that holds the script at most -/
theorem lawG_core {G : Hp} (kin : K.In s.heap) (nsg : s.heap.Ns mainGlobals mg) (nsb : s.heap.Ns builtinsNs mb) (boot : ∀ y : Str, y ≠ "__name__" → mb y = bootBuiltins y) (lim : s.heap.NoLimit) (gn : s.gens = #[])
    (ha : s.heap.get? a = some { cls := .type "list", data := .seq vs.toArray }) (hr : Room k callerA) (F : ∀ base : Heap, K.In base → base.Ns mainGlobals mg → FnG P w K mg base k fa fd [x] sp) (bind : ∀ (z : Shared) (u : Value), BindsTo z fd ⟨[u], []⟩ [(x, u)])
    (only : Only G) (hok : HOk P w G s.heap) (at_ : ∀ b, G b ≠ none → b = a) (nk : G a ≠ none → K.lookup a = none) (hsp : sp [.ref a] G (fun v _ => v = .bl true) fun _ _ _ => False) :
    codeAny (model P w) callerA (.call (.ref fa) ⟨[.ref a], []⟩) (fun r z => r = .ok (.ret (.bool true)) ∧ OldK s.heap z.heap ∧ z.os = s.os ∧ AllBare z.gens) s := by
  have hid : ∀ {b : Addr} {o : Obj}, s.heap.get? b = some o → (b = a → False) → (hidT s.heap G).get? b = some o := fun {b o} e ne => hidT_get e (by
    cases q : G b with
    | none => rfl
    | some _ => exact (ne (at_ b (by rw [q]; simp))).elim)
  have nsd : ∀ {b : Addr} {m : Str → Option Value}, s.heap.Ns b m → (hidT s.heap G).Ns b m := fun {b m} ⟨o, es, ep, e, d, r⟩ => ⟨o, es, ep, hid e (fun q => by
    subst q
    rw [ha] at e
    cases e
    cases d), d, r⟩
  have kb : K.In (hidT s.heap G) := fun b o e => hidT_get (kin b o e) (by
    cases q : G b with
    | none => rfl
    | some _ =>
      have q1 := at_ b (by rw [q]; simp)
      subst q1
      rw [nk (by rw [q]; simp)] at e
      cases e)
  obtain ⟨mc, l1, l2⟩ := lim
  have none0 : ∀ b : Addr, b ∈ frs [] → False := fun b h => by cases h
  refine codeAny_mono ((F _ kb (nsd nsg)).run callerA [] s G ⟨[.ref a], []⟩ [.ref a] [.ref a] _ _ ⟨hr, rfl⟩ ⟨rfl, ⟨kb, nsd nsg, ⟨mb, nsd nsb, boot⟩, ⟨mc, nsd l1, l2⟩⟩, fun b o e => of_hidT e, Nat.le_of_eq (hidT_size _ _), trivial, fun b h => (none0 b h).elim, hok, .of_eq gn⟩
    (bind s (.ref a)) (.cons rfl .nil) hsp) fun r z h => ?_
  cases r with
  | error er => exact False.elim h
  | ok fl =>
    cases fl <;> first | exact False.elim h | skip
    rename_i u
    obtain ⟨v, G', os, bare, un, hok', ru, q⟩ := h
    have q : v = .bl true := q
    subst q
    have ru : u = Value.bool true := ru
    subst ru
    refine ⟨rfl, OldK.of_keep fun b o e => ?_, os, bare⟩
    cases q : G b with
    | none => exact un.keep b o e q (none0 b) (fun h => by cases h)
    | some c =>
      rcases only b with y | ⟨ob, xs, y⟩
      · rw [q] at y
        cases y
      · have e1 := (hok b _ y).1
        rw [e] at e1
        cases e1
        exact (hok' b _ (un.frzs b _ _ y)).1
theorem lawG (kin : K.In s.heap) (nsg : s.heap.Ns mainGlobals mg) (nsb : s.heap.Ns builtinsNs mb) (boot : ∀ y : Str, y ≠ "__name__" → mb y = bootBuiltins y) (lim : s.heap.NoLimit) (gn : s.gens = #[])
    (ha : s.heap.get? a = some { cls := .type "list", data := .seq vs.toArray }) (hi : IntsAre vs ns) (hl : ns.length ≤ sizeLine) (hr : Room k callerA) (F : ∀ base : Heap, K.In base → base.Ns mainGlobals mg → FnG P w K mg base k fa fd [x] sp)
    (bind : ∀ (z : Shared) (u : Value), BindsTo z fd ⟨[u], []⟩ [(x, u)]) (hsp : ∀ G : Hp, SqL K G a (ns.map V.int) → sp [.ref a] G (fun v _ => v = .bl true) fun _ _ _ => False) :
    codeAny (model P w) callerA (.call (.ref fa) ⟨[.ref a], []⟩) (fun r z => r = .ok (.ret (.bool true)) ∧ OldK s.heap z.heap ∧ z.os = s.os ∧ AllBare z.gens) s := by
  cases hk : K.lookup a with
  | some o =>
    have e := kin a o hk
    rw [ha] at e
    cases e
    exact lawG_core (G := fun _ => none) kin nsg nsb boot lim gn ha hr F bind (fun _ => .inl rfl) (fun _ _ y => by cases y) (fun _ y => absurd rfl y) (fun y => absurd rfl y)
      (hsp _ (.inr ⟨_, vs.toArray, _, hk, rfl, rfl, rfl, by rw [List.size_toArray, hi.length]; exact hl, by simpa using vals_ints hi⟩))
  | none =>
    have at_ : ∀ b, (fun b => if b = a then some (HO.frz { cls := .type "list", data := .seq vs.toArray } (.lst (ns.map V.int))) else none) b ≠ none → b = a := fun b y => Decidable.byContradiction fun ne => y (if_neg ne)
    refine lawG_core (G := fun b => if b = a then some (.frz { cls := .type "list", data := .seq vs.toArray } (.lst (ns.map V.int))) else none) kin nsg nsb boot lim gn ha hr F bind (fun b => ?_) (fun b u y => ?_) at_ (fun _ => hk) (hsp _ (.inl (.inr ⟨_, if_pos rfl⟩)))
    · by_cases hb : b = a
      · exact .inr ⟨_, _, if_pos hb⟩
      · exact .inl (if_neg hb)
    · have hb : b = a := at_ b (by rw [y]; simp)
      subst hb
      have y2 := (if_pos rfl).symm.trans y
      cases y2
      exact ⟨ha, by rw [List.length_map]; exact hl, vs, _, vals_ints hi, ha⟩
end
theorem walkG {l : PySem.W.OpenLaw} {n k : Nat} {q : Program} {loose : List Str} {XP : (Str → Option Value) → Heap → Prop} {YP : World → Heap → Prop} {d : DefRec} {K : Params → PySem.W.Frag} {sp : PySem.W.Frag → Sp} {x : Str}
    (hn : l.most = some n) (hn2 : n ≤ sizeLine) (hdf : d.params.defaults = []) (hr : Room k callerA) (hY : ∀ (w : World) (h : Heap), YP w h → (K w.params).In h)
    (F : ∀ (w : World) (mg : Str → Option Value) (fa : Addr) (h : Heap), (K w.params).In h → h.Ns mainGlobals mg → mg d.name = some (.ref fa) →
      ∃ fd : FuncData, (∀ (z : Shared) (u : Value), BindsTo z fd ⟨[u], []⟩ [(x, u)]) ∧ ∀ base : Heap, (K w.params).In base → base.Ns mainGlobals mg → FnG l.prog w (K w.params) mg base k fa fd [x] (sp (K w.params)))
    (hsp : ∀ (K : PySem.W.Frag) (G : Hp) (a : Addr) (ns : List Int), ns.length ≤ n → SqL K G a (ns.map V.int) → sp K [.ref a] G (fun v _ => v = .bl true) fun _ _ _ => False) :
    PySem.W.WalkO q loose XP YP l.row.toRowW d [] (fun f vs => PySem.call f vs) := by
  refine Att.attach_call hn hdf fun w s₀ s₁ mg mb fa o pm cd doc a vs ns G Y ho hd hcd hmg hobj hints hlen hg => ?_
  obtain ⟨fd, hb, hF⟩ := F w mg fa _ (hY w _ Y) G.T.g hmg
  exact lawG (hY w _ Y) G.T.g G.T.b G.T.builtins G.T.nolimit hg hobj hints (Nat.le_trans hlen hn2) hr hF hb fun H hS => hsp _ H a ns hlen hS
end DL

namespace DL
open PySem L2

/-! # The data layer: plain data over the hand layer's heap -/
inductive D where
  | non
  | bl (b : Bool)
  | int (i : Int)
  | str (x : Str)
  | tup (ds : List D)
  | lst (ds : List D)
  | dct (ks : List Key) (ds : List D)
  | scr (ns : List Int)
  | ref (i : Nat)
  | obj (c : Str) (fs : List Str) (ds : List D)
  | exc (c : Str) (fs : List Str) (ds : List D)

inductive Cell where
  | lst (ds : List D)
  | dct (kvs : List (Key × D))
  | ins (c : Str) (fs : List Str) (ds : List D)
  | tab (q : Str)

abbrev Sto := List Cell
abbrev DEnv := List (Option D)
abbrev FE := DEnv → Sto → Option (D × Sto)
abbrev FA := DEnv → Sto → Option (List D × Sto)
abbrev FT := DEnv → Sto → Option (Bool × Sto)
abbrev FD := List D → Sto → Option (D × Sto)
inductive Fl where
  | nx (env : DEnv)
  | rt (d : D)
  | bk (env : DEnv)
  | ct (env : DEnv)
abbrev FS := DEnv → Sto → Option (Fl × Sto)

abbrev CT := Str → Option Addr

/-- at a: an error of the class at C that stands as it is, its dict at dx, if it has one -/
def exk (a C : Addr) (dx : Option Addr) : HO := .ext fun h => ∃ o vs, h.get? a = some o ∧ o.cls = .ref C ∧ o.dict = dx ∧ o.data = .fields vs

section
variable (K : PySem.W.Frag) (ct : CT)
mutual
def Rep (m : List Addr) (F : Hp) : D → V → Prop
  | .non, v => v = .non
  | .bl b, v => v = .bl b
  | .int i, v => v = .int i
  | .str x, v => v = .str x
  | .tup ds, v => ∃ a vs, v = .ref a ∧ SqT K F a vs ∧ Reps m F ds vs
  | .lst ds, v => ∃ a vs, v = .ref a ∧ F a = some (.lst vs) ∧ Reps m F ds vs
  | .dct ks ds, v => ∃ a vs, v = .ref a ∧ F a = some (.dK (ks.zip vs)) ∧ ks.length = vs.length ∧ Reps m F ds vs
  | .scr ns, v => ∃ a, v = .ref a ∧ SqL K F a (ns.map V.int)
  | .ref i, v => ∃ a, m[i]? = some a ∧ v = .ref a
  | .obj c fs ds, v => ∃ a C dx vs, v = .ref a ∧ ct c = some C ∧ F a = some (.ins C dx (fs.zip vs)) ∧ fs.length = vs.length ∧ Reps m F ds vs
  | .exc c fs ds, v => ∃ a C dx vs, v = .ref a ∧ ct c = some C ∧ F a = some (exk a C dx) ∧ ((dx = none ∧ fs = []) ∨ ∃ d, dx = some d ∧ F d = some (.xd (fs.zip vs))) ∧ fs.length = vs.length ∧ Reps m F ds vs
def Reps (m : List Addr) (F : Hp) : List D → List V → Prop
  | [], vs => vs = []
  | d :: ds, vs => ∃ v r, vs = v :: r ∧ Rep m F d v ∧ Reps m F ds r
end
def CellR (m : List Addr) (F : Hp) (o : Option HO) : Cell → Prop
  | .lst ds => ∃ vs, o = some (.lst vs) ∧ Reps K ct m F ds vs
  | .dct kvs => ∃ us, o = some (.dK us) ∧ Paired (fun (p : Key × D) (q : Key × V) => p.1 = q.1 ∧ Rep K ct m F p.2 q.2) kvs us
  | .ins c fs ds => ∃ C dx vs, o = some (.ins C dx (fs.zip vs)) ∧ ct c = some C ∧ fs.length = vs.length ∧ Reps K ct m F ds vs
  | .tab q => ∃ ps : Array Value, o = some (.tbl ps) ∧ TriplesOk ps.toList ∧ ∀ (pos : Pos) (cv : Value), codeAmong pos ps.toList = some cv → ∃ c, cv = .ref c ∧ F c = some (LamX.CodeO c q)
def isTab : Cell → Option Str
  | .tab q => some q
  | _ => none
structure Sim (m : List Addr) (F : Hp) (S : Sto) (H : Hp) : Prop where
  same : Same F H
  len : m.length = S.length
  nd : m.Nodup
  off : ∀ a ∈ m, F a = none
  cell : ∀ (i : Nat) (a : Addr) (c : Cell), m[i]? = some a → S[i]? = some c → CellR K ct m F (H a) c
  tab : ∀ (i : Nat) (a : Addr) (c : Cell) (q : Str), m[i]? = some a → S[i]? = some c → isTab c = some q → ct q = some a
def EnvR (m : List Addr) (F : Hp) (env : DEnv) (σ : St) : Prop :=
  env.length = σ.length ∧ ∀ (i : Nat) (d : D), env[i]? = some (some d) → ∃ v, σ[i]? = some (some v) ∧ Rep K ct m F d v
end
/-- what an evaluation may do to the heap -/
structure Ext (m : List Addr) (F H : Hp) (m' : List Addr) (F' H' : Hp) : Prop where
  pre : ∀ (i : Nat) (a : Addr), m[i]? = some a → m'[i]? = some a
  same : Same F F'
  keep : ∀ b o, H b = some o → b ∉ m → H' b = some o
  new : ∀ a ∈ m', a ∈ m ∨ H a = none
  fnew : ∀ b o, F' b = some o → F b = some o ∨ H b = none
  grow : ∀ b o, H b = some o → ∃ o', H' b = some o'

theorem nodup_inj {α : Type} {a : α} : ∀ {l : List α} {i j : Nat}, l.Nodup → l[i]? = some a → l[j]? = some a → i = j
  | [], _, _, _, h, _ => by simp at h
  | x :: l, 0, 0, _, _, _ => rfl
  | x :: l, 0, j + 1, n, h, q => by
    simp at h q
    exact absurd (List.mem_iff_getElem?.mpr ⟨j, q⟩) (h ▸ (List.nodup_cons.mp n).1)
  | x :: l, i + 1, 0, n, h, q => by
    simp at h q
    exact absurd (List.mem_iff_getElem?.mpr ⟨i, h⟩) (q ▸ (List.nodup_cons.mp n).1)
  | x :: l, i + 1, j + 1, n, h, q => by
    have := nodup_inj (i := i) (j := j) (List.nodup_cons.mp n).2 (by simpa using h) (by simpa using q)
    omega
theorem Ext.refl (m : List Addr) (F H : Hp) : Ext m F H m F H := ⟨fun _ _ h => h, Same.refl _, fun _ _ h _ => h, fun _ h => .inl h, fun _ _ h => .inl h, fun _ o h => ⟨o, h⟩⟩
theorem Ext.mem {m m' : List Addr} {F H F' H' : Hp} (e : Ext m F H m' F' H') {a : Addr} (h : a ∈ m) : a ∈ m' := by
  obtain ⟨i, hi⟩ := List.mem_iff_getElem?.mp h
  exact List.mem_iff_getElem?.mpr ⟨i, e.pre i a hi⟩
theorem Ext.trans {m m1 m2 : List Addr} {F F1 F2 H H1 H2 : Hp} (a : Ext m F H m1 F1 H1) (b : Ext m1 F1 H1 m2 F2 H2) : Ext m F H m2 F2 H2 where
  pre := fun i x h => b.pre i x (a.pre i x h)
  same := a.same.trans b.same
  keep := fun c o h n => b.keep c o (a.keep c o h n) fun hm => by
    rcases a.new c hm with q | q
    · exact n q
    · rw [h] at q; cases q
  new := fun x hx => by
    rcases b.new x hx with q | q
    · exact a.new x q
    · cases e : H x with
      | none => exact .inr rfl
      | some o =>
        obtain ⟨o', h⟩ := a.grow x o e
        rw [h] at q; cases q
  fnew := fun x o hx => by
    rcases b.fnew x o hx with q | q
    · exact a.fnew x o q
    · cases e : H x with
      | none => exact .inr rfl
      | some o =>
        obtain ⟨o', h⟩ := a.grow x o e
        rw [h] at q; cases q
  grow := fun x o h => by
    obtain ⟨o1, h1⟩ := a.grow x o h
    exact b.grow x o1 h1

section
variable {K : PySem.W.Frag} {ct : CT}
theorem sqT_mono {F F' : Hp} {a : Addr} {vs : List V} (e : Same F F') (h : SqT K F a vs) : SqT K F' a vs := by
  rcases h with (h | ⟨o, h⟩) | h
  · exact .inl (.inl (e _ _ h))
  · exact .inl (.inr ⟨o, e _ _ h⟩)
  · exact .inr h
mutual
theorem Rep.mono' {m m' : List Addr} {F F' : Hp} (hp : ∀ (i : Nat) (a : Addr), m[i]? = some a → m'[i]? = some a) (e : Same F F') : ∀ (d : D) (v : V), Rep K ct m F d v → Rep K ct m' F' d v
  | .non, _, h => h
  | .bl _, _, h => h
  | .int _, _, h => h
  | .str _, _, h => h
  | .tup ds, _, h => by
    obtain ⟨a, vs, e1, e2, e3⟩ := h
    exact ⟨a, vs, e1, sqT_mono e e2, Reps.mono' hp e ds vs e3⟩
  | .lst ds, _, h => by
    obtain ⟨a, vs, e1, e2, e3⟩ := h
    exact ⟨a, vs, e1, e _ _ e2, Reps.mono' hp e ds vs e3⟩
  | .dct ks ds, _, h => by
    obtain ⟨a, vs, e1, e2, e4, e3⟩ := h
    exact ⟨a, vs, e1, e _ _ e2, e4, Reps.mono' hp e ds vs e3⟩
  | .scr _, _, h => by
    obtain ⟨a, e1, e2⟩ := h
    exact ⟨a, e1, e.seq e2⟩
  | .ref i, _, h => by
    obtain ⟨a, e1, e2⟩ := h
    exact ⟨a, hp i a e1, e2⟩
  | .obj c fs ds, _, h => by
    obtain ⟨a, C, dx, vs, e1, e2, e4, e5, e3⟩ := h
    exact ⟨a, C, dx, vs, e1, e2, e _ _ e4, e5, Reps.mono' hp e ds vs e3⟩
  | .exc c fs ds, _, h => by
    obtain ⟨a, C, dx, vs, e1, e2, e4, e6, e5, e3⟩ := h
    exact ⟨a, C, dx, vs, e1, e2, e _ _ e4, e6.imp id fun ⟨d, q1, q2⟩ => ⟨d, q1, e _ _ q2⟩, e5, Reps.mono' hp e ds vs e3⟩
theorem Reps.mono' {m m' : List Addr} {F F' : Hp} (hp : ∀ (i : Nat) (a : Addr), m[i]? = some a → m'[i]? = some a) (e : Same F F') : ∀ (ds : List D) (vs : List V), Reps K ct m F ds vs → Reps K ct m' F' ds vs
  | [], _, h => h
  | d :: ds, _, h => by
    obtain ⟨v, r, e1, e2, e3⟩ := h
    exact ⟨v, r, e1, Rep.mono' hp e d v e2, Reps.mono' hp e ds r e3⟩
end
variable {m m' : List Addr} {F F' H H' : Hp} {S S' : Sto} {env : DEnv} {σ : St} {d : D} {v : V} {ds : List D} {vs : List V}
theorem Rep.mono (h : Rep K ct m F d v) (e : Ext m F H m' F' H') : Rep K ct m' F' d v := Rep.mono' e.pre e.same d v h
theorem Reps.mono (h : Reps K ct m F ds vs) (e : Ext m F H m' F' H') : Reps K ct m' F' ds vs := Reps.mono' e.pre e.same ds vs h
theorem EnvR.mono (h : EnvR K ct m F env σ) (e : Ext m F H m' F' H') : EnvR K ct m' F' env σ :=
  ⟨h.1, fun i d q => let ⟨v, h1, h2⟩ := h.2 i d q; ⟨v, h1, h2.mono e⟩⟩
theorem CellR.mono {o : Option HO} {c : Cell} (h : CellR K ct m F o c) (e : Ext m F H m' F' H') : CellR K ct m' F' o c := by
  cases c with
  | lst ds => obtain ⟨vs, e1, e2⟩ := h; exact ⟨vs, e1, e2.mono e⟩
  | dct kvs => obtain ⟨vs, e1, e2⟩ := h; exact ⟨vs, e1, Paired.mapP e2 fun p q z => ⟨z.1, z.2.mono e⟩⟩
  | ins c fs ds => obtain ⟨C, dx, vs, e1, e4, e3, e2⟩ := h; exact ⟨C, dx, vs, e1, e4, e3, e2.mono e⟩
  | tab q => obtain ⟨ps, e1, e2, e3⟩ := h; exact ⟨ps, e1, e2, fun pos cv hc => let ⟨c, z1, z2⟩ := e3 pos cv hc; ⟨c, z1, e.same _ _ z2⟩⟩
theorem CellR.isSome {o : Option HO} {c : Cell} (h : CellR K ct m F o c) : ∃ u, o = some u := by
  cases c with
  | lst ds => obtain ⟨vs, e1, _⟩ := h; exact ⟨_, e1⟩
  | dct kvs => obtain ⟨vs, e1, _⟩ := h; exact ⟨_, e1⟩
  | ins c fs ds => obtain ⟨C, dx, vs, e1, _⟩ := h; exact ⟨_, e1⟩
  | tab q => obtain ⟨ps, e1, _⟩ := h; exact ⟨_, e1⟩
theorem Sim.at (s : Sim K ct m F S H) {i : Nat} {a : Addr} (h : m[i]? = some a) : ∃ c, S[i]? = some c ∧ CellR K ct m F (H a) c := by
  have hi : i < S.length := by
    rw [← s.len]
    exact (List.getElem?_eq_some_iff.mp h).1
  exact ⟨S[i], List.getElem?_eq_getElem hi, s.cell i a S[i] h (List.getElem?_eq_getElem hi)⟩
theorem Sim.there (s : Sim K ct m F S H) {a : Addr} (h : a ∈ m) : ∃ o, H a = some o := by
  obtain ⟨i, hi⟩ := List.mem_iff_getElem?.mp h
  obtain ⟨c, _, hc⟩ := s.at hi
  exact hc.isSome
/-- a new frozen object -/
theorem Sim.frozen (s : Sim K ct m F S H) {p : Addr} (hp : H p = none) (o : HO) : Sim K ct m (upd F p o) S (upd H p o) ∧ Ext m F H m (upd F p o) (upd H p o) := by
  have nm : p ∉ m := fun h => by
    obtain ⟨o, q⟩ := s.there h
    rw [hp] at q; cases q
  have x : Ext m F H m (upd F p o) (upd H p o) := by
    refine ⟨fun _ _ h => h, fun b u h => ?_, fun b u h _ => ?_, fun a h => .inl h, fun b u h => ?_, fun b u h => ?_⟩
    · rw [upd_ne (ne_of_none (s.same _ _ h) hp)]; exact h
    · rw [upd_ne (ne_of_none h hp)]; exact h
    · by_cases hb : b = p
      · rw [hb]; exact .inr hp
      · rw [upd_ne hb] at h; exact .inl h
    · exact ⟨u, by rw [upd_ne (ne_of_none h hp)]; exact h⟩
  refine ⟨⟨fun b u h => ?_, s.len, s.nd, fun a h => ?_, fun i a c h1 h2 => ?_, s.tab⟩, x⟩
  · by_cases hb : b = p
    · rw [hb, upd_same] at h; rw [hb, upd_same]; exact h
    · rw [upd_ne hb] at h; rw [upd_ne hb]; exact s.same _ _ h
  · have na : a ≠ p := fun e => nm (e ▸ h)
    rw [upd_ne na]; exact s.off a h
  · have hm : a ∈ m := List.mem_iff_getElem?.mpr ⟨i, h1⟩
    have na : a ≠ p := fun e => nm (e ▸ hm)
    rw [upd_ne na]
    exact (s.cell i a c h1 h2).mono x
/-- a new cell -/
theorem Sim.fresh (s : Sim K ct m F S H) {p : Addr} (hp : H p = none) {o : HO} {c : Cell} (hc : CellR K ct m F (some o) c) (nt : isTab c = none := by rfl) : Sim K ct (m ++ [p]) F (S ++ [c]) (upd H p o) ∧ Ext m F H (m ++ [p]) F (upd H p o) := by
  have nm : p ∉ m := fun h => by
    obtain ⟨o, q⟩ := s.there h
    rw [hp] at q; cases q
  have x : Ext m F H (m ++ [p]) F (upd H p o) := by
    refine ⟨fun i a h => ?_, Same.refl _, fun b u h _ => ?_, fun a h => ?_, fun b u h => .inl h, fun b u h => ?_⟩
    · rw [List.getElem?_append_left (List.getElem?_eq_some_iff.mp h).1]; exact h
    · rw [upd_ne (ne_of_none h hp)]; exact h
    · rcases List.mem_append.mp h with q | q
      · exact .inl q
      · rw [List.mem_singleton.mp q]; exact .inr hp
    · exact ⟨u, by rw [upd_ne (ne_of_none h hp)]; exact h⟩
  refine ⟨⟨fun b u h => ?_, by simp [s.len], ?_, fun a h => ?_, fun i a c' h1 h2 => ?_, fun i a c' q h1 h2 h3 => ?_⟩, x⟩
  · rw [upd_ne (ne_of_none (s.same _ _ h) hp)]; exact s.same _ _ h
  · rw [List.nodup_append]
    exact ⟨s.nd, by simp, fun a ha b hb e => nm (by rw [List.mem_singleton.mp hb] at e; exact e ▸ ha)⟩
  · rcases List.mem_append.mp h with q | q
    · exact s.off a q
    · rw [List.mem_singleton.mp q]
      cases e : F p with
      | none => rfl
      | some o => rw [s.same _ _ e] at hp; cases hp
  · by_cases hi : i < m.length
    · rw [List.getElem?_append_left hi] at h1
      rw [List.getElem?_append_left (s.len ▸ hi)] at h2
      have hm : a ∈ m := List.mem_iff_getElem?.mpr ⟨i, h1⟩
      have na : a ≠ p := fun e => nm (e ▸ hm)
      rw [upd_ne na]
      exact (s.cell i a c' h1 h2).mono x
    · rw [List.getElem?_append_right (by omega)] at h1
      rw [List.getElem?_append_right (by have := s.len; omega)] at h2
      have e0 : i - m.length = 0 := by
        have := (List.getElem?_eq_some_iff.mp h1).1
        simp at this; omega
      rw [e0] at h1
      rw [← s.len, e0] at h2
      simp at h1 h2
      subst h1 h2
      rw [upd_same]
      exact hc.mono x
  · by_cases hi : i < m.length
    · rw [List.getElem?_append_left hi] at h1
      rw [List.getElem?_append_left (s.len ▸ hi)] at h2
      exact s.tab i a c' q h1 h2 h3
    · rw [List.getElem?_append_right (by have := s.len; omega)] at h2
      have := List.mem_of_getElem? h2
      rw [List.mem_singleton.mp this, nt] at h3
      cases h3
/-- a cell is changed -/
theorem Sim.change (s : Sim K ct m F S H) {i : Nat} {p : Addr} (hi : m[i]? = some p) {o : HO} {c : Cell} (hc : CellR K ct m F (some o) c) (nt : ∀ q, isTab c = some q → ct q = some p := by (intro q h; cases h)) : Sim K ct m F (S.set i c) (upd H p o) ∧ Ext m F H m F (upd H p o) := by
  have hm : p ∈ m := List.mem_iff_getElem?.mpr ⟨i, hi⟩
  have x : Ext m F H m F (upd H p o) := by
    refine ⟨fun _ _ h => h, Same.refl _, fun b u h n => ?_, fun a h => .inl h, fun _ _ h => .inl h, fun b u h => ?_⟩
    · have nb : b ≠ p := fun e => n (e ▸ hm)
      rw [upd_ne nb]; exact h
    · by_cases hb : b = p
      · rw [hb, upd_same]; exact ⟨o, rfl⟩
      · rw [upd_ne hb]; exact ⟨u, h⟩
  refine ⟨⟨fun b u h => ?_, by simp [s.len], s.nd, s.off, fun j a c' h1 h2 => ?_, fun j a c' q h1 h2 h3 => ?_⟩, x⟩
  · have nb : b ≠ p := fun e => by
      subst e
      rw [s.off b hm] at h; cases h
    rw [upd_ne nb]; exact s.same _ _ h
  · have hil : i < m.length := (List.getElem?_eq_some_iff.mp hi).1
    by_cases hj : j = i
    · subst hj
      rw [hi] at h1
      cases h1
      rw [List.getElem?_set_self (s.len ▸ hil)] at h2
      cases h2
      rw [upd_same]
      exact hc
    · rw [List.getElem?_set_ne (fun e => hj e.symm)] at h2
      have na : a ≠ p := fun e => by
        subst e
        have hjl : j < m.length := (List.getElem?_eq_some_iff.mp h1).1
        exact hj (nodup_inj s.nd h1 hi)
      rw [upd_ne na]
      exact s.cell j a c' h1 h2
  · have hil : i < m.length := (List.getElem?_eq_some_iff.mp hi).1
    by_cases hj : j = i
    · subst hj
      rw [hi] at h1
      cases h1
      rw [List.getElem?_set_self (s.len ▸ hil)] at h2
      cases h2
      exact nt q h3
    · rw [List.getElem?_set_ne (fun e => hj e.symm)] at h2
      exact s.tab j a c' q h1 h2 h3
theorem Reps.length : ∀ {ds : List D} {vs : List V}, Reps K ct m F ds vs → ds.length = vs.length
  | [], _, h => by have h : _ = _ := h; subst h; rfl
  | d :: ds, _, h => by
    obtain ⟨v, r, e1, _, e3⟩ := h
    subst e1
    simp [Reps.length e3]
theorem Reps.get : ∀ {ds : List D} {vs : List V} {i : Nat} {d : D}, Reps K ct m F ds vs → ds[i]? = some d → ∃ v, vs[i]? = some v ∧ Rep K ct m F d v
  | [], _, _, _, _, h => by simp at h
  | d :: ds, _, 0, _, hr, h => by
    obtain ⟨v, r, e1, e2, _⟩ := hr
    subst e1
    simp at h
    subst h
    exact ⟨v, rfl, e2⟩
  | d :: ds, _, i + 1, _, hr, h => by
    obtain ⟨v, r, e1, _, e3⟩ := hr
    subst e1
    exact Reps.get (i := i) e3 (by simpa using h)
theorem Reps.getV {i : Nat} (h : Reps K ct m F ds vs) (e : vs[i]? = some v) : ∃ d, ds[i]? = some d ∧ Rep K ct m F d v := by
  have hi : i < ds.length := by
    rw [h.length]
    exact (List.getElem?_eq_some_iff.mp e).1
  obtain ⟨v', q1, q2⟩ := h.get (List.getElem?_eq_getElem hi)
  rw [e] at q1
  cases q1
  exact ⟨_, List.getElem?_eq_getElem hi, q2⟩
theorem Reps.snoc : ∀ {ds : List D} {vs : List V} {d : D} {v : V}, Reps K ct m F ds vs → Rep K ct m F d v → Reps K ct m F (ds ++ [d]) (vs ++ [v])
  | [], _, d, v, h, q => by
    have h : _ = _ := h
    subst h
    exact ⟨v, [], rfl, q, rfl⟩
  | e :: ds, _, d, v, h, q => by
    obtain ⟨x, r, e1, e2, e3⟩ := h
    subst e1
    exact ⟨x, r ++ [v], rfl, e2, e3.snoc q⟩
theorem Reps.append : ∀ {ds es : List D} {vs us : List V}, Reps K ct m F ds vs → Reps K ct m F es us → Reps K ct m F (ds ++ es) (vs ++ us)
  | [], _, _, _, h, q => by
    have h : _ = _ := h
    subst h
    exact q
  | e :: ds, _, _, _, h, q => by
    obtain ⟨x, r, e1, e2, e3⟩ := h
    subst e1
    exact ⟨x, _, rfl, e2, e3.append q⟩
theorem Reps.set : ∀ {ds : List D} {vs : List V} {d : D} {v : V} (i : Nat), Reps K ct m F ds vs → Rep K ct m F d v → Reps K ct m F (ds.set i d) (vs.set i v)
  | [], _, d, v, i, h, q => by
    have h : _ = _ := h
    subst h
    cases i <;> exact rfl
  | e :: ds, _, d, v, 0, h, q => by
    obtain ⟨x, r, e1, e2, e3⟩ := h
    subst e1
    exact ⟨v, r, rfl, q, e3⟩
  | e :: ds, _, d, v, i + 1, h, q => by
    obtain ⟨x, r, e1, e2, e3⟩ := h
    subst e1
    exact ⟨x, _, rfl, e2, e3.set i q⟩
theorem Reps.take : ∀ {ds : List D} {vs : List V} (n : Nat), Reps K ct m F ds vs → Reps K ct m F (ds.take n) (vs.take n)
  | _, _, 0, _ => by simp [Reps]
  | [], _, n + 1, h => by
    have h : _ = _ := h
    subst h
    exact rfl
  | d :: ds, _, n + 1, h => by
    obtain ⟨x, r, e1, e2, e3⟩ := h
    subst e1
    exact ⟨x, _, rfl, e2, e3.take n⟩
theorem Reps.drop : ∀ {ds : List D} {vs : List V} (n : Nat), Reps K ct m F ds vs → Reps K ct m F (ds.drop n) (vs.drop n)
  | _, _, 0, h => h
  | [], _, n + 1, h => by
    have h : _ = _ := h
    subst h
    exact rfl
  | d :: ds, _, n + 1, h => by
    obtain ⟨x, r, e1, e2, e3⟩ := h
    subst e1
    exact e3.drop n
theorem Reps.mk1 (h : Rep K ct m F d v) : Reps K ct m F [d] [v] := ⟨v, [], rfl, h, rfl⟩
theorem Reps.ints (ns : List Int) : Reps K ct m F (ns.map D.int) (ns.map V.int) := by
  induction ns with
  | nil => exact rfl
  | cons n ns ih => exact ⟨_, _, rfl, rfl, ih⟩
theorem EnvR.set (h : EnvR K ct m F env σ) (i : Nat) (q : Rep K ct m F d v) : EnvR K ct m F (env.set i (some d)) (σ.set i (some v)) := by
  refine ⟨by simp [h.1], fun j e hj => ?_⟩
  by_cases e1 : i = j
  · subst e1
    have hl : i < env.length := by
      have := (List.getElem?_eq_some_iff.mp hj).1
      simpa using this
    rw [List.getElem?_set_self hl] at hj
    cases hj
    rw [List.getElem?_set_self (h.1 ▸ hl)]
    exact ⟨v, rfl, q⟩
  · rw [List.getElem?_set_ne e1] at hj
    rw [List.getElem?_set_ne e1]
    exact h.2 j e hj
end

/-! ## judgements -/
section
variable (ct : CT)
def PostE (K : PySem.W.Frag) (m : List Addr) (F H : Hp) (S' : Sto) (d : D) (Q : VK) : Prop :=
  ∀ m' F' v H', Ext m F H m' F' H' → Sim K ct m' F' S' H' → Rep K ct m' F' d v → Q v H'
def PostA (K : PySem.W.Frag) (m : List Addr) (F H : Hp) (S' : Sto) (ds : List D) (Q : List V → Hp → Prop) : Prop :=
  ∀ m' F' vs H', Ext m F H m' F' H' → Sim K ct m' F' S' H' → Reps K ct m' F' ds vs → Q vs H'
def PostT (K : PySem.W.Frag) (m : List Addr) (F H : Hp) (S' : Sto) (b : Bool) (Q : Bool → Hp → Prop) : Prop :=
  ∀ m' F' H', Ext m F H m' F' H' → Sim K ct m' F' S' H' → Q b H'
def PostS (K : PySem.W.Frag) (m : List Addr) (F H : Hp) (S' : Sto) (fl : Fl) (E : Ends) : Prop :=
  match fl with
  | .nx env' => ∀ m' F' σ' H', Ext m F H m' F' H' → Sim K ct m' F' S' H' → EnvR K ct m' F' env' σ' → E.nx σ' H'
  | .rt d => ∀ m' F' v H', Ext m F H m' F' H' → Sim K ct m' F' S' H' → Rep K ct m' F' d v → E.rt v H'
  | .bk env' => ∀ m' F' σ' H', Ext m F H m' F' H' → Sim K ct m' F' S' H' → EnvR K ct m' F' env' σ' → E.bk σ' H'
  | .ct env' => ∀ m' F' σ' H', Ext m F H m' F' H' → Sim K ct m' F' S' H' → EnvR K ct m' F' env' σ' → E.ct σ' H'
def SE (X : Cx) (e : Expr) (f : FE) : Prop := ∃ t, PE X e t ∧ ∀ m F S σ H env d S' Q, Sim X.K ct m F S H → EnvR X.K ct m F env σ → f env S = some (d, S') → PostE ct X.K m F H S' d Q → t σ H Q
def SA (X : Cx) (es : List Expr) (f : FA) : Prop := ∃ t, PA X es t ∧ ∀ m F S σ H env ds S' Q, Sim X.K ct m F S H → EnvR X.K ct m F env σ → f env S = some (ds, S') → PostA ct X.K m F H S' ds Q → t σ H Q
def ST (X : Cx) (e : Expr) (f : FT) : Prop := ∃ t, PT X e t ∧ ∀ m F S σ H env b S' Q, Sim X.K ct m F S H → EnvR X.K ct m F env σ → f env S = some (b, S') → PostT ct X.K m F H S' b Q → t σ H Q
def SW (X : Cx) (e : Expr) (f : FT) : Prop := ∃ t, PW X e t ∧ ∀ m F S σ H env b S' Q, Sim X.K ct m F S H → EnvR X.K ct m F env σ → f env S = some (b, S') → PostT ct X.K m F H S' b Q → t σ H Q
def SS (X : Cx) (st : Stmt) (f : FS) : Prop := ∃ t, PS X st t ∧ ∀ m F S σ H env fl S' E, Sim X.K ct m F S H → EnvR X.K ct m F env σ → f env S = some (fl, S') → PostS ct X.K m F H S' fl E → t E σ H
def SSs (X : Cx) (sts : List Stmt) (f : FS) : Prop := ∃ t, PSs X sts t ∧ ∀ m F S σ H env fl S' E, Sim X.K ct m F S H → EnvR X.K ct m F env σ → f env S = some (fl, S') → PostS ct X.K m F H S' fl E → t E σ H
/-- a rule of two values, at data -/
def OpD (K : PySem.W.Frag) (r : R2) (g : D → D → Sto → Option (D × Sto)) : Prop := ∀ m F S H x y dx dy d S' Q, Sim K ct m F S H → Rep K ct m F dx x → Rep K ct m F dy y → g dx dy S = some (d, S') → PostE ct K m F H S' d Q → r x y H Q
def CallD (K : PySem.W.Frag) (r : List V → Hp → VK → Prop) (g : FD) : Prop := ∀ m F S H xs ds d S' Q, Sim K ct m F S H → Reps K ct m F ds xs → g ds S = some (d, S') → PostE ct K m F H S' d Q → r xs H Q
end

section
variable {ct : CT} {K : PySem.W.Frag} {m m1 : List Addr} {F F1 H H1 : Hp} {S S' : Sto}
theorem PostE.ext {d : D} {Q : VK} (p : PostE ct K m F H S' d Q) (e : Ext m F H m1 F1 H1) : PostE ct K m1 F1 H1 S' d Q := fun m' F' v H' x s r => p m' F' v H' (e.trans x) s r
theorem PostA.ext {d : List D} {Q : List V → Hp → Prop} (p : PostA ct K m F H S' d Q) (e : Ext m F H m1 F1 H1) : PostA ct K m1 F1 H1 S' d Q := fun m' F' v H' x s r => p m' F' v H' (e.trans x) s r
theorem PostT.ext {d : Bool} {Q : Bool → Hp → Prop} (p : PostT ct K m F H S' d Q) (e : Ext m F H m1 F1 H1) : PostT ct K m1 F1 H1 S' d Q := fun m' F' H' x s => p m' F' H' (e.trans x) s
theorem PostS.ext {fl : Fl} {E : Ends} (p : PostS ct K m F H S' fl E) (e : Ext m F H m1 F1 H1) : PostS ct K m1 F1 H1 S' fl E := by
  cases fl with
  | nx env' => exact fun m' F' σ' H' x s r => p m' F' σ' H' (e.trans x) s r
  | rt d => exact fun m' F' σ' H' x s r => p m' F' σ' H' (e.trans x) s r
  | bk env' => exact fun m' F' σ' H' x s r => p m' F' σ' H' (e.trans x) s r
  | ct env' => exact fun m' F' σ' H' x s r => p m' F' σ' H' (e.trans x) s r
theorem PostE.now {d : D} {v : V} {Q : VK} (p : PostE ct K m F H S d Q) (s : Sim K ct m F S H) (r : Rep K ct m F d v) : Q v H := p m F v H (Ext.refl _ _ _) s r
end
end DL

namespace DL
open PySem L2
section
variable {ct : CT} {X : Cx} {a b c e : Expr} {es : List Expr} {fa fb fc f : FE} {fas : FA} {pos : Pos}
/-! ## names, constants -/
def fVar (i : Nat) : FE := fun env S => match env[i]? with
  | some (some d) => some (d, S)
  | _ => none
def fC (d : D) : FE := fun _ S => some (d, S)
theorem se_var (i : Nat) {x : Str} (hN : X.N[i]? = some x := by rfl) (hv : Vis X.env.scope x := by first | exact Or.inl rfl | exact Or.inr (Or.inl rfl) | exact Or.inr (Or.inr rfl)) (hd : (x == ("__debug__" : Str)) = false := by decide)
    (hcd : (x == ("__classdict__" : Str)) = false := by decide) : SE ct X (.Name x pos) (fVar i) := by
  refine ⟨_, pe_var hN hv hd hcd, fun m F S σ H env d S' Q s r h p => ?_⟩
  unfold fVar at h
  split at h
  · rename_i d' e
    cases h
    obtain ⟨v, h1, h2⟩ := r.2 i _ e
    exact ⟨v, h1, p.now s h2⟩
  · cases h
theorem se_of {t : TE} {d : D} {v : V} (h : PE X e t) (ht : ∀ σ H (Q : VK), Q v H → t σ H Q) (hr : ∀ m F, Rep X.K ct m F d v) : SE ct X e (fC d) :=
  ⟨t, h, fun m F S σ H env d' S' Q s _ q p => by
    cases q
    exact ht σ H Q (p.now s (hr m F))⟩
theorem se_int {i : Int} {j : Nat} : SE ct X (.Constant (.int i) j pos) (fC (.int i)) := se_of pe_int (fun _ _ _ q => q) fun _ _ => rfl
theorem se_bl {i : Bool} {j : Nat} : SE ct X (.Constant (.bool i) j pos) (fC (.bl i)) := se_of pe_bl (fun _ _ _ q => q) fun _ _ => rfl
theorem se_non {j : Nat} : SE ct X (.Constant .none j pos) (fC .non) := se_of pe_non (fun _ _ _ q => q) fun _ _ => rfl
theorem se_str {i : Str} {j : Nat} : SE ct X (.Constant (.str i) j pos) (fC (.str i)) := se_of pe_str (fun _ _ _ q => q) fun _ _ => rfl
theorem se_glob {x : Str} {v : V} {u : Value} {d : D} (hg : Gl X x) (hm : X.mg x = some u) (r : RelV v u) (hr : ∀ m F, Rep X.K ct m F d v) (hd : (x == ("__debug__" : Str)) = false := by decide) : SE ct X (.Name x pos) (fC d) :=
  se_of (pe_glob hg hm r hd) (fun _ _ _ q => q) hr
/-! ## two values in a row -/
def fBin (g : D → D → Sto → Option (D × Sto)) (fa fb : FE) : FE := fun env S => (fa env S).bind fun p => (fb env p.2).bind fun q => g p.1 q.1 q.2
theorem bind_some {α β : Type} {o : Option α} {k : α → Option β} {r : β} (h : o.bind k = some r) : ∃ x, o = some x ∧ k x = some r := by
  cases o with
  | none => cases h
  | some x => exact ⟨x, rfl, h⟩
theorem two {m : List Addr} {F H : Hp} {S S' : Sto} {env : DEnv} {d : D} {σ : St} {Q : VK} {g : D → D → Sto → Option (D × Sto)} {r : R2} {ta tb : TE}
    (ra : ∀ m F S σ H env d S' Q, Sim X.K ct m F S H → EnvR X.K ct m F env σ → fa env S = some (d, S') → PostE ct X.K m F H S' d Q → ta σ H Q)
    (rb : ∀ m F S σ H env d S' Q, Sim X.K ct m F S H → EnvR X.K ct m F env σ → fb env S = some (d, S') → PostE ct X.K m F H S' d Q → tb σ H Q)
    (o : OpD ct X.K r g) (s : Sim X.K ct m F S H) (en : EnvR X.K ct m F env σ) (h : fBin g fa fb env S = some (d, S')) (p : PostE ct X.K m F H S' d Q) : tOp r ta tb σ H Q := by
  obtain ⟨⟨x, S1⟩, h1, h⟩ := bind_some h
  obtain ⟨⟨y, S2⟩, h2, h⟩ := bind_some h
  refine ra m F S σ H env x S1 _ s en h1 fun m1 F1 v1 H1 x1 s1 r1 => ?_
  refine rb m1 F1 S1 σ H1 env y S2 _ s1 (en.mono x1) h2 fun m2 F2 v2 H2 x2 s2 r2 => ?_
  exact o m2 F2 S2 H2 v1 v2 x y d S' Q s2 (r1.mono x2) r2 h ((p.ext x1).ext x2)
theorem se_op {op : Operator} {r : R2} {g : D → D → Sto → Option (D × Sto)} (ho : OpR X (binaryOp op) r) (od : OpD ct X.K r g) (ha : SE ct X a fa) (hb : SE ct X b fb) : SE ct X (.BinOp a op b pos) (fBin g fa fb) := by
  obtain ⟨ta, pa, ra⟩ := ha
  obtain ⟨tb, pb, rb⟩ := hb
  exact ⟨_, pe_op ho pa pb, fun m F S σ H env d S' Q s en h p => two ra rb od s en h p⟩
theorem se_cmp {op : CmpOp} {r : R2} {g : D → D → Sto → Option (D × Sto)} (ho : OpR X (compareOp op) r) (od : OpD ct X.K r g) (ha : SE ct X a fa) (hb : SE ct X b fb) (hm : behindInMarks op b = false) : SE ct X (.Compare a [op] [b] pos) (fBin g fa fb) := by
  obtain ⟨ta, pa, ra⟩ := ha
  obtain ⟨tb, pb, rb⟩ := hb
  exact ⟨_, pe_cmpR ho pa pb hm, fun m F S σ H env d S' Q s en h p => two ra rb od s en h p⟩
theorem se_ix {r : R2} {g : D → D → Sto → Option (D × Sto)} (ho : IxR X r) (od : OpD ct X.K r g) (ha : SE ct X a fa) (hb : SE ct X b fb) (hs : PlainIx b) : SE ct X (.Subscript a b pos) (fBin g fa fb) := by
  obtain ⟨ta, pa, ra⟩ := ha
  obtain ⟨tb, pb, rb⟩ := hb
  exact ⟨_, pe_ix ho pa pb hs, fun m F S σ H env d S' Q s en h p => two ra rb od s en h p⟩
def fUn (g : D → Option D) (fa : FE) : FE := fun env S => (fa env S).bind fun p => (g p.1).map fun d => (d, p.2)
def gNeg : D → Option D
  | .int i => some (.int (-i))
  | _ => none
theorem se_neg (ha : SE ct X a fa) : SE ct X (.UnaryOp .USub a pos) (fUn gNeg fa) := by
  obtain ⟨ta, pa, ra⟩ := ha
  refine ⟨_, pe_un un_neg pa, fun m F S σ H env d S' Q s en h p => ?_⟩
  obtain ⟨⟨x, S1⟩, h1, h⟩ := bind_some h
  refine ra m F S σ H env x S1 _ s en h1 fun m1 F1 v1 H1 x1 s1 r1 => ?_
  cases x with
  | int i =>
    cases h
    have r1 : v1 = .int i := r1
    exact ⟨i, r1, (p.ext x1).now s1 rfl⟩
  | _ => cases h
/-! ## arguments -/
def fNil : FA := fun _ S => some ([], S)
def fCons (f : FE) (fs : FA) : FA := fun env S => (f env S).bind fun p => (fs env p.2).bind fun q => some (p.1 :: q.1, q.2)
theorem sa_nil : SA ct X [] fNil := ⟨_, pa_nil, fun m F S σ H env d S' Q s en h p => by
  cases h
  exact p m F [] H (Ext.refl _ _ _) s rfl⟩
theorem sa_cons (ha : SE ct X e f) (hr : SA ct X es fas) (hs : starEach (e :: es) X.env = (false, eval e X.env) :: starEach es X.env := by rfl) : SA ct X (e :: es) (fCons f fas) := by
  obtain ⟨ta, pa, ra⟩ := ha
  obtain ⟨tb, pb, rb⟩ := hr
  refine ⟨_, pa_cons pa pb hs, fun m F S σ H env d S' Q s en h p => ?_⟩
  obtain ⟨⟨x, S1⟩, h1, h⟩ := bind_some h
  obtain ⟨⟨ys, S2⟩, h2, h⟩ := bind_some h
  cases h
  refine ra m F S σ H env x S1 _ s en h1 fun m1 F1 v1 H1 x1 s1 r1 => ?_
  refine rb m1 F1 S1 σ H1 env ys S2 _ s1 (en.mono x1) h2 fun m2 F2 v2 H2 x2 s2 r2 => ?_
  exact p m2 F2 (v1 :: v2) H2 (x1.trans x2) s2 ⟨v1, v2, rfl, r1.mono x2, r2⟩
/-! ## displays -/
def fTup (fs : FA) : FE := fun env S => (fs env S).bind fun p => if p.1.length ≤ 1000 then some (.tup p.1, p.2) else none
def fLst (fs : FA) : FE := fun env S => (fs env S).bind fun p => if p.1.length ≤ 1000 then some (.lst p.1, p.2) else none
/-- a list that will be changed -/
def fLstM (fs : FA) : FE := fun env S => (fs env S).bind fun p => if p.1.length ≤ 1000 then some (.ref p.2.length, p.2 ++ [.lst p.1]) else none
theorem line_of {n : Nat} (h : n ≤ 1000) : n ≤ sizeLine := Nat.le_trans h (by decide)
theorem se_tup {k : Nat} (ha : SA ct X es fas) : SE ct X (.Tuple es k pos) (fTup fas) := by
  obtain ⟨ta, pa, ra⟩ := ha
  refine ⟨_, pe_tup pa, fun m F S σ H env d S' Q s en h p => ?_⟩
  obtain ⟨⟨xs, S1⟩, h1, h⟩ := bind_some h
  by_cases hl : xs.length ≤ 1000
  · rw [if_pos hl] at h
    cases h
    refine ra m F S σ H env xs S1 _ s en h1 fun m1 F1 vs H1 x1 s1 r1 => ⟨line_of (r1.length ▸ hl), fun q hq => ?_⟩
    obtain ⟨s2, x2⟩ := s1.frozen hq (.tup vs)
    exact p m1 _ (.ref q) _ (x1.trans x2) s2 ⟨q, vs, rfl, SqT.of upd_same, r1.mono x2⟩
  · rw [if_neg hl] at h
    cases h
theorem se_lst (ha : SA ct X es fas) : SE ct X (.List es pos) (fLst fas) := by
  obtain ⟨ta, pa, ra⟩ := ha
  refine ⟨_, pe_lst pa, fun m F S σ H env d S' Q s en h p => ?_⟩
  obtain ⟨⟨xs, S1⟩, h1, h⟩ := bind_some h
  by_cases hl : xs.length ≤ 1000
  · rw [if_pos hl] at h
    cases h
    refine ra m F S σ H env xs S1 _ s en h1 fun m1 F1 vs H1 x1 s1 r1 => ⟨line_of (r1.length ▸ hl), fun q hq => ?_⟩
    obtain ⟨s2, x2⟩ := s1.frozen hq (.lst vs)
    exact p m1 _ (.ref q) _ (x1.trans x2) s2 ⟨q, vs, rfl, upd_same, r1.mono x2⟩
  · rw [if_neg hl] at h
    cases h
theorem se_lstM (ha : SA ct X es fas) : SE ct X (.List es pos) (fLstM fas) := by
  obtain ⟨ta, pa, ra⟩ := ha
  refine ⟨_, pe_lst pa, fun m F S σ H env d S' Q s en h p => ?_⟩
  obtain ⟨⟨xs, S1⟩, h1, h⟩ := bind_some h
  by_cases hl : xs.length ≤ 1000
  · rw [if_pos hl] at h
    cases h
    refine ra m F S σ H env xs S1 _ s en h1 fun m1 F1 vs H1 x1 s1 r1 => ⟨line_of (r1.length ▸ hl), fun q hq => ?_⟩
    obtain ⟨s2, x2⟩ := s1.fresh hq (o := .lst vs) (c := .lst xs) ⟨vs, rfl, r1⟩
    exact p _ _ (.ref q) _ (x1.trans x2) s2 ⟨q, by rw [← s1.len]; simp, rfl⟩
  · rw [if_neg hl] at h
    cases h
/-! ## calls of built-ins -/
def fCall (g : FD) (fas : FA) : FE := fun env S => (fas env S).bind fun p => g p.1 p.2
theorem se_callB {id : String} {x : Str} {p : Pos} {r : List V → Hp → VK → Prop} {g : FD} (hc : CallR X (.builtin id) r) (cd : CallD ct X.K r g) (hg : Gl X x) (hm : X.mg x = none) (hv : bootBuiltins x = some (.builtin id)) (ha : SA ct X (e :: es) fas)
    (hn : x ≠ "__name__" := by decide) (hdb : (x == ("__debug__" : Str)) = false := by decide) (he : starEach (e :: es) X.env = (false, eval e X.env) :: starEach es X.env := by rfl) (hpl : (backTo pos (starEach es X.env)).any (·.1) = false := by rfl) :
    SE ct X (.Call (.Name x p) (e :: es) [] pos) (fCall g fas) := by
  obtain ⟨ta, pa, ra⟩ := ha
  refine ⟨_, pe_callB hc hg hm hv pa hn hdb he hpl, fun m F S σ H env d S' Q s en h p => ?_⟩
  obtain ⟨⟨xs, S1⟩, h1, h⟩ := bind_some h
  exact ra m F S σ H env xs S1 _ s en h1 fun m1 F1 vs H1 x1 s1 r1 => cd m1 F1 S1 H1 vs xs d S' Q s1 r1 h (p.ext x1)
theorem se_callTy {T : String} {x : Str} {p : Pos} {r : List V → Hp → VK → Prop} {g : FD} (hc : CallR X (.type T) r) (cd : CallD ct X.K r g) (hg : Gl X x) (hm : X.mg x = none) (hv : bootBuiltins x = some (.type T)) (ha : SA ct X (e :: es) fas)
    (hn : x ≠ "__name__" := by decide) (hdb : (x == ("__debug__" : Str)) = false := by decide) (he : starEach (e :: es) X.env = (false, eval e X.env) :: starEach es X.env := by rfl) (hpl : (backTo pos (starEach es X.env)).any (·.1) = false := by rfl) :
    SE ct X (.Call (.Name x p) (e :: es) [] pos) (fCall g fas) := by
  obtain ⟨ta, pa, ra⟩ := ha
  refine ⟨_, pe_callTy hc hg hm hv pa hn hdb he hpl, fun m F S σ H env d S' Q s en h p => ?_⟩
  obtain ⟨⟨xs, S1⟩, h1, h⟩ := bind_some h
  exact ra m F S σ H env xs S1 _ s en h1 fun m1 F1 vs H1 x1 s1 r1 => cd m1 F1 S1 H1 vs xs d S' Q s1 r1 h (p.ext x1)
/-! ## and, or, not, if as values -/
def fAnd (fa fb : FE) : FE := fun env S => (fa env S).bind fun p => match p.1 with
  | .bl true => fb env p.2
  | .bl false => some (.bl false, p.2)
  | _ => none
def fOr (fa fb : FE) : FE := fun env S => (fa env S).bind fun p => match p.1 with
  | .bl true => some (.bl true, p.2)
  | .bl false => fb env p.2
  | _ => none
def fNot (fa : FE) : FE := fun env S => (fa env S).bind fun p => match p.1 with
  | .bl b => some (.bl (!b), p.2)
  | _ => none
theorem se_one {op : BoolOp} (h : SE ct X a f) : SE ct X (.BoolOp op [a] pos) f := by
  obtain ⟨ta, pa, ra⟩ := h
  exact ⟨ta, pe_one pa, ra⟩
theorem se_and {rest : List Expr} (ha : SE ct X a fa) (hb : SE ct X (.BoolOp .And (b :: rest) pos) fb) : SE ct X (.BoolOp .And (a :: b :: rest) pos) (fAnd fa fb) := by
  obtain ⟨ta, pa, ra⟩ := ha
  obtain ⟨tb, pb, rb⟩ := hb
  refine ⟨_, pe_and pa pb, fun m F S σ H env d S' Q s en h p => ?_⟩
  obtain ⟨⟨x, S1⟩, h1, h⟩ := bind_some h
  refine ra m F S σ H env x S1 _ s en h1 fun m1 F1 v1 H1 x1 s1 r1 => ?_
  cases x with
  | bl k =>
    have r1 : v1 = .bl k := r1
    refine ⟨k, r1, ?_⟩
    cases k with
    | true => exact iteT (rb m1 F1 S1 σ H1 env d S' _ s1 (en.mono x1) h (p.ext x1))
    | false => cases h; exact iteF ((p.ext x1).now s1 rfl)
  | _ => cases h
theorem se_or {rest : List Expr} (ha : SE ct X a fa) (hb : SE ct X (.BoolOp .Or (b :: rest) pos) fb) : SE ct X (.BoolOp .Or (a :: b :: rest) pos) (fOr fa fb) := by
  obtain ⟨ta, pa, ra⟩ := ha
  obtain ⟨tb, pb, rb⟩ := hb
  refine ⟨_, pe_or pa pb, fun m F S σ H env d S' Q s en h p => ?_⟩
  obtain ⟨⟨x, S1⟩, h1, h⟩ := bind_some h
  refine ra m F S σ H env x S1 _ s en h1 fun m1 F1 v1 H1 x1 s1 r1 => ?_
  cases x with
  | bl k =>
    have r1 : v1 = .bl k := r1
    refine ⟨k, r1, ?_⟩
    cases k with
    | false => exact iteF (rb m1 F1 S1 σ H1 env d S' _ s1 (en.mono x1) h (p.ext x1))
    | true => cases h; exact iteT ((p.ext x1).now s1 rfl)
  | _ => cases h
theorem se_not (ha : SE ct X a fa) : SE ct X (.UnaryOp .Not a pos) (fNot fa) := by
  obtain ⟨ta, pa, ra⟩ := ha
  refine ⟨_, pe_not pa, fun m F S σ H env d S' Q s en h p => ?_⟩
  obtain ⟨⟨x, S1⟩, h1, h⟩ := bind_some h
  refine ra m F S σ H env x S1 _ s en h1 fun m1 F1 v1 H1 x1 s1 r1 => ?_
  cases x with
  | bl k =>
    have r1 : v1 = .bl k := r1
    cases h
    exact ⟨k, r1, (p.ext x1).now s1 rfl⟩
  | _ => cases h
/-! ## tests -/
def fTest (f : FE) : FT := fun env S => (f env S).bind fun p => match p.1 with
  | .bl b => some (b, p.2)
  | _ => none
def tAndD (ta tb : FT) : FT := fun env S => (ta env S).bind fun p => if p.1 = true then tb env p.2 else some (false, p.2)
def tOrD (ta tb : FT) : FT := fun env S => (ta env S).bind fun p => if p.1 = true then some (true, p.2) else tb env p.2
def tNotD (ta : FT) : FT := fun env S => (ta env S).bind fun p => some (!p.1, p.2)
def fIf (t : FT) (fa fb : FE) : FE := fun env S => (t env S).bind fun p => if p.1 = true then fa env p.2 else fb env p.2
variable {ga gb : FT}
theorem st_val (h : SE ct X e f) (he : ∀ whole, isTrue e X.env whole = (do let v ← whole; standAt e.pos; holding [v] (truthy v)) := by intro _; rfl) : ST ct X e (fTest f) := by
  obtain ⟨ta, pa, ra⟩ := h
  refine ⟨_, pt_val pa he, fun m F S σ H env d S' Q s en h p => ?_⟩
  obtain ⟨⟨x, S1⟩, h1, h⟩ := bind_some h
  refine ra m F S σ H env x S1 _ s en h1 fun m1 F1 v1 H1 x1 s1 r1 => ?_
  cases x with
  | bl k =>
    have r1 : v1 = .bl k := r1
    cases h
    exact ⟨_, r1, p m1 F1 H1 x1 s1⟩
  | _ => cases h
theorem st_cmp {op : CmpOp} {r : R2} {g : D → D → Sto → Option (D × Sto)} (ho : OpR X (compareOp op) r) (od : OpD ct X.K r g) (ha : SE ct X a fa) (hb : SE ct X b fb) (hm : behindInMarks op b = false) : ST ct X (.Compare a [op] [b] pos) (fTest (fBin g fa fb)) := by
  obtain ⟨ta, pa, ra⟩ := ha
  obtain ⟨tb, pb, rb⟩ := hb
  refine ⟨_, pt_cmpR ho pa pb hm, fun m F S σ H env d S' Q s en h p => ?_⟩
  obtain ⟨⟨x, S1⟩, h1, h⟩ := bind_some h
  refine two ra rb od s en h1 fun m1 F1 v1 H1 x1 s1 r1 => ?_
  cases x with
  | bl k =>
    have r1 : v1 = .bl k := r1
    cases h
    exact ⟨_, r1, p m1 F1 H1 x1 s1⟩
  | _ => cases h
theorem st_not (h : ST ct X a ga) : ST ct X (.UnaryOp .Not a pos) (tNotD ga) := by
  obtain ⟨ta, pa, ra⟩ := h
  refine ⟨_, pt_not pa, fun m F S σ H env d S' Q s en h p => ?_⟩
  obtain ⟨⟨x, S1⟩, h1, h⟩ := bind_some h
  cases h
  exact ra m F S σ H env x S1 _ s en h1 fun m1 F1 H1 x1 s1 => p m1 F1 H1 x1 s1
theorem SW.st (h : SW ct X e ga) : ST ct X e ga := by
  obtain ⟨t, p, r⟩ := h
  exact ⟨t, p.pt, r⟩
theorem sw_and1 (h : ST ct X a ga) : SW ct X (.BoolOp .And [a] pos) ga := by
  obtain ⟨t, p, r⟩ := h
  exact ⟨t, pw_and1 p, r⟩
theorem sw_or1 (h : ST ct X a ga) : SW ct X (.BoolOp .Or [a] pos) ga := by
  obtain ⟨t, p, r⟩ := h
  exact ⟨t, pw_or1 p, r⟩
theorem sw_and {rest : List Expr} (ha : ST ct X a ga) (hb : SW ct X (.BoolOp .And (b :: rest) pos) gb) : SW ct X (.BoolOp .And (a :: b :: rest) pos) (tAndD ga gb) := by
  obtain ⟨ta, pa, ra⟩ := ha
  obtain ⟨tb, pb, rb⟩ := hb
  refine ⟨_, pw_and pa pb, fun m F S σ H env d S' Q s en h p => ?_⟩
  obtain ⟨⟨x, S1⟩, h1, h⟩ := bind_some h
  refine ra m F S σ H env x S1 _ s en h1 fun m1 F1 H1 x1 s1 => ?_
  cases x with
  | true => exact iteT (rb m1 F1 S1 σ H1 env d S' _ s1 (en.mono x1) h (p.ext x1))
  | false => cases h; exact iteF (p m1 F1 H1 x1 s1)
theorem sw_or {rest : List Expr} (ha : ST ct X a ga) (hb : SW ct X (.BoolOp .Or (b :: rest) pos) gb) : SW ct X (.BoolOp .Or (a :: b :: rest) pos) (tOrD ga gb) := by
  obtain ⟨ta, pa, ra⟩ := ha
  obtain ⟨tb, pb, rb⟩ := hb
  refine ⟨_, pw_or pa pb, fun m F S σ H env d S' Q s en h p => ?_⟩
  obtain ⟨⟨x, S1⟩, h1, h⟩ := bind_some h
  refine ra m F S σ H env x S1 _ s en h1 fun m1 F1 H1 x1 s1 => ?_
  cases x with
  | false => exact iteF (rb m1 F1 S1 σ H1 env d S' _ s1 (en.mono x1) h (p.ext x1))
  | true => cases h; exact iteT (p m1 F1 H1 x1 s1)
theorem se_if (hc : ST ct X c ga) (ha : SE ct X a fa) (hb : SE ct X b fb) : SE ct X (.IfExp c a b pos) (fIf ga fa fb) := by
  obtain ⟨tc, pc, rc⟩ := hc
  obtain ⟨ta, pa, ra⟩ := ha
  obtain ⟨tb, pb, rb⟩ := hb
  refine ⟨_, pe_ifExp pc pa pb, fun m F S σ H env d S' Q s en h p => ?_⟩
  obtain ⟨⟨x, S1⟩, h1, h⟩ := bind_some h
  refine rc m F S σ H env x S1 _ s en h1 fun m1 F1 H1 x1 s1 => ?_
  cases x with
  | true => exact iteT (ra m1 F1 S1 σ H1 env d S' _ s1 (en.mono x1) h (p.ext x1))
  | false => exact iteF (rb m1 F1 S1 σ H1 env d S' _ s1 (en.mono x1) h (p.ext x1))
/-! ## chains -/
def fChain (g g' : D → D → Sto → Option (D × Sto)) (fa fb fc : FE) : FE := fun env S => (fa env S).bind fun p => (fb env p.2).bind fun q => (g p.1 q.1 q.2).bind fun z => match z.1 with
  | .bl true => (fc env z.2).bind fun w => g' q.1 w.1 w.2
  | .bl false => some (.bl false, z.2)
  | _ => none
theorem chain {m : List Addr} {F H : Hp} {S S' : Sto} {env : DEnv} {d : D} {σ : St} {Q : VK} {g g' : D → D → Sto → Option (D × Sto)} {r r' : R2} {ta tb tc : TE}
    (ra : ∀ m F S σ H env d S' Q, Sim X.K ct m F S H → EnvR X.K ct m F env σ → fa env S = some (d, S') → PostE ct X.K m F H S' d Q → ta σ H Q)
    (rb : ∀ m F S σ H env d S' Q, Sim X.K ct m F S H → EnvR X.K ct m F env σ → fb env S = some (d, S') → PostE ct X.K m F H S' d Q → tb σ H Q)
    (rc : ∀ m F S σ H env d S' Q, Sim X.K ct m F S H → EnvR X.K ct m F env σ → fc env S = some (d, S') → PostE ct X.K m F H S' d Q → tc σ H Q)
    (o : OpD ct X.K r g) (o' : OpD ct X.K r' g') (s : Sim X.K ct m F S H) (en : EnvR X.K ct m F env σ) (h : fChain g g' fa fb fc env S = some (d, S')) (p : PostE ct X.K m F H S' d Q) : tChain r r' ta tb tc σ H Q := by
  obtain ⟨⟨x, S1⟩, h1, h⟩ := bind_some h
  obtain ⟨⟨y, S2⟩, h2, h⟩ := bind_some h
  obtain ⟨⟨z, S3⟩, h3, h⟩ := bind_some h
  refine ra m F S σ H env x S1 _ s en h1 fun m1 F1 v1 H1 x1 s1 r1 => ?_
  refine rb m1 F1 S1 σ H1 env y S2 _ s1 (en.mono x1) h2 fun m2 F2 v2 H2 x2 s2 r2 => ?_
  refine o m2 F2 S2 H2 v1 v2 x y z S3 _ s2 (r1.mono x2) r2 h3 fun m3 F3 v3 H3 x3 s3 r3 => ?_
  cases z with
  | bl k =>
    have r3 : v3 = .bl k := r3
    refine ⟨k, r3, ?_⟩
    cases k with
    | true =>
      obtain ⟨⟨w, S4⟩, h4, h⟩ := bind_some h
      refine iteT (rc m3 F3 S3 σ H3 env w S4 _ s3 (((en.mono x1).mono x2).mono x3) h4 fun m4 F4 v4 H4 x4 s4 r4 => ?_)
      exact o' m4 F4 S4 H4 v2 v4 y w d S' Q s4 ((r2.mono x3).mono x4) r4 h ((((p.ext x1).ext x2).ext x3).ext x4)
    | false => cases h; exact iteF ((((p.ext x1).ext x2).ext x3).now s3 rfl)
  | _ => cases h
theorem se_chain {op op' : CmpOp} {r r' : R2} {g g' : D → D → Sto → Option (D × Sto)} (ho : OpR X (compareOp op) r) (od : OpD ct X.K r g) (ho' : OpR X (compareOp op') r') (od' : OpD ct X.K r' g') (ha : SE ct X a fa) (hb : SE ct X b fb) (hc : SE ct X c fc)
    (hm : lastMarks [op, op'] [b, c] = false := by with_unfolding_all rfl) : SE ct X (.Compare a [op, op'] [b, c] pos) (fChain g g' fa fb fc) := by
  obtain ⟨ta, pa, ra⟩ := ha
  obtain ⟨tb, pb, rb⟩ := hb
  obtain ⟨tc, pc, rc⟩ := hc
  exact ⟨_, pe_chain ho ho' pa pb pc hm, fun m F S σ H env d S' Q s en h p => chain ra rb rc od od' s en h p⟩
theorem st_chain {op op' : CmpOp} {r r' : R2} {g g' : D → D → Sto → Option (D × Sto)} (ho : OpR X (compareOp op) r) (od : OpD ct X.K r g) (ho' : OpR X (compareOp op') r') (od' : OpD ct X.K r' g') (ha : SE ct X a fa) (hb : SE ct X b fb) (hc : SE ct X c fc)
    (hm : lastMarks [op, op'] [b, c] = false := by with_unfolding_all rfl) : ST ct X (.Compare a [op, op'] [b, c] pos) (fTest (fChain g g' fa fb fc)) := by
  obtain ⟨ta, pa, ra⟩ := ha
  obtain ⟨tb, pb, rb⟩ := hb
  obtain ⟨tc, pc, rc⟩ := hc
  refine ⟨_, pt_chain ho ho' pa pb pc hm, fun m F S σ H env d S' Q s en h p => ?_⟩
  obtain ⟨⟨x, S1⟩, h1, h⟩ := bind_some h
  refine chain ra rb rc od od' s en h1 fun m1 F1 v1 H1 x1 s1 r1 => ?_
  cases x with
  | bl k =>
    have r1 : v1 = .bl k := r1
    cases h
    exact ⟨_, r1, p m1 F1 H1 x1 s1⟩
  | _ => cases h
end
end DL

namespace DL
open PySem PySem.Spec PyProof.Rows L2
section
variable {ct : CT} {X : Cx} {a b c e : Expr} {es : List Expr} {fa fb fc f : FE} {fas : FA} {ga gb : FT} {pos : Pos} {st : Stmt} {rest : List Stmt} {f1 f2 : FS}
/-! ## statements -/
def sSkip : FS := fun env S => some (.nx env, S)
def sSeq (f1 f2 : FS) : FS := fun env S => (f1 env S).bind fun p => match p.1 with
  | .nx env' => f2 env' p.2
  | fl => some (fl, p.2)
theorem sss_nil : SSs ct X [] sSkip := ⟨_, pss_nil, fun m F S σ H env fl S' E s en h p => by
  cases h
  exact p m F σ H (Ext.refl _ _ _) s en⟩
theorem sss_cons (h1 : SS ct X st f1) (h2 : SSs ct X rest f2) : SSs ct X (st :: rest) (sSeq f1 f2) := by
  obtain ⟨ta, pa, ra⟩ := h1
  obtain ⟨tb, pb, rb⟩ := h2
  refine ⟨_, pss_cons pa pb, fun m F S σ H env fl S' E s en h p => ?_⟩
  obtain ⟨⟨x, S1⟩, h1, h⟩ := bind_some h
  refine ra m F S σ H env x S1 _ s en h1 ?_
  cases x with
  | nx env1 => exact fun m1 F1 σ1 H1 x1 s1 r1 => rb m1 F1 S1 σ1 H1 env1 fl S' E s1 r1 h (p.ext x1)
  | rt d => cases h; exact p
  | bk env1 => cases h; exact p
  | ct env1 => cases h; exact p
theorem sss_one (h1 : SS ct X st f1) : SSs ct X [st] f1 := by
  obtain ⟨ta, pa, ra⟩ := h1
  exact ⟨_, pss_one pa, ra⟩
theorem ss_pass : SS ct X (.Pass pos) sSkip := ⟨_, ps_pass, fun m F S σ H env fl S' E s en h p => by
  cases h
  exact p m F σ H (Ext.refl _ _ _) s en⟩
def sBreak : FS := fun env S => some (.bk env, S)
def sCont : FS := fun env S => some (.ct env, S)
theorem ss_break : SS ct X (.Break pos) sBreak := ⟨_, ps_break, fun m F S σ H env fl S' E s en h p => by
  cases h
  exact p m F σ H (Ext.refl _ _ _) s en⟩
theorem ss_continue : SS ct X (.Continue pos) sCont := ⟨_, ps_continue, fun m F S σ H env fl S' E s en h p => by
  cases h
  exact p m F σ H (Ext.refl _ _ _) s en⟩
/-- what is never reached -/
def sNever : FS := fun _ _ => none
theorem ss_never : SS ct X st sNever := ⟨_, ps_never, fun m F S σ H env fl S' E s en h p => by cases h⟩
theorem sss_never {sts : List Stmt} : SSs ct X sts sNever := ⟨_, pss_never, fun m F S σ H env fl S' E s en h p => by cases h⟩
def sExpr (f : FE) : FS := fun env S => (f env S).bind fun p => some (.nx env, p.2)
def sRet (f : FE) : FS := fun env S => (f env S).bind fun p => some (.rt p.1, p.2)
def sIf (t : FT) (f1 f2 : FS) : FS := fun env S => (t env S).bind fun p => if p.1 = true then f1 env p.2 else f2 env p.2
theorem ss_expr (he : SE ct X e f) (hs : swapsWith e none pos.line X.env = pure false := by rfl) : SS ct X (.Expr e pos) (sExpr f) := by
  obtain ⟨ta, pa, ra⟩ := he
  refine ⟨_, ps_expr pa hs, fun m F S σ H env fl S' E s en h p => ?_⟩
  obtain ⟨⟨x, S1⟩, h1, h⟩ := bind_some h
  cases h
  exact ra m F S σ H env x S1 _ s en h1 fun m1 F1 v1 H1 x1 s1 r1 => p m1 F1 σ H1 x1 s1 (en.mono x1)
theorem ss_ret (he : SE ct X e f) : SS ct X (.Return (some e) pos) (sRet f) := by
  obtain ⟨ta, pa, ra⟩ := he
  refine ⟨_, ps_ret pa, fun m F S σ H env fl S' E s en h p => ?_⟩
  obtain ⟨⟨x, S1⟩, h1, h⟩ := bind_some h
  cases h
  exact ra m F S σ H env x S1 _ s en h1 fun m1 F1 v1 H1 x1 s1 r1 => p m1 F1 v1 H1 x1 s1 r1
theorem ss_if {as bs : List Stmt} (hc : ST ct X c ga) (ha : SSs ct X as f1) (hb : SSs ct X bs f2) : SS ct X (.If c as bs pos) (sIf ga f1 f2) := by
  obtain ⟨tc, pc, rc⟩ := hc
  obtain ⟨ta, pa, ra⟩ := ha
  obtain ⟨tb, pb, rb⟩ := hb
  refine ⟨_, ps_if pc pa pb, fun m F S σ H env fl S' E s en h p => ?_⟩
  obtain ⟨⟨x, S1⟩, h1, h⟩ := bind_some h
  refine rc m F S σ H env x S1 _ s en h1 fun m1 F1 H1 x1 s1 => ?_
  cases x with
  | true => exact iteT (ra m1 F1 S1 σ H1 env fl S' _ s1 (en.mono x1) h (p.ext x1))
  | false => exact iteF (rb m1 F1 S1 σ H1 env fl S' _ s1 (en.mono x1) h (p.ext x1))
/-! ## targets -/
abbrev FG := D → DEnv → Sto → Option (DEnv × Sto)
def SG (ct : CT) (X : Cx) (tg : Expr) (g : FG) : Prop := ∃ t, PG X tg t ∧ ∀ m F S σ H env d v env' S' Q, Sim X.K ct m F S H → EnvR X.K ct m F env σ → Rep X.K ct m F d v → g d env S = some (env', S') →
  (∀ m' F' σ' H', Ext m F H m' F' H' → Sim X.K ct m' F' S' H' → EnvR X.K ct m' F' env' σ' → Q σ' H') → t v σ H Q
abbrev FGs := List D → DEnv → Sto → Option (DEnv × Sto)
def SGs (ct : CT) (X : Cx) (tgs : List Expr) (g : FGs) : Prop := ∃ t, PGs X tgs t ∧ ∀ m F S σ H env ds vs env' S' Q, Sim X.K ct m F S H → EnvR X.K ct m F env σ → Reps X.K ct m F ds vs → g ds env S = some (env', S') →
  (∀ m' F' σ' H', Ext m F H m' F' H' → Sim X.K ct m' F' S' H' → EnvR X.K ct m' F' env' σ' → Q σ' H') → t vs σ H Q
def gN (i : Nat) : FG := fun d env S => some (env.set i (some d), S)
theorem sg_name {i : Nat} {x : Str} (hN : X.N.Nodup) (hi : X.N[i]? = some x) (hx : Loc X.env.scope x) (hf : X.fn x = true ∨ X.env.scope.names.lookup x = some .local := by first | exact .inl rfl | exact .inr rfl | assumption) : SG ct X (.Name x pos) (gN i) :=
  ⟨_, pg_name hN hi hx hf, fun m F S σ H env d v env' S' Q s en r h q => by
    cases h
    exact q m F _ H (Ext.refl _ _ _) s (en.set i r)⟩
def gNil : FGs := fun ds env S => match ds with
  | [] => some (env, S)
  | _ => none
def gCons (g : FG) (gs : FGs) : FGs := fun ds env S => match ds with
  | d :: r => (g d env S).bind fun p => gs r p.1 p.2
  | _ => none
theorem sgs_nil : SGs ct X [] gNil := ⟨_, pgs_nil, fun m F S σ H env ds vs env' S' Q s en r h q => by
  cases ds with
  | nil =>
    cases h
    exact ⟨r, q m F _ H (Ext.refl _ _ _) s en⟩
  | cons _ _ => cases h⟩
theorem sgs_cons {t : Expr} {ts : List Expr} {g : FG} {gs : FGs} (h1 : SG ct X t g) (h2 : SGs ct X ts gs) (hs : (assignEach (t :: ts) X.env).map (·.2) = assign t X.env :: (assignEach ts X.env).map (·.2) := by rfl) : SGs ct X (t :: ts) (gCons g gs) := by
  obtain ⟨ta, pa, ra⟩ := h1
  obtain ⟨tb, pb, rb⟩ := h2
  refine ⟨_, pgs_cons pa pb hs, fun m F S σ H env ds vs env' S' Q s en r h q => ?_⟩
  cases ds with
  | nil => cases h
  | cons d dr =>
    obtain ⟨⟨env1, S1⟩, h1, h⟩ := bind_some h
    obtain ⟨v, vr, e1, r1, r2⟩ := r
    refine ⟨v, vr, e1, ra m F S σ H env d v env1 S1 _ s en r1 h1 fun m1 F1 σ1 H1 x1 s1 en1 => ?_⟩
    exact rb m1 F1 S1 σ1 H1 env1 dr vr env' S' Q s1 en1 (r2.mono x1) h fun m2 F2 σ2 H2 x2 s2 en2 => q m2 F2 σ2 H2 (x1.trans x2) s2 en2
/-- (a, b, ..) = a tuple -/
def gTup (n : Nat) (gs : FGs) : FG := fun d env S => match d with
  | .tup ds => if ds.length = n then gs ds env S else none
  | _ => none
theorem sg_tup {ts : List Expr} {k n : Nat} {gs : FGs} (hc : X.calm = true) (h : SGs ct X ts gs) (hn : (assignEach ts X.env).length = n := by rfl) (hst : (assignEach ts X.env).findIdx? (·.1) = none := by rfl) : SG ct X (.Tuple ts k pos) (gTup n gs) := by
  obtain ⟨ta, pa, ra⟩ := h
  refine ⟨_, pg_tup hc pa hn hst, fun m F S σ H env d v env' S' Q s en r h q => ?_⟩
  cases d with
  | tup ds =>
    obtain ⟨a, vs, e1, e2, e3⟩ := r
    by_cases hl : ds.length = n
    · have h : (if ds.length = n then gs ds env S else none) = some (env', S') := h
      rw [if_pos hl] at h
      exact ⟨a, vs, e1, sqT_mono s.same e2, by rw [← e3.length]; exact hl, ra m F S σ H env ds vs env' S' Q s en e3 h q⟩
    · have h : (if ds.length = n then gs ds env S else none) = some (env', S') := h
      rw [if_neg hl] at h
      cases h
  | _ => cases h
/-- o[i] = .. by a rule -/
def SetD (ct : CT) (K : PySem.W.Frag) (t : TSet) (g : D → D → D → Sto → Option Sto) : Prop := ∀ m F S H o i v d1 d2 d3 S' Q, Sim K ct m F S H → Rep K ct m F d1 o → Rep K ct m F d2 i → Rep K ct m F d3 v → g d1 d2 d3 S = some S' →
  (∀ m' F' H', Ext m F H m' F' H' → Sim K ct m' F' S' H' → Q H') → t o i v H Q
def gSub (g : D → D → D → Sto → Option Sto) (fa fb : FE) : FG := fun d env S => (fa env S).bind fun p => (fb env p.2).bind fun q => (g p.1 q.1 d q.2).map fun S' => (env, S')
theorem sg_sub {t : TSet} {g : D → D → D → Sto → Option Sto} (ho : SE ct X a fa) (hi : SE ct X b fb) (hs : PSet X t) (sd : SetD ct X.K t g)
    (ha : ∀ v, assign (.Subscript a b pos) X.env v = (do
      let ov ← holding [v] (eval a X.env)
      let iv ← holding [v, ov] (eval b X.env)
      standAt pos
      holding [v, ov, iv] (setItem ov iv v)
      release [v, ov, iv] []) := by intro _; rfl) : SG ct X (.Subscript a b pos) (gSub g fa fb) := by
  obtain ⟨ta, pa, ra⟩ := ho
  obtain ⟨tb, pb, rb⟩ := hi
  refine ⟨_, pg_sub pa pb hs ha, fun m F S σ H env d v env' S' Q s en r h q => ?_⟩
  obtain ⟨⟨x, S1⟩, h1, h⟩ := bind_some h
  obtain ⟨⟨y, S2⟩, h2, h⟩ := bind_some h
  cases h3 : g x y d S2 with
  | none => simp only [h3] at h; cases h
  | some S3 =>
    simp only [h3] at h
    cases h
    refine ra m F S σ H env x S1 _ s en h1 fun m1 F1 v1 H1 x1 s1 r1 => ?_
    refine rb m1 F1 S1 σ H1 env y S2 _ s1 (en.mono x1) h2 fun m2 F2 v2 H2 x2 s2 r2 => ?_
    exact sd m2 F2 S2 H2 v1 v2 v x y d _ _ s2 (r1.mono x2) r2 ((r.mono x1).mono x2) h3 fun m3 F3 H3 x3 s3 => q m3 F3 σ H3 ((x1.trans x2).trans x3) s3 (((en.mono x1).mono x2).mono x3)
/-! ## assignments -/
def sAsg (f : FE) (g : FG) : FS := fun env S => (f env S).bind fun p => (g p.1 env p.2).map fun q => (.nx q.1, q.2)
theorem ss_asg {tg : Expr} {g : FG} (he : SE ct X e f) (hg : SG ct X tg g) (hs : swapsWithSole [tg] e pos.line X.env = pure false := by rfl) (hw : swappedStores [tg] e X.env = pure none := by rfl)
    (h1 : (assignEach [tg] X.env).map (·.2) = [assign tg X.env] := by rfl) : SS ct X (.Assign [tg] e pos) (sAsg f g) := by
  obtain ⟨ta, pa, ra⟩ := he
  obtain ⟨tb, pb, rb⟩ := hg
  refine ⟨_, ps_asg pa pb hs hw h1, fun m F S σ H env fl S' E s en h p => ?_⟩
  obtain ⟨⟨x, S1⟩, h1, h⟩ := bind_some h
  cases h3 : g x env S1 with
  | none => simp only [h3] at h; cases h
  | some q3 =>
    obtain ⟨env3, S3⟩ := q3
    simp only [h3] at h
    cases h
    refine ra m F S σ H env x S1 _ s en h1 fun m1 F1 v1 H1 x1 s1 r1 => ?_
    exact rb m1 F1 S1 σ H1 env x v1 env3 _ _ s1 (en.mono x1) r1 h3 fun m2 F2 σ2 H2 x2 s2 en2 => p m2 F2 σ2 H2 (x1.trans x2) s2 en2
theorem ss_set {i : Nat} {x : Str} {pos' : Pos} (hN : X.N.Nodup) (hi : X.N[i]? = some x) (hx : Loc X.env.scope x) (he : SE ct X e f) (hs : swapsWith e (some (.Name x pos')) pos.line X.env = pure false := by rfl) (hf : X.fn x = true ∨ X.env.scope.names.lookup x = some .local := by first | exact .inl rfl | exact .inr rfl | assumption) :
    SS ct X (.Assign [.Name x pos'] e pos) (sAsg f (gN i)) := by
  obtain ⟨ta, pa, ra⟩ := he
  refine ⟨_, ps_set hN hi hx pa hs hf, fun m F S σ H env fl S' E s en h p => ?_⟩
  obtain ⟨⟨x, S1⟩, h1, h⟩ := bind_some h
  cases h
  exact ra m F S σ H env x S1 _ s en h1 fun m1 F1 v1 H1 x1 s1 r1 => p m1 F1 _ H1 x1 s1 ((en.mono x1).set i r1)
/-- a, b = x, y -/
def sPar (i j : Nat) (fas : FA) : FS := fun env S => (fas env S).bind fun p => match p.1 with
  | [v, w] => some (.nx ((env.set i (some v)).set j (some w)), p.2)
  | _ => none
theorem ss_par {i j : Nat} (hp : ∀ ta, PA X [a, b] ta → PS X st (tPar i j ta)) (ha : SA ct X [a, b] fas) : SS ct X st (sPar i j fas) := by
  obtain ⟨ta, pa, ra⟩ := ha
  refine ⟨_, hp ta pa, fun m F S σ H env fl S' E s en h p => ?_⟩
  obtain ⟨⟨xs, S1⟩, h1, h⟩ := bind_some h
  match xs, h with
  | [v, w], h =>
    cases h
    refine ra m F S σ H env _ S1 _ s en h1 fun m1 F1 vs H1 x1 s1 r1 => ?_
    obtain ⟨v1, r1', e1, q1, v2, r2', e2, q2, e3⟩ := r1
    have e3 : r2' = [] := e3
    subst e3 e2 e1
    exact ⟨v1, v2, rfl, p m1 F1 _ H1 x1 s1 (((en.mono x1).set i q1).set j q2)⟩
  | [], h => cases h
  | [_], h => cases h
  | _ :: _ :: _ :: _, h => cases h
/-! ## what is walked -/
structure Ext0 (m : List Addr) (F : Hp) (m' : List Addr) (F' : Hp) : Prop where
  pre : ∀ (i : Nat) (a : Addr), m[i]? = some a → m'[i]? = some a
  same : Same F F'
theorem Ext.e0 {m m' : List Addr} {F H F' H' : Hp} (x : Ext m F H m' F' H') : Ext0 m F m' F' := ⟨x.pre, x.same⟩
theorem Ext0.trans {m m1 m2 : List Addr} {F F1 F2 : Hp} (a : Ext0 m F m1 F1) (b : Ext0 m1 F1 m2 F2) : Ext0 m F m2 F2 := ⟨fun i x h => b.pre i x (a.pre i x h), a.same.trans b.same⟩
theorem Rep.mono0 {K : PySem.W.Frag} {ct : CT} {m m' : List Addr} {F F' : Hp} {d : D} {v : V} (h : Rep K ct m F d v) (x : Ext0 m F m' F') : Rep K ct m' F' d v := Rep.mono' x.pre x.same d v h
theorem Reps.mono0 {K : PySem.W.Frag} {ct : CT} {m m' : List Addr} {F F' : Hp} {d : List D} {v : List V} (h : Reps K ct m F d v) (x : Ext0 m F m' F') : Reps K ct m' F' d v := Reps.mono' x.pre x.same d v h
def ItOk (ct : CT) (K : PySem.W.Frag) (m0 : List Addr) (F0 : Hp) (items : List D) (J : It) : Prop := ∀ (i : Nat) (m : List Addr) (F : Hp) (S : Sto) (H : Hp), Ext0 m0 F0 m F → Sim K ct m F S H →
  (∀ d, items[i]? = some d → J.go i H ∧ ∀ x H', J.yld i H x H' → ∃ F', Ext m F H m F' H' ∧ Sim K ct m F' S H' ∧ Rep K ct m F' d x) ∧ (items.length = i → J.stop i H)
def SI (ct : CT) (X : Cx) (tg iter : Expr) (fi : FA) : Prop := ∃ wi, PI X tg iter wi ∧ ∀ m F S σ H env items S' R, Sim X.K ct m F S H → EnvR X.K ct m F env σ → fi env S = some (items, S') →
  (∀ m' F' J H', Ext m F H m' F' H' → Sim X.K ct m' F' S' H' → ItOk ct X.K m' F' items J → R J H') → wi σ H R
def forD (g : FG) (body : FS) : List D → FS
  | [], env, S => some (.nx env, S)
  | x :: xs, env, S => (g x env S).bind fun p => (body p.1 p.2).bind fun q => match q.1 with
    | .nx env' => forD g body xs env' q.2
    | .ct env' => forD g body xs env' q.2
    | .bk env' => some (.nx env', q.2)
    | .rt d => some (.rt d, q.2)
def sFor (fi : FA) (g : FG) (body : FS) : FS := fun env S => (fi env S).bind fun p => forD g body p.1 env p.2
theorem drop_cons {α : Type} : ∀ {l : List α} {i : Nat} {x : α} {r : List α}, l.drop i = x :: r → l[i]? = some x ∧ l.drop (i + 1) = r
  | [], i, x, r, h => by simp at h
  | y :: l, 0, x, r, h => by
    simp at h
    simp [h]
  | y :: l, i + 1, x, r, h => by
    have := drop_cons (l := l) (i := i) (by simpa using h)
    simpa using this
theorem ss_for {tg iter : Expr} {body : List Stmt} {fi : FA} {g : FG} {fb : FS} (hp : PassesOwn (model X.prog X.w) X.A X.env X.xe) (hc : X.calm = true) (hi : SI ct X tg iter fi) (hg : SG ct X tg g) (hb : SSs ct X body fb)
    (hs : ∀ x, foldedSetIterable iter X.env x = pure x := by intro _; rfl) : SS ct X (.For tg iter body [] pos) (sFor fi g fb) := by
  obtain ⟨wi, pi, ri⟩ := hi
  obtain ⟨tg', pg, rg⟩ := hg
  obtain ⟨tb, pb, rb⟩ := hb
  refine ⟨_, ps_for hp hc pi pg pb hs, fun m F S σ H env fl S' E s en h p => ?_⟩
  obtain ⟨⟨items, S1⟩, h1, h⟩ := bind_some h
  refine ri m F S σ H env items S1 _ s en h1 fun m1 F1 J H1 x1 s1 ok => ?_
  refine ⟨fun i k σ' H' => k = items.length - i ∧ i ≤ items.length ∧ ∃ m' F' env' S2, Ext m1 F1 H1 m' F' H' ∧ Sim X.K ct m' F' S2 H' ∧ EnvR X.K ct m' F' env' σ' ∧ forD g fb (items.drop i) env' S2 = some (fl, S'),
    ⟨_, rfl, Nat.zero_le _, m1, F1, env, S1, Ext.refl _ _ _, s1, en.mono x1, h⟩, ?_⟩
  rintro i k σ' H' ⟨rfl, hle, m', F', env', S2, x', s', en', hf⟩
  have okk := ok i m' F' S2 H' x'.e0 s'
  cases hd : items.drop i with
  | nil =>
    rw [hd] at hf
    cases hf
    have hl : items.length = i := by
      have := congrArg List.length hd
      simp at this
      omega
    exact .inl ⟨okk.2 hl, p m' F' σ' H' (x1.trans x') s' en'⟩
  | cons d r =>
    rw [hd] at hf
    obtain ⟨q1, q2⟩ := drop_cons hd
    have hlt : i < items.length := (List.getElem?_eq_some_iff.mp q1).1
    obtain ⟨⟨env1, S3⟩, h3, hf⟩ := bind_some hf
    obtain ⟨⟨fl4, S4⟩, h4, hf⟩ := bind_some hf
    obtain ⟨go, yl⟩ := okk.1 d q1
    refine .inr ⟨go, fun σ5 H5 => ∃ m5 F5 env5 S5, Ext m1 F1 H1 m5 F5 H5 ∧ Sim X.K ct m5 F5 S5 H5 ∧ EnvR X.K ct m5 F5 env5 σ5 ∧ forD g fb (items.drop (i + 1)) env5 S5 = some (fl, S'), fun σ5 H5 w => ⟨items.length - (i + 1), by omega, rfl, hlt, w⟩, fun x H5 y => ?_⟩
    obtain ⟨F5, x5, s5, r5⟩ := yl x H5 y
    refine rg m' F5 S2 σ' H5 env' d x env1 S3 _ s5 (en'.mono x5) r5 h3 fun m6 F6 σ6 H6 x6 s6 en6 => ?_
    refine rb m6 F6 S3 σ6 H6 env1 fl4 S4 _ s6 en6 h4 ?_
    have xx : Ext m1 F1 H1 m6 F6 H6 := (x'.trans x5).trans x6
    cases fl4 with
    | nx env7 => exact fun m7 F7 σ7 H7 x7 s7 en7 => ⟨m7, F7, env7, S4, xx.trans x7, s7, en7, by rw [q2]; exact hf⟩
    | ct env7 => exact fun m7 F7 σ7 H7 x7 s7 en7 => ⟨m7, F7, env7, S4, xx.trans x7, s7, en7, by rw [q2]; exact hf⟩
    | bk env7 => cases hf; exact fun m7 F7 σ7 H7 x7 s7 en7 => p m7 F7 σ7 H7 (x1.trans (xx.trans x7)) s7 en7
    | rt d7 => cases hf; exact fun m7 F7 v7 H7 x7 s7 r7 => p m7 F7 v7 H7 (x1.trans (xx.trans x7)) s7 r7
/-! ## while -/
def whileD (t : FT) (body : FS) : Nat → FS
  | 0, _, _ => none
  | n + 1, env, S => (t env S).bind fun p => if p.1 = true then (body env p.2).bind fun q => match q.1 with
      | .nx env' => whileD t body n env' q.2
      | .ct env' => whileD t body n env' q.2
      | .bk env' => some (.nx env', q.2)
      | .rt d => some (.rt d, q.2)
    else some (.nx env, p.2)
theorem ss_while {body : List Stmt} {fb : FS} (n : Nat) (hp : PassesOwn (model X.prog X.w) X.A X.env X.xe) (hc : ST ct X c ga) (hb : SSs ct X body fb) : SS ct X (.While c body [] pos) (whileD ga fb n) := by
  obtain ⟨tc, pc, rc⟩ := hc
  obtain ⟨tb, pb, rb⟩ := hb
  refine ⟨_, ps_while hp pc pb, fun m F S σ H env fl S' E s en h p => ?_⟩
  refine ⟨fun k σ' H' => ∃ m' F' env' S2, Ext m F H m' F' H' ∧ Sim X.K ct m' F' S2 H' ∧ EnvR X.K ct m' F' env' σ' ∧ whileD ga fb k env' S2 = some (fl, S'), ⟨n, m, F, env, S, Ext.refl _ _ _, s, en, h⟩, ?_⟩
  rintro k σ' H' ⟨m', F', env', S2, x', s', en', hf⟩
  cases k with
  | zero => cases hf
  | succ k =>
    obtain ⟨⟨b1, S3⟩, h3, hf⟩ := bind_some hf
    refine rc m' F' S2 σ' H' env' b1 S3 _ s' en' h3 fun m3 F3 H3 x3 s3 => ?_
    cases b1 with
    | true =>
      obtain ⟨⟨fl4, S4⟩, h4, hf⟩ := bind_some (show (fb env' S3).bind _ = _ from hf)
      refine iteT ⟨fun σ5 H5 => ∃ m5 F5 env5 S5, Ext m F H m5 F5 H5 ∧ Sim X.K ct m5 F5 S5 H5 ∧ EnvR X.K ct m5 F5 env5 σ5 ∧ whileD ga fb k env5 S5 = some (fl, S'), fun σ5 H5 w => ⟨k, Nat.lt_succ_self _, w⟩, ?_⟩
      refine rb m3 F3 S3 σ' H3 env' fl4 S4 _ s3 (en'.mono x3) h4 ?_
      cases fl4 with
      | nx env7 => exact fun m7 F7 σ7 H7 x7 s7 en7 => ⟨m7, F7, env7, S4, (x'.trans x3).trans x7, s7, en7, hf⟩
      | ct env7 => exact fun m7 F7 σ7 H7 x7 s7 en7 => ⟨m7, F7, env7, S4, (x'.trans x3).trans x7, s7, en7, hf⟩
      | bk env7 => cases hf; exact fun m7 F7 σ7 H7 x7 s7 en7 => p m7 F7 σ7 H7 ((x'.trans x3).trans x7) s7 en7
      | rt d7 => cases hf; exact fun m7 F7 v7 H7 x7 s7 r7 => p m7 F7 v7 H7 ((x'.trans x3).trans x7) s7 r7
    | false =>
      cases hf
      exact iteF (p m3 F3 σ' H3 (x'.trans x3) s3 (en'.mono x3))
/-! ## the body of a def, calls of defs -/
def runD (n : Nat) (g : FS) : FD := fun ds S => (g (ds.map some ++ List.replicate (n - ds.length) none) S).bind fun p => match p.1 with
  | .rt d => some (d, p.2)
  | .nx _ => some (.non, p.2)
  | _ => none
def spD (K : PySem.W.Frag) (ct : CT) (n : Nat) (g : FD) : Sp := fun vs H Q _ => vs.length = n ∧ ∃ m F S ds d S', Sim K ct m F S H ∧ Reps K ct m F ds vs ∧ g ds S = some (d, S') ∧ PostE ct K m F H S' d Q
end
section
variable {P : Program} {w : World} {K : PySem.W.Frag} {mg : Str → Option Value} {base : Heap} {ct : CT}
theorem def_ok {x qual : Str} {st : Stmt} {f : Addr} {fd : FuncData} {N ps : List Str} {k : Nat} {g : FS} (F : Fun K x qual st f fd) (S : FnScope N ps (defScope st))
    (hbody : ∀ (cdv : Value) (A : Around) (outer : List Env) (s : Shared) (H : Hp) (E : XK), RoomG k (A.deeper (envOfC qual (defScope st) s.heap.objs.size f cdv)) →
      SSs ct (cxOf CX0 P w K mg base N qual (defScope st) f cdv A outer s H E).nox (defBody st) g) : FnG P w K mg base (k + 1) f fd ps (spD K ct ps.length (runD N.length g)) := by
  refine funG F S (fun vs H Q E h => h.1) (fun cdv A outer s H vs Q E hr h => ?_)
  obtain ⟨hl, m, F', S0, ds, d, S', sim, reps, hg, post⟩ := h
  obtain ⟨t, pt, rt⟩ := hbody cdv A outer s H E hr
  refine ⟨t, pt, ?_⟩
  obtain ⟨⟨fl, S1⟩, h1, h2⟩ := bind_some hg
  refine rt m F' S0 _ H _ fl S1 _ sim ?_ h1 ?_
  · have hl2 := reps.length
    refine ⟨by simp [L2.start, hl2], fun i e he => ?_⟩
    by_cases hi : i < ds.length
    · rw [List.getElem?_append_left (by simpa using hi)] at he
      simp at he
      obtain ⟨v, q1, q2⟩ := reps.get (i := i) (d := e) (by simpa using he)
      refine ⟨v, ?_, q2⟩
      unfold L2.start
      rw [List.getElem?_append_left (by simpa [← hl2] using hi)]
      simp [q1]
    · rw [List.getElem?_append_right (by simpa using hi)] at he
      have := List.mem_of_getElem? he
      simp at this
  · cases fl with
    | rt d1 => cases h2; exact fun m' F1 v H' x1 s1 r1 => post m' F1 v H' x1 s1 r1
    | nx env1 => cases h2; exact fun m' F1 σ1 H' x1 s1 r1 => post m' F1 .non H' x1 s1 rfl
    | bk env1 => cases h2
    | ct env1 => cases h2
end
section
variable {ct : CT} {X : Cx} {e : Expr} {es : List Expr} {fas : FA} {x : Str} {p pos : Pos}
theorem se_call {k n : Nat} {f : Addr} {fd : FuncData} {ps : List Str} {g : FD} (F : FnG X.prog X.w X.K X.mg X.base k f fd ps (spD X.K ct n g)) (hr : RoomG k X.A) (hg : Gl X x) (hm : X.mg x = some (.ref f)) (hk : PySem.W.keepIn X.K (.ref f) = true) (hb : Binds X.K fd ps [])
    (ha : SA ct X (e :: es) fas) (hn : ∀ env S ds S', fas env S = some (ds, S') → ds.length = n) (hdb : (x == ("__debug__" : Str)) = false := by decide) (he : starEach (e :: es) X.env = (false, eval e X.env) :: starEach es X.env := by rfl) (hpl : (backTo pos (starEach es X.env)).any (·.1) = false := by rfl) :
    SE ct X (.Call (.Name x p) (e :: es) [] pos) (fCall g fas) := by
  obtain ⟨ta, pa, ra⟩ := ha
  refine ⟨_, pe_callG (E := fun _ _ _ => False) F hr hg hm hk hb .nil pa hdb he hpl, fun m F S σ H env d S' Q s en h p => ?_⟩
  obtain ⟨⟨xs, S1⟩, h1, h⟩ := bind_some h
  refine ra m F S σ H env xs S1 _ s en h1 fun m1 F1 vs H1 x1 s1 r1 => ?_
  rw [List.append_nil]
  exact ⟨by rw [← r1.length]; exact hn _ _ _ _ h1, m1, F1, S1, xs, d, S', s1, r1, h, p.ext x1⟩
theorem fNil_len {env : DEnv} {S S' : Sto} {ds : List D} (h : fNil env S = some (ds, S')) : ds.length = 0 := by cases h; rfl
theorem fCons_len {f : FE} {fs : FA} {n : Nat} (hn : ∀ env S ds S', fs env S = some (ds, S') → ds.length = n) : ∀ env S ds S', fCons f fs env S = some (ds, S') → ds.length = n + 1 := fun env S ds S' h => by
  obtain ⟨⟨x, S1⟩, h1, h⟩ := bind_some h
  obtain ⟨⟨y, S2⟩, h2, h⟩ := bind_some h
  cases h
  simp [hn _ _ _ _ h2]
end
end DL

namespace DL
open PySem PySem.Spec PyProof.Rows L2
theorem line_eq : sizeLine = 16777216 := sizeLine_eq
/-! ## operators at data -/
section
variable {ct : CT} {K : PySem.W.Frag}
/-- an operator of two ints -/
def gI (C : Int → Int → Bool) (k : Int → Int → D) : D → D → Sto → Option (D × Sto)
  | .int i, .int j, S => if C i j = true then some (k i j, S) else none
  | _, _, _ => none
theorem od_I {C : Int → Int → Bool} {C' : Int → Int → Prop} {k : Int → Int → D} {g : Int → Int → V} (hC : ∀ i j, C i j = true → C' i j) (hk : ∀ m F i j, Rep K ct m F (k i j) (g i j)) : OpD ct K (rI C' g) (gI C k) := by
  intro m F S H x y dx dy d S' Q s rx ry h p
  unfold gI at h
  split at h
  · rename_i i j
    split at h
    · rename_i hc
      cases h
      have rx : x = .int i := rx
      have ry : y = .int j := ry
      exact ⟨i, j, rx, ry, hC _ _ hc, p.now s (hk m F i j)⟩
    · cases h
  · cases h
def gI0 (k : Int → Int → D) : D → D → Sto → Option (D × Sto)
  | .int i, .int j, S => some (k i j, S)
  | _, _, _ => none
theorem od_I0 {k : Int → Int → D} {g : Int → Int → V} (hk : ∀ m F i j, Rep K ct m F (k i j) (g i j)) : OpD ct K (rI0 g) (gI0 k) := by
  intro m F S H x y dx dy d S' Q s rx ry h p
  unfold gI0 at h
  split at h
  · rename_i i j
    cases h
    have rx : x = .int i := rx
    have ry : y = .int j := ry
    exact ⟨i, j, rx, ry, p.now s (hk m F i j)⟩
  · cases h
abbrev gSubI := gI0 fun i j => .int (i - j)
theorem od_sub : OpD ct K (rI0 fun i j => .int (i - j)) gSubI := od_I0 fun _ _ _ _ => rfl
def smallI (i : Int) : Bool := decide (i.natAbs.log2 < 400000)
abbrev gMul := gI (fun i j => smallI i && smallI j) fun i j => .int (i * j)
theorem od_mul : OpD ct K (rI CMulW fun i j => .int (i * j)) gMul := od_I (fun i j h => by
  simp only [smallI, Bool.and_eq_true, decide_eq_true_eq] at h
  show i.natAbs.log2 + j.natAbs.log2 < 1000000
  omega) fun _ _ _ _ => rfl
abbrev gFdiv := gI (fun _ j => decide (0 < j) && decide (j.natAbs.log2 < 9000)) fun i j => .int (i / j)
theorem od_fdiv : OpD ct K (rI CDivW fun i j => .int (i / j)) gFdiv := od_I (fun i j h => by
  simp only [Bool.and_eq_true, decide_eq_true_eq] at h
  exact h) fun _ _ _ _ => rfl
abbrev gMod := gI (fun _ j => decide (0 < j)) fun i j => .int (i % j)
theorem od_mod : OpD ct K (rI (fun _ j => 0 < j) fun i j => .int (i % j)) gMod := od_I (fun i j h => of_decide_eq_true h) fun _ _ _ _ => rfl
abbrev gPow := gI (fun i j => decide (0 ≤ j) && decide (j ≤ 1000000) && decide (i.natAbs < 18446744073709551616)) fun i j => .int (i ^ j.toNat)
theorem od_pow : OpD ct K (rI CPow fun i j => .int (i ^ j.toNat)) gPow := od_I (fun i j h => by
  simp only [Bool.and_eq_true, decide_eq_true_eq] at h
  exact ⟨h.1.1, h.1.2, h.2⟩) fun _ _ _ _ => rfl
abbrev gShl := gI (fun i j => decide (0 ≤ j) && decide (j ≤ 1000000) && decide (i.natAbs < 18446744073709551616)) fun i j => .int (i * 2 ^ j.toNat)
theorem od_shl : OpD ct K (rI CPow fun i j => .int (i * 2 ^ j.toNat)) gShl := od_I (fun i j h => by
  simp only [Bool.and_eq_true, decide_eq_true_eq] at h
  exact ⟨h.1.1, h.1.2, h.2⟩) fun _ _ _ _ => rfl
abbrev gShr := gI (fun _ j => decide (0 ≤ j)) fun i j => .int (i / 2 ^ j.toNat)
theorem od_shr : OpD ct K (rI (fun _ j => 0 ≤ j) fun i j => .int (i / 2 ^ j.toNat)) gShr := od_I (fun i j h => of_decide_eq_true h) fun _ _ _ _ => rfl
abbrev gAndI := gI0 fun i j => .int (Builtin.bitAnd i j)
theorem od_and : OpD ct K (rI0 fun i j => .int (Builtin.bitAnd i j)) gAndI := od_I0 fun _ _ _ _ => rfl
abbrev gOrI := gI0 fun i j => .int (Builtin.bitOr i j)
theorem od_or : OpD ct K (rI0 fun i j => .int (Builtin.bitOr i j)) gOrI := od_I0 fun _ _ _ _ => rfl
abbrev gLt := gI0 fun i j => .bl (decide (i < j))
abbrev gLe := gI0 fun i j => .bl (decide (i ≤ j))
abbrev gGt := gI0 fun i j => .bl (decide (j < i))
abbrev gGe := gI0 fun i j => .bl (decide (j ≤ i))
theorem od_lt : OpD ct K (rI0 fun i j => .bl (decide (i < j))) gLt := od_I0 fun _ _ _ _ => rfl
theorem od_le : OpD ct K (rI0 fun i j => .bl (decide (i ≤ j))) gLe := od_I0 fun _ _ _ _ => rfl
theorem od_gt : OpD ct K (rI0 fun i j => .bl (decide (j < i))) gGt := od_I0 fun _ _ _ _ => rfl
theorem od_ge : OpD ct K (rI0 fun i j => .bl (decide (j ≤ i))) gGe := od_I0 fun _ _ _ _ => rfl
/-! + of ints, texts, lists -/
def gAdd : D → D → Sto → Option (D × Sto)
  | .int i, .int j, S => some (.int (i + j), S)
  | .str x, .str y, S => if x.length + y.length ≤ 16777216 then some (.str (x ++ y), S) else none
  | .lst a, .lst b, S => if a.length + b.length ≤ 16777216 then some (.lst (a ++ b), S) else none
  | _, _, _ => none
def rAddAll : R2 := fun x y H Q => rI0 (fun i j => .int (i + j)) x y H Q ∨ ((∃ i j, x = .str i ∧ y = .str j ∧ i.length + j.length ≤ sizeLine ∧ Q (.str (i ++ j)) H) ∨ rCat x y H Q)
theorem op_addAll {X : Cx} : OpR X (binaryOp .Add) rAddAll := op_add.or (op_add_str.or op_cat)
theorem od_add : OpD ct K rAddAll gAdd := by
  intro m F S H x y dx dy d S' Q s rx ry h p
  unfold gAdd at h
  split at h
  · rename_i i j
    cases h
    exact .inl ⟨i, j, rx, ry, p.now s rfl⟩
  · rename_i u v
    split at h
    · rename_i hl
      cases h
      exact .inr (.inl ⟨u, v, rx, ry, by rw [line_eq]; exact hl, p.now s rfl⟩)
    · cases h
  · rename_i as bs
    split at h
    · rename_i hl
      cases h
      obtain ⟨a, vs, e1, e2, e3⟩ := rx
      obtain ⟨b, us, f1, f2, f3⟩ := ry
      refine .inr (.inr ⟨a, b, vs, us, e1, f1, s.same _ _ e2, s.same _ _ f2, by rw [line_eq, ← e3.length, ← f3.length]; exact hl, fun q hq => ?_⟩)
      obtain ⟨s2, x2⟩ := s.frozen hq (.lst (vs ++ us))
      exact p m _ (.ref q) _ x2 s2 ⟨q, _, rfl, upd_same, (e3.append f3).mono x2⟩
    · cases h
  · cases h
/-! == and != -/
mutual
def toP : D → Option PyData
  | .non => some .none
  | .bl b => some (.bool b)
  | .int i => some (.int i)
  | .str x => some (.str x)
  | .tup ds => (toPs ds).map .tuple
  | .lst ds => (toPs ds).map .list
  | .scr ns => some (.list (ns.map .int))
  | _ => none
def toPs : List D → Option (List PyData)
  | [] => some []
  | d :: ds => (toP d).bind fun p => (toPs ds).map fun ps => p :: ps
end
theorem map_some {α β : Type} {o : Option α} {k : α → β} {r : β} (h : o.map k = some r) : ∃ x, o = some x ∧ k x = r := by
  cases o with
  | none => cases h
  | some x => exact ⟨x, rfl, Option.some.inj h⟩
theorem DpAll_ints {H : Hp} (ns : List Int) : DpAll K H (ns.map V.int) (ns.map PyData.int) := by
  induction ns with
  | nil => exact .nil
  | cons n ns ih => exact .cons (.int n) ih
mutual
theorem Rep.dp {m : List Addr} {F H : Hp} (e : Same F H) : ∀ (d : D) (v : V) (p : PyData), Rep K ct m F d v → toP d = some p → Dp K H v p
  | .non, _, _, h, q => by
    have h : _ = _ := h
    subst h
    cases q
    exact .non
  | .bl b, _, _, h, q => by
    have h : _ = _ := h
    subst h
    cases q
    exact .bl b
  | .int b, _, _, h, q => by
    have h : _ = _ := h
    subst h
    cases q
    exact .int b
  | .str b, _, _, h, q => by
    have h : _ = _ := h
    subst h
    cases q
    exact .str b
  | .tup ds, _, _, h, q => by
    obtain ⟨a, vs, e1, e2, e3⟩ := h
    subst e1
    obtain ⟨ps, q1, q2⟩ := map_some (show (toPs ds).map PyData.tuple = _ from q)
    subst q2
    exact .tup (sqT_mono e e2) (Reps.dp e ds vs ps e3 q1)
  | .lst ds, _, _, h, q => by
    obtain ⟨a, vs, e1, e2, e3⟩ := h
    subst e1
    obtain ⟨ps, q1, q2⟩ := map_some (show (toPs ds).map PyData.list = _ from q)
    subst q2
    exact .lst (SqL.of (e _ _ e2)) (Reps.dp e ds vs ps e3 q1)
  | .scr ns, _, _, h, q => by
    obtain ⟨a, e1, e2⟩ := h
    subst e1
    cases q
    exact .lst (e.seq e2) (DpAll_ints ns)
  | .dct _ _, _, _, _, q => by cases q
  | .ref _, _, _, _, q => by cases q
  | .obj _ _ _, _, _, _, q => by cases q
  | .exc _ _ _, _, _, _, q => by cases q
theorem Reps.dp {m : List Addr} {F H : Hp} (e : Same F H) : ∀ (ds : List D) (vs : List V) (ps : List PyData), Reps K ct m F ds vs → toPs ds = some ps → DpAll K H vs ps
  | [], _, _, h, q => by
    have h : _ = _ := h
    subst h
    cases q
    exact .nil
  | d :: ds, _, _, h, q => by
    obtain ⟨v, r, e1, e2, e3⟩ := h
    subst e1
    obtain ⟨p, q1, q⟩ := bind_some (show (toP d).bind _ = _ from q)
    obtain ⟨ps, q2, q3⟩ := map_some q
    subst q3
    exact .cons (Rep.dp e d v p e2 q1) (Reps.dp e ds r ps e3 q2)
end
def eqDeep (neg : Bool) (dx dy : D) : Option D := (toP dx).bind fun p => (toP dy).bind fun q => if SeqAt.shaped p = true ∧ SeqAt.shaped q = true then some (.bl (if neg then !PyData.eqv p q else PyData.eqv p q)) else none
def gEq : D → D → Sto → Option (D × Sto)
  | .int i, .int j, S => some (.bl (decide (i = j)), S)
  | .str i, .str j, S => some (.bl (decide (i = j)), S)
  | .bl i, .bl j, S => some (.bl (decide (i = j)), S)
  | dx, dy, S => (eqDeep false dx dy).map fun d => (d, S)
def gNe : D → D → Sto → Option (D × Sto)
  | .int i, .int j, S => some (.bl (!decide (i = j)), S)
  | .str i, .str j, S => some (.bl (!decide (i = j)), S)
  | .bl i, .bl j, S => some (.bl (!decide (i = j)), S)
  | dx, dy, S => (eqDeep true dx dy).map fun d => (d, S)
def rEqAll (K : PySem.W.Frag) : R2 := fun x y H Q => rEq x y H Q ∨ rEqD K x y H Q
def rNeAll (K : PySem.W.Frag) : R2 := fun x y H Q => rNe x y H Q ∨ rNeD K x y H Q
theorem op_eqAll {X : Cx} {k : Nat} (hr : RoomG k X.A) : OpR X (compareOp .Eq) (rEqAll X.K) := op_eq.or (op_eqD hr.units)
theorem op_neAll {X : Cx} {k : Nat} (hr : RoomG k X.A) : OpR X (compareOp .NotEq) (rNeAll X.K) := op_ne.or (op_neD hr.units)
theorem dec_eq {α : Type} [DecidableEq α] {f : α → V} (hf : ∀ a b, f a = f b → a = b) (i j : α) : decide (f i = f j) = decide (i = j) := by
  by_cases h : i = j
  · subst h; simp
  · rw [decide_eq_false h, decide_eq_false fun q => h (hf _ _ q)]
theorem od_eq : OpD ct K (rEqAll K) gEq := by
  intro m F S H x y dx dy d S' Q s rx ry h p
  unfold gEq at h
  split at h
  · rename_i i j
    cases h
    have rx : x = .int i := rx
    have ry : y = .int j := ry
    subst rx ry
    exact .inl ⟨rfl, by rw [dec_eq (fun _ _ q => V.int.inj q)]; exact p.now s rfl⟩
  · rename_i i j
    cases h
    have rx : x = .str i := rx
    have ry : y = .str j := ry
    subst rx ry
    exact .inl ⟨rfl, by rw [dec_eq (fun _ _ q => V.str.inj q)]; exact p.now s rfl⟩
  · rename_i i j
    cases h
    have rx : x = .bl i := rx
    have ry : y = .bl j := ry
    subst rx ry
    exact .inl ⟨rfl, by rw [dec_eq (fun _ _ q => V.bl.inj q)]; exact p.now s rfl⟩
  · obtain ⟨z, h1, h2⟩ := map_some h
    cases h2
    obtain ⟨u, g1, h⟩ := bind_some h1
    obtain ⟨w, g2, h⟩ := bind_some h
    split at h
    · rename_i hs
      cases h
      exact .inr ⟨u, w, Rep.dp s.same dx x u rx g1, Rep.dp s.same dy y w ry g2, hs.1, hs.2, p.now s rfl⟩
    · cases h
theorem od_ne : OpD ct K (rNeAll K) gNe := by
  intro m F S H x y dx dy d S' Q s rx ry h p
  unfold gNe at h
  split at h
  · rename_i i j
    cases h
    have rx : x = .int i := rx
    have ry : y = .int j := ry
    subst rx ry
    exact .inl ⟨rfl, by rw [dec_eq (fun _ _ q => V.int.inj q)]; exact p.now s rfl⟩
  · rename_i i j
    cases h
    have rx : x = .str i := rx
    have ry : y = .str j := ry
    subst rx ry
    exact .inl ⟨rfl, by rw [dec_eq (fun _ _ q => V.str.inj q)]; exact p.now s rfl⟩
  · rename_i i j
    cases h
    have rx : x = .bl i := rx
    have ry : y = .bl j := ry
    subst rx ry
    exact .inl ⟨rfl, by rw [dec_eq (fun _ _ q => V.bl.inj q)]; exact p.now s rfl⟩
  · obtain ⟨z, h1, h2⟩ := map_some h
    cases h2
    obtain ⟨u, g1, h⟩ := bind_some h1
    obtain ⟨w, g2, h⟩ := bind_some h
    split at h
    · rename_i hs
      cases h
      exact .inr ⟨u, w, Rep.dp s.same dx x u rx g1, Rep.dp s.same dy y w ry g2, hs.1, hs.2, p.now s rfl⟩
    · cases h
/-! is None -/
def isNonD : D → Bool
  | .non => true
  | _ => false
theorem Rep.isNon {m : List Addr} {F : Hp} {d : D} {v : V} (r : Rep K ct m F d v) : decide (v = .non) = isNonD d := by
  cases d with
  | non => have r : v = .non := r; subst r; rfl
  | bl b => have r : v = _ := r; subst r; rfl
  | int b => have r : v = _ := r; subst r; rfl
  | str b => have r : v = _ := r; subst r; rfl
  | tup ds => obtain ⟨a, vs, e1, _⟩ := r; subst e1; rfl
  | lst ds => obtain ⟨a, vs, e1, _⟩ := r; subst e1; rfl
  | dct ks ds => obtain ⟨a, vs, e1, _⟩ := r; subst e1; rfl
  | scr ds => obtain ⟨a, e1, _⟩ := r; subst e1; rfl
  | ref i => obtain ⟨a, _, e1⟩ := r; subst e1; rfl
  | obj c fs ds => obtain ⟨a, C, dx, vs, e1, _⟩ := r; subst e1; rfl
  | exc c fs ds => obtain ⟨a, C, dx, vs, e1, _⟩ := r; subst e1; rfl
def gIsN : D → D → Sto → Option (D × Sto)
  | x, .non, S => some (.bl (isNonD x), S)
  | _, _, _ => none
def gNotN : D → D → Sto → Option (D × Sto)
  | x, .non, S => some (.bl (!isNonD x), S)
  | _, _, _ => none
theorem od_isN : OpD ct K (fun x y H Q => y = .non ∧ Q (.bl (decide (x = .non))) H) gIsN := by
  intro m F S H x y dx dy d S' Q s rx ry h p
  unfold gIsN at h
  split at h
  · cases h
    exact ⟨ry, by rw [rx.isNon]; exact p.now s rfl⟩
  · cases h
theorem od_notN : OpD ct K (fun x y H Q => y = .non ∧ Q (.bl (!decide (x = .non))) H) gNotN := by
  intro m F S H x y dx dy d S' Q s rx ry h p
  unfold gNotN at h
  split at h
  · cases h
    exact ⟨ry, by rw [rx.isNon]; exact p.now s rfl⟩
  · cases h
/-! in: flat items of a list or a tuple; a text in a text -/
def flatD : D → Bool
  | .non => true
  | .bl _ => true
  | .int _ => true
  | .str _ => true
  | _ => false
def eqF : D → D → Bool
  | .non, .non => true
  | .bl a, .bl b => a == b
  | .bl a, .int b => (if a then 1 else 0) == b
  | .int a, .bl b => a == (if b then 1 else 0)
  | .int a, .int b => a == b
  | .str a, .str b => a == b
  | _, _ => false
def vOf : D → V
  | .bl b => .bl b
  | .int b => .int b
  | .str b => .str b
  | _ => .non
theorem Rep.flat {m : List Addr} {F : Hp} {d : D} {v : V} (r : Rep K ct m F d v) (h : flatD d = true) : v = vOf d ∧ flatV v = true := by
  cases d with
  | non => have r : v = _ := r; subst r; exact ⟨rfl, rfl⟩
  | bl b => have r : v = _ := r; subst r; exact ⟨rfl, rfl⟩
  | int b => have r : v = _ := r; subst r; exact ⟨rfl, rfl⟩
  | str b => have r : v = _ := r; subst r; exact ⟨rfl, rfl⟩
  | _ => cases h
theorem eqV_eqF {a b : D} (ha : flatD a = true) (hb : flatD b = true) : eqV (vOf a) (vOf b) = eqF a b := by
  cases a <;> cases ha <;> cases b <;> cases hb <;> rfl
theorem Reps.flat {m : List Addr} {F : Hp} : ∀ {ds : List D} {vs : List V}, Reps K ct m F ds vs → ds.all flatD = true → vs = ds.map vOf ∧ vs.all flatV = true
  | [], _, r, _ => by have r : _ = _ := r; subst r; exact ⟨rfl, rfl⟩
  | d :: ds, _, r, h => by
    obtain ⟨v, vr, e1, e2, e3⟩ := r
    subst e1
    simp only [List.all_cons, Bool.and_eq_true] at h
    obtain ⟨q1, q2⟩ := e2.flat h.1
    obtain ⟨q3, q4⟩ := Reps.flat e3 h.2
    exact ⟨by rw [q1, q3]; rfl, by simp only [List.all_cons, q2, q4]; rfl⟩
theorem inV_eq {x : D} (hx : flatD x = true) : ∀ ds : List D, ds.all flatD = true → inV (vOf x) (ds.map vOf) = ds.any fun z => eqF z x
  | [], _ => rfl
  | d :: ds, h => by
    simp only [List.all_cons, Bool.and_eq_true] at h
    have ih := inV_eq hx ds h.2
    unfold inV at ih ⊢
    simp only [List.map_cons, List.any_cons, ih, eqV_eqF h.1 hx]
def inSeq (neg : Bool) (x : D) (ds : List D) (S : Sto) : Option (D × Sto) := if flatD x = true ∧ ds.all flatD = true then some (.bl (if neg then !ds.any (fun z => eqF z x) else ds.any fun z => eqF z x), S) else none
def gInB (neg : Bool) : D → D → Sto → Option (D × Sto)
  | x, .tup ds, S => inSeq neg x ds S
  | x, .lst ds, S => inSeq neg x ds S
  | .str x, .str y, S => some (.bl (if neg then !(!(Builtin.Str.occurrences y x 0 y.length 1).isEmpty) else !(Builtin.Str.occurrences y x 0 y.length 1).isEmpty), S)
  | _, _, _ => none
abbrev gIn := gInB false
abbrev gNotIn := gInB true
def rInAll (K : PySem.W.Frag) : R2 := fun x y H Q => rIn K false x y H Q ∨ ∃ i j, x = .str i ∧ y = .str j ∧ Q (.bl (!(Builtin.Str.occurrences j i 0 j.length 1).isEmpty)) H
def rNotInAll (K : PySem.W.Frag) : R2 := fun x y H Q => rIn K true x y H Q ∨ ∃ i j, x = .str i ∧ y = .str j ∧ Q (.bl (!(!(Builtin.Str.occurrences j i 0 j.length 1).isEmpty))) H
theorem op_inAll {X : Cx} : OpR X (compareOp .In) (rInAll X.K) := op_in_seq.or op_in_str
theorem op_notInAll {X : Cx} : OpR X (compareOp .NotIn) (rNotInAll X.K) := op_notIn_seq.or op_notIn_str
theorem in_seq {neg : Bool} {m : List Addr} {F H : Hp} {S S' : Sto} {x y : V} {dx d : D} {ds : List D} {Q : VK} {a : Addr} {vs : List V} (s : Sim K ct m F S H) (rx : Rep K ct m F dx x) (e1 : y = .ref a) (e2 : SqL K H a vs ∨ SqT K H a vs) (e3 : Reps K ct m F ds vs)
    (h : inSeq neg dx ds S = some (d, S')) (p : PostE ct K m F H S' d Q) : rIn K neg x y H Q := by
  unfold inSeq at h
  split at h
  · rename_i hf
    cases h
    obtain ⟨q1, q2⟩ := rx.flat hf.1
    obtain ⟨q3, q4⟩ := e3.flat hf.2
    refine ⟨a, vs, e1, e2, q2, q4, ?_⟩
    rw [q1, q3, inV_eq hf.1 _ hf.2]
    exact p.now s rfl
  · cases h
theorem od_in : OpD ct K (rInAll K) gIn := by
  intro m F S H x y dx dy d S' Q s rx ry h p
  unfold gIn gInB at h
  split at h
  · obtain ⟨a, vs, e1, e2, e3⟩ := ry
    exact .inl (in_seq s rx e1 (.inr (sqT_mono s.same e2)) e3 h p)
  · obtain ⟨a, vs, e1, e2, e3⟩ := ry
    exact .inl (in_seq s rx e1 (.inl (SqL.of (s.same _ _ e2))) e3 h p)
  · cases h
    exact .inr ⟨_, _, rx, ry, p.now s rfl⟩
  · cases h
theorem od_notIn : OpD ct K (rNotInAll K) gNotIn := by
  intro m F S H x y dx dy d S' Q s rx ry h p
  unfold gNotIn gInB at h
  split at h
  · obtain ⟨a, vs, e1, e2, e3⟩ := ry
    exact .inl (in_seq s rx e1 (.inr (sqT_mono s.same e2)) e3 h p)
  · obtain ⟨a, vs, e1, e2, e3⟩ := ry
    exact .inl (in_seq s rx e1 (.inl (SqL.of (s.same _ _ e2))) e3 h p)
  · cases h
    exact .inr ⟨_, _, rx, ry, p.now s rfl⟩
  · cases h
/-! subscripts -/
def gIx : D → D → Sto → Option (D × Sto)
  | .tup ds, .int i, S => (atI ds i).map fun d => (d, S)
  | .lst ds, .int i, S => (atI ds i).map fun d => (d, S)
  | .scr ns, .int i, S => (atI ns i).map fun n => (.int n, S)
  | .str z, .int i, S => if z.length ≤ 16777216 then (atI z.cps.toList i).map fun c => (.str ⟨#[c]⟩, S) else none
  | .ref k, .int i, S => match S[k]? with
    | some (.lst ds) => (atI ds i).map fun d => (d, S)
    | _ => none
  | _, _, _ => none
theorem Reps.atI {m : List Addr} {F : Hp} {ds : List D} {vs : List V} {i : Int} {d : D} (r : Reps K ct m F ds vs) (h : atI ds i = some d) : ∃ v, L2.atI vs i = some v ∧ Rep K ct m F d v := by
  unfold L2.atI at h ⊢
  obtain ⟨j, h1, h2⟩ := bind_some h
  obtain ⟨v, q1, q2⟩ := r.get h2
  exact ⟨v, by rw [← r.length, h1]; exact q1, q2⟩
theorem atI_map {α β : Type} {f : α → β} {xs : List α} {i : Int} {x : α} (h : L2.atI xs i = some x) : L2.atI (xs.map f) i = some (f x) := by
  unfold L2.atI at h ⊢
  obtain ⟨j, h1, h2⟩ := bind_some h
  rw [List.length_map, h1]
  simp [h2]
theorem od_ix : OpD ct K (rIx K) gIx := by
  intro m F S H x y dx dy d S' Q s rx ry h p
  unfold gIx at h
  split at h
  · obtain ⟨a, vs, e1, e2, e3⟩ := rx
    obtain ⟨z, h1, h2⟩ := map_some h
    cases h2
    obtain ⟨v, q1, q2⟩ := e3.atI h1
    exact .inr (.inl ⟨a, vs, _, v, e1, ry, sqT_mono s.same e2, q1, p.now s q2⟩)
  · obtain ⟨a, vs, e1, e2, e3⟩ := rx
    obtain ⟨z, h1, h2⟩ := map_some h
    cases h2
    obtain ⟨v, q1, q2⟩ := e3.atI h1
    exact .inl ⟨a, vs, _, v, e1, ry, SqL.of (s.same _ _ e2), q1, p.now s q2⟩
  · obtain ⟨a, e1, e2⟩ := rx
    obtain ⟨z, h1, h2⟩ := map_some h
    cases h2
    exact .inl ⟨a, _, _, .int z, e1, ry, s.same.seq e2, atI_map h1, p.now s rfl⟩
  · split at h
    · rename_i hl
      obtain ⟨z, h1, h2⟩ := map_some h
      cases h2
      exact .inr (.inr ⟨_, _, z, rx, ry, by rw [line_eq]; exact hl, h1, p.now s rfl⟩)
    · cases h
  · split at h
    · rename_i ds hk
      obtain ⟨a, e1, e2⟩ := rx
      obtain ⟨z, h1, h2⟩ := map_some h
      cases h2
      obtain ⟨vs, q1, q2⟩ := s.cell _ a _ e1 hk
      obtain ⟨v, q3, q4⟩ := q2.atI h1
      exact .inl ⟨a, vs, _, v, e2, ry, SqL.of q1, q3, p.now s q4⟩
    · cases h
  · cases h
/-! o[i] = v of a cell -/
def gSetL : D → D → D → Sto → Option Sto
  | .ref k, .int i, v, S => match S[k]? with
    | some (.lst ds) => (ixN ds.length i).map fun j => S.set k (.lst (ds.set j v))
    | _ => none
  | _, _, _, _ => none
theorem sd_list : SetD ct K rSetL gSetL := by
  intro m F S H o i v d1 d2 d3 S' Q s r1 r2 r3 h q
  unfold gSetL at h
  split at h
  · split at h
    · rename_i ds hk
      obtain ⟨j, h1, h2⟩ := map_some h
      subst h2
      obtain ⟨a, e1, e2⟩ := r1
      obtain ⟨vs, q1, q2⟩ := s.cell _ a _ e1 hk
      obtain ⟨s2, x2⟩ := s.change e1 (o := .lst (vs.set j v)) (c := .lst (ds.set j d3)) ⟨_, rfl, q2.set j r3⟩
      exact ⟨a, vs, _, j, e2, r2, q1, by rw [← q2.length]; exact h1, q _ _ _ x2 s2⟩
    · cases h
  · cases h
end
end DL

namespace DL
open PySem PySem.Spec PyProof.Rows L2
section
variable {ct : CT} {K : PySem.W.Frag}
/-! ## built-ins at data -/
def cAbs : FD
  | [.int i], S => some (.int (if i < 0 then -i else i), S)
  | _, _ => none
theorem reps1 {m : List Addr} {F : Hp} {d : D} {xs : List V} (r : Reps K ct m F [d] xs) : ∃ v, xs = [v] ∧ Rep K ct m F d v := by
  obtain ⟨v, r', e1, e2, e3⟩ := r
  have e3 : r' = [] := e3
  subst e3
  exact ⟨v, e1, e2⟩
theorem reps2 {m : List Addr} {F : Hp} {d e : D} {xs : List V} (r : Reps K ct m F [d, e] xs) : ∃ v u, xs = [v, u] ∧ Rep K ct m F d v ∧ Rep K ct m F e u := by
  obtain ⟨v, r', e1, e2, e3⟩ := r
  obtain ⟨u, e4, e5⟩ := reps1 e3
  subst e4
  exact ⟨v, u, e1, e2, e5⟩
theorem cd_abs : CallD ct K (fun xs H Q => ∃ i, xs = [.int i] ∧ Q (.int (if i < 0 then -i else i)) H) cAbs := by
  intro m F S H xs ds d S' Q s r h p
  unfold cAbs at h
  split at h
  · cases h
    obtain ⟨v, e1, e2⟩ := reps1 r
    have e2 : v = _ := e2
    subst e2
    exact ⟨_, e1, p.now s rfl⟩
  · cases h
def cMax2 : FD
  | [.int i, .int j], S => some (.int (if j > i then j else i), S)
  | _, _ => none
def cMin2 : FD
  | [.int i, .int j], S => some (.int (if j < i then j else i), S)
  | _, _ => none
theorem cd_max2 : CallD ct K (fun xs H Q => ∃ i j, xs = [.int i, .int j] ∧ Q (.int (if j > i then j else i)) H) cMax2 := by
  intro m F S H xs ds d S' Q s r h p
  unfold cMax2 at h
  split at h
  · cases h
    obtain ⟨v, u, e1, e2, e3⟩ := reps2 r
    have e2 : v = _ := e2
    have e3 : u = _ := e3
    subst e2 e3
    exact ⟨_, _, e1, p.now s rfl⟩
  · cases h
theorem cd_min2 : CallD ct K (fun xs H Q => ∃ i j, xs = [.int i, .int j] ∧ Q (.int (if j < i then j else i)) H) cMin2 := by
  intro m F S H xs ds d S' Q s r h p
  unfold cMin2 at h
  split at h
  · cases h
    obtain ⟨v, u, e1, e2, e3⟩ := reps2 r
    have e2 : v = _ := e2
    have e3 : u = _ := e3
    subst e2 e3
    exact ⟨_, _, e1, p.now s rfl⟩
  · cases h
/-- int(n), int(flag), int(text) -/
def cInt : FD
  | [.int i], S => some (.int i, S)
  | [.bl b], S => some (.int (if b then 1 else 0), S)
  | [.str x], S => if x.length ≤ 640 then (PySem.intText? x).map fun n => (.int n, S) else none
  | _, _ => none
def rInt : List V → Hp → VK → Prop := fun xs H Q => ((∃ i, xs = [.int i] ∧ Q (.int i) H) ∨ ∃ k, xs = [.bl k] ∧ Q (.int (if k then 1 else 0)) H) ∨ ∃ a n, xs = [.str a] ∧ PySem.intText? a = some n ∧ a.length ≤ 640 ∧ Q (.int n) H
theorem call_intAll {X : Cx} : CallR X (.type "int") rInt := call_int1.or call_int_str
theorem cd_int : CallD ct K rInt cInt := by
  intro m F S H xs ds d S' Q s r h p
  unfold cInt at h
  split at h
  · cases h
    obtain ⟨v, e1, e2⟩ := reps1 r
    have e2 : v = _ := e2
    subst e2
    exact .inl (.inl ⟨_, e1, p.now s rfl⟩)
  · cases h
    obtain ⟨v, e1, e2⟩ := reps1 r
    have e2 : v = _ := e2
    subst e2
    exact .inl (.inr ⟨_, e1, p.now s rfl⟩)
  · split at h
    · rename_i hl
      obtain ⟨n, h1, h2⟩ := map_some h
      cases h2
      obtain ⟨v, e1, e2⟩ := reps1 r
      have e2 : v = _ := e2
      subst e2
      exact .inr ⟨_, n, e1, h1, hl, p.now s rfl⟩
    · cases h
  · cases h
def cStr : FD
  | [.int i], S => if i.natAbs.log2 < 1920 then some (.str (toString i), S) else none
  | _, _ => none
theorem cd_str : CallD ct K (fun xs H Q => ∃ i : Int, xs = [.int i] ∧ i.natAbs.log2 < 1920 ∧ Q (.str (toString i)) H) cStr := by
  intro m F S H xs ds d S' Q s r h p
  unfold cStr at h
  split at h
  · split at h
    · rename_i hl
      cases h
      obtain ⟨v, e1, e2⟩ := reps1 r
      have e2 : v = _ := e2
      subst e2
      exact ⟨_, e1, hl, p.now s rfl⟩
    · cases h
  · cases h
def cLen : FD
  | [.str x], S => if x.length ≤ 16777216 then some (.int x.length, S) else none
  | [.tup ds], S => some (.int ds.length, S)
  | [.lst ds], S => some (.int ds.length, S)
  | [.scr ns], S => some (.int ns.length, S)
  | [.ref k], S => match S[k]? with
    | some (.lst ds) => some (.int ds.length, S)
    | _ => none
  | _, _ => none
def rLenAll (K : PySem.W.Frag) : List V → Hp → VK → Prop := fun xs H Q => (∃ p ys, xs = [.ref p] ∧ (SqL K H p ys ∨ SqT K H p ys) ∧ Q (.int ys.length) H) ∨ ∃ z, xs = [.str z] ∧ z.length ≤ sizeLine ∧ Q (.int z.length) H
theorem call_lenAll {X : Cx} : CallR X (.builtin "len") (rLenAll X.K) := call_len_seq.or call_len_str
theorem cd_len : CallD ct K (rLenAll K) cLen := by
  intro m F S H xs ds d S' Q s r h p
  unfold cLen at h
  split at h
  · split at h
    · rename_i hl
      cases h
      obtain ⟨v, e1, e2⟩ := reps1 r
      have e2 : v = _ := e2
      subst e2
      exact .inr ⟨_, e1, by rw [line_eq]; exact hl, p.now s rfl⟩
    · cases h
  · cases h
    obtain ⟨v, e1, a, vs, e2, e3, e4⟩ := reps1 r
    subst e2
    exact .inl ⟨a, vs, e1, .inr (sqT_mono s.same e3), by rw [← e4.length]; exact p.now s rfl⟩
  · cases h
    obtain ⟨v, e1, a, vs, e2, e3, e4⟩ := reps1 r
    subst e2
    exact .inl ⟨a, vs, e1, .inl (SqL.of (s.same _ _ e3)), by rw [← e4.length]; exact p.now s rfl⟩
  · cases h
    obtain ⟨v, e1, a, e2, e3⟩ := reps1 r
    subst e2
    exact .inl ⟨a, _, e1, .inl (s.same.seq e3), by rw [List.length_map]; exact p.now s rfl⟩
  · split at h
    · rename_i es hk
      cases h
      obtain ⟨v, e1, a, e2, e3⟩ := reps1 r
      subst e3
      obtain ⟨vs, q1, q2⟩ := s.cell _ a _ e2 hk
      exact .inl ⟨a, vs, e1, .inl (SqL.of q1), by rw [← q2.length]; exact p.now s rfl⟩
    · cases h
  · cases h
/-- any, all of a list of bools -/
def asBools : List D → Option (List Bool)
  | [] => some []
  | .bl b :: ds => (asBools ds).map fun bs => b :: bs
  | _ => none
theorem Reps.bools {m : List Addr} {F : Hp} : ∀ {ds : List D} {vs : List V} {bs : List Bool}, Reps K ct m F ds vs → asBools ds = some bs → vs = bs.map V.bl
  | [], _, _, r, h => by
    have r : _ = _ := r
    subst r
    cases h
    rfl
  | .bl b :: ds, _, _, r, h => by
    obtain ⟨v, vr, e1, e2, e3⟩ := r
    obtain ⟨cs, h1, h2⟩ := map_some (show (asBools ds).map _ = _ from h)
    have e2 : v = _ := e2
    subst e1 h2 e2
    rw [Reps.bools e3 h1]
    rfl
  | .non :: ds, _, _, r, h => by cases h
  | .int _ :: ds, _, _, r, h => by cases h
  | .str _ :: ds, _, _, r, h => by cases h
  | .tup _ :: ds, _, _, r, h => by cases h
  | .lst _ :: ds, _, _, r, h => by cases h
  | .dct _ _ :: ds, _, _, r, h => by cases h
  | .scr _ :: ds, _, _, r, h => by cases h
  | .ref _ :: ds, _, _, r, h => by cases h
  | .obj _ _ _ :: ds, _, _, r, h => by cases h
  | .exc _ _ _ :: ds, _, _, r, h => by cases h
def cAny : FD
  | [.lst ds], S => (asBools ds).map fun bs => (.bl (bs.any id), S)
  | _, _ => none
def cAll : FD
  | [.lst ds], S => (asBools ds).map fun bs => (.bl (bs.all id), S)
  | _, _ => none
theorem cd_any : CallD ct K (rAny K) cAny := by
  intro m F S H xs ds d S' Q s r h p
  unfold cAny at h
  split at h
  · obtain ⟨bs, h1, h2⟩ := map_some h
    cases h2
    obtain ⟨v, e1, a, vs, e2, e3, e4⟩ := reps1 r
    subst e2
    have e5 := e4.bools h1
    subst e5
    exact ⟨a, bs, e1, SqL.of (s.same _ _ e3), p.now s rfl⟩
  · cases h
theorem cd_all : CallD ct K (rAll K) cAll := by
  intro m F S H xs ds d S' Q s r h p
  unfold cAll at h
  split at h
  · obtain ⟨bs, h1, h2⟩ := map_some h
    cases h2
    obtain ⟨v, e1, a, vs, e2, e3, e4⟩ := reps1 r
    subst e2
    have e5 := e4.bools h1
    subst e5
    exact ⟨a, bs, e1, SqL.of (s.same _ _ e3), p.now s rfl⟩
  · cases h
/-- ints of a list -/
def asInts : List D → Option (List Int)
  | [] => some []
  | .int b :: ds => (asInts ds).map fun bs => b :: bs
  | _ => none
theorem Reps.asInts {m : List Addr} {F : Hp} : ∀ {ds : List D} {vs : List V} {bs : List Int}, Reps K ct m F ds vs → asInts ds = some bs → vs = bs.map V.int
  | [], _, _, r, h => by
    have r : _ = _ := r
    subst r
    cases h
    rfl
  | .int b :: ds, _, _, r, h => by
    obtain ⟨v, vr, e1, e2, e3⟩ := r
    obtain ⟨cs, h1, h2⟩ := map_some (show (DL.asInts ds).map _ = _ from h)
    have e2 : v = _ := e2
    subst e1 h2 e2
    rw [Reps.asInts e3 h1]
    rfl
  | .non :: ds, _, _, r, h => by cases h
  | .bl _ :: ds, _, _, r, h => by cases h
  | .str _ :: ds, _, _, r, h => by cases h
  | .tup _ :: ds, _, _, r, h => by cases h
  | .lst _ :: ds, _, _, r, h => by cases h
  | .dct _ _ :: ds, _, _, r, h => by cases h
  | .scr _ :: ds, _, _, r, h => by cases h
  | .ref _ :: ds, _, _, r, h => by cases h
  | .obj _ _ _ :: ds, _, _, r, h => by cases h
  | .exc _ _ _ :: ds, _, _, r, h => by cases h
def cSum : FD
  | [.lst ds], S => (asInts ds).map fun bs => (.int bs.sum, S)
  | _, _ => none
theorem cd_sum : CallD ct K (rSum K) cSum := by
  intro m F S H xs ds d S' Q s r h p
  unfold cSum at h
  split at h
  · obtain ⟨bs, h1, h2⟩ := map_some h
    cases h2
    obtain ⟨v, e1, a, vs, e2, e3, e4⟩ := reps1 r
    subst e2
    have e5 := e4.asInts h1
    subst e5
    exact ⟨a, bs, e1, SqL.of (s.same _ _ e3), p.now s rfl⟩
  · cases h
/-- list(xs), list(t) -/
def cList : FD
  | [.lst ds], S => some (.lst ds, S)
  | [.tup ds], S => some (.lst ds, S)
  | _, _ => none
theorem cd_list : CallD ct K (fun xs H Q => ∃ p ys, xs = [.ref p] ∧ (SqL K H p ys ∨ SqT K H p ys) ∧ ∀ l, H l = none → Q (.ref l) (upd H l (.lst ys))) cList := by
  intro m F S H xs ds d S' Q s r h p
  unfold cList at h
  split at h
  · cases h
    obtain ⟨v, e1, a, vs, e2, e3, e4⟩ := reps1 r
    subst e2
    refine ⟨a, vs, e1, .inl (SqL.of (s.same _ _ e3)), fun q hq => ?_⟩
    obtain ⟨s2, x2⟩ := s.frozen hq (.lst vs)
    exact p m _ (.ref q) _ x2 s2 ⟨q, _, rfl, upd_same, e4.mono x2⟩
  · cases h
    obtain ⟨v, e1, a, vs, e2, e3, e4⟩ := reps1 r
    subst e2
    refine ⟨a, vs, e1, .inr (sqT_mono s.same e3), fun q hq => ?_⟩
    obtain ⟨s2, x2⟩ := s.frozen hq (.lst vs)
    exact p m _ (.ref q) _ x2 s2 ⟨q, _, rfl, upd_same, e4.mono x2⟩
  · cases h
/-- tuple(xs) -/
def cTuple : FD
  | [.lst ds], S => some (.tup ds, S)
  | [.tup ds], S => some (.tup ds, S)
  | _, _ => none
theorem cd_tuple : CallD ct K (fun xs H Q => ∃ p ys, xs = [.ref p] ∧ ((SqL K H p ys ∧ ∀ l, H l = none → Q (.ref l) (upd H l (.tup ys))) ∨ (SqT K H p ys ∧ Q (.ref p) H))) cTuple := by
  intro m F S H xs ds d S' Q s r h p
  unfold cTuple at h
  split at h
  · cases h
    obtain ⟨v, e1, a, vs, e2, e3, e4⟩ := reps1 r
    subst e2
    refine ⟨a, vs, e1, .inl ⟨SqL.of (s.same _ _ e3), fun q hq => ?_⟩⟩
    obtain ⟨s2, x2⟩ := s.frozen hq (.tup vs)
    exact p m _ (.ref q) _ x2 s2 ⟨q, _, rfl, SqT.of upd_same, e4.mono x2⟩
  · cases h
    obtain ⟨v, e1, a, vs, e2, e3, e4⟩ := reps1 r
    subst e2
    exact ⟨a, vs, e1, .inr ⟨sqT_mono s.same e3, p.now s ⟨a, vs, rfl, e3, e4⟩⟩⟩
  · cases h
end
/-! ## isinstance with a built-in class -/
section
variable {ct : CT} {X : Cx} {e : Expr} {f : FE}
def isiT : String → D → Option Bool
  | "int", .int _ => some true
  | "int", .bl _ => some true
  | "int", .non => some false
  | "int", .str _ => some false
  | "int", .tup _ => some false
  | "int", .lst _ => some false
  | "int", .dct _ _ => some false
  | "bool", .bl _ => some true
  | "bool", .int _ => some false
  | "bool", .non => some false
  | "bool", .str _ => some false
  | "bool", .tup _ => some false
  | "bool", .lst _ => some false
  | "bool", .dct _ _ => some false
  | "str", .str _ => some true
  | "str", .int _ => some false
  | "str", .bl _ => some false
  | "str", .non => some false
  | "str", .tup _ => some false
  | "str", .lst _ => some false
  | "str", .dct _ _ => some false
  | "tuple", .tup _ => some true
  | "tuple", .int _ => some false
  | "tuple", .bl _ => some false
  | "tuple", .non => some false
  | "tuple", .str _ => some false
  | "tuple", .lst _ => some false
  | "tuple", .dct _ _ => some false
  | _, _ => none
def tyN : D → String
  | .non => "NoneType"
  | .bl _ => "bool"
  | .int _ => "int"
  | .str _ => "str"
  | .tup _ => "tuple"
  | .lst _ => "list"
  | .dct _ _ => "dict"
  | _ => ""
theorem tyX_of {K : PySem.W.Frag} {m : List Addr} {F H : Hp} (e : Same F H) {d : D} {v : V} (r : Rep K ct m F d v) (h : tyN d ≠ "") : TyX K H v (.type (tyN d)) := by
  cases d with
  | non => have r : v = _ := r; subst r; exact .base .non
  | bl b => have r : v = _ := r; subst r; exact .base (.bl b)
  | int b => have r : v = _ := r; subst r; exact .base (.int b)
  | str b => have r : v = _ := r; subst r; exact .base (.str b)
  | tup ds =>
    obtain ⟨a, vs, e1, e2, _⟩ := r
    subst e1
    rcases sqT_mono e e2 with (q | ⟨o, q⟩) | ⟨o, its, n, q1, q2, _⟩
    · exact .base (.tup q)
    · exact .fTuple q
    · exact .kTuple q1 q2
  | lst ds =>
    obtain ⟨a, vs, e1, e2, _⟩ := r
    subst e1
    exact .base (.lst (e _ _ e2))
  | dct ks ds =>
    obtain ⟨a, vs, e1, e2, _⟩ := r
    subst e1
    exact .base (.dK (e _ _ e2))
  | scr _ => exact absurd rfl h
  | ref _ => exact absurd rfl h
  | obj _ _ _ => exact absurd rfl h
  | exc _ _ _ => exact absurd rfl h
theorem isiT_kit {T : String} {d : D} {b : Bool} (h : isiT T d = some b) : kitB (tyN d) T = some b ∧ tyN d ≠ "" := by
  unfold isiT at h
  split at h <;> first
    | (cases h; refine ⟨?_, ?_⟩ <;> (dsimp only [tyN]; decide +kernel))
    | cases h
def fIsi (T : String) (f : FE) : FE := fun env S => (f env S).bind fun p => (isiT T p.1).map fun b => (.bl b, p.2)
theorem se_isi {T : String} {x : Str} {p q pos : Pos} (hg : Gl X "isinstance") (hm : X.mg "isinstance" = none) (he : SE ct X e f) (hg2 : Gl X x) (hm2 : X.mg x = none) (hv2 : bootBuiltins x = some (.type T)) (hn2 : x ≠ "__name__" := by decide) (hd2 : (x == ("__debug__" : Str)) = false := by decide)
    (hs : starEach [e, .Name x q] X.env = (false, eval e X.env) :: starEach [.Name x q] X.env := by rfl) (hs2 : starEach [.Name x q] X.env = (false, eval (.Name x q) X.env) :: starEach [] X.env := by rfl)
    (hpl : (backTo pos (starEach [.Name x q] X.env)).any (·.1) = false := by rfl) : SE ct X (.Call (.Name "isinstance" p) [e, .Name x q] [] pos) (fIsi T f) := by
  obtain ⟨ta, pa, ra⟩ := he
  refine ⟨_, pe_callB call_isi hg hm (by decide +kernel) (pa_cons pa (pa_cons (pe_bltn (v := .ty T) hg2 hm2 hv2 rfl hn2 hd2) pa_nil hs2) hs) (by decide) (by decide) hs hpl, fun m F S σ H env d S' Q s en h p => ?_⟩
  obtain ⟨⟨z, S1⟩, h1, h⟩ := bind_some h
  obtain ⟨b, h2, h3⟩ := map_some h
  cases h3
  refine ra m F S σ H env z S1 _ s en h1 fun m1 F1 v1 H1 x1 s1 r1 => ?_
  obtain ⟨k1, k2⟩ := isiT_kit h2
  exact ⟨v1, .ty T, .type (tyN z), .type T, b, rfl, .ty T, tyX_of s1.same r1 k2, kit_ty k1, (p.ext x1).now s1 rfl⟩
end
/-! ## slices -/
section
variable {ct : CT} {X : Cx} {a b c e : Expr} {es : List Expr} {fa fb fc f : FE}
abbrev FO := DEnv → Sto → Option (Option Int × Sto)
def SO (ct : CT) (X : Cx) (e : Option Expr) (f : FO) : Prop := ∃ t, PO X e t ∧ ∀ m F S σ H env o S' Q, Sim X.K ct m F S H → EnvR X.K ct m F env σ → f env S = some (o, S') → (∀ m' F' H', Ext m F H m' F' H' → Sim X.K ct m' F' S' H' → Q o H') → t σ H Q
def oNone : FO := fun _ S => some (none, S)
def oSome (f : FE) : FO := fun env S => (f env S).bind fun p => match p.1 with
  | .int i => some (some i, p.2)
  | _ => none
theorem so_none : SO ct X none oNone := ⟨_, po_none, fun m F S σ H env o S' Q s en h q => by
  cases h
  exact q m F H (Ext.refl _ _ _) s⟩
theorem so_some (h : SE ct X e f) : SO ct X (some e) (oSome f) := by
  obtain ⟨ta, pa, ra⟩ := h
  refine ⟨_, po_some pa, fun m F S σ H env o S' Q s en h q => ?_⟩
  obtain ⟨⟨z, S1⟩, h1, h⟩ := bind_some h
  refine ra m F S σ H env z S1 _ s en h1 fun m1 F1 v1 H1 x1 s1 r1 => ?_
  cases z with
  | int i => cases h; exact ⟨i, r1, q m1 F1 H1 x1 s1⟩
  | _ => cases h
def cutD {α : Type} (xs : List α) (lo hi : Option Int) : List α := (xs.drop (HT.sIx xs.length 0 lo)).take (HT.sIx xs.length xs.length hi - HT.sIx xs.length 0 lo)
def gSl : D → Option Int → Option Int → Sto → Option (D × Sto)
  | .lst ds, lo, hi, S => some (.lst (cutD ds lo hi), S)
  | .scr ns, lo, hi, S => some (.lst ((cutD ns lo hi).map .int), S)
  | .tup ds, lo, hi, S => if HT.sIx ds.length 0 lo = 0 ∧ HT.sIx ds.length ds.length hi = ds.length then none else some (.tup (cutD ds lo hi), S)
  | .str z, lo, hi, S => if z.length ≤ 16777216 then some (.str (cutS z lo hi), S) else none
  | _, _, _, _ => none
def rSlAll (K : PySem.W.Frag) : V → Option Int → Option Int → Hp → VK → Prop := fun x lo hi H Q => rSlL K x lo hi H Q ∨ (rSlT K x lo hi H Q ∨ rSlS x lo hi H Q)
theorem sl_all : SlR X (rSlAll X.K) := sl_list.or (sl_tup.or sl_str)
def fSl (fa : FE) (lo hi : FO) : FE := fun env S => (fa env S).bind fun p => (lo env p.2).bind fun q => (hi env q.2).bind fun r => gSl p.1 q.1 r.1 r.2
theorem cutD_reps {K : PySem.W.Frag} {m : List Addr} {F : Hp} {ds : List D} {vs : List V} (r : Reps K ct m F ds vs) (lo hi : Option Int) : Reps K ct m F (cutD ds lo hi) (cutV vs lo hi) := by
  unfold cutD cutV
  rw [← r.length]
  exact (r.drop _).take _
theorem se_slice {lo hi : Option Expr} {fl fh : FO} {p2 pos : Pos} (he : SE ct X a fa) (hl : SO ct X lo fl) (hh : SO ct X hi fh) : SE ct X (.Subscript a (.Slice lo hi none p2) pos) (fSl fa fl fh) := by
  obtain ⟨ta, pa, ra⟩ := he
  obtain ⟨tb, pb, rb⟩ := hl
  obtain ⟨tc, pc, rc⟩ := hh
  refine ⟨_, pe_slice sl_all pa pb pc, fun m F S σ H env d S' Q s en h p => ?_⟩
  obtain ⟨⟨z, S1⟩, h1, h⟩ := bind_some h
  obtain ⟨⟨i, S2⟩, h2, h⟩ := bind_some h
  obtain ⟨⟨j, S3⟩, h3, h⟩ := bind_some h
  refine ra m F S σ H env z S1 _ s en h1 fun m1 F1 v1 H1 x1 s1 r1 => ?_
  refine rb m1 F1 S1 σ H1 env i S2 _ s1 (en.mono x1) h2 fun m2 F2 H2 x2 s2 => ?_
  refine rc m2 F2 S2 σ H2 env j S3 _ s2 ((en.mono x1).mono x2) h3 fun m3 F3 H3 x3 s3 => ?_
  have p3 := ((p.ext x1).ext x2).ext x3
  have r3 := (r1.mono x2).mono x3
  cases z with
  | lst ds =>
    cases h
    obtain ⟨q, vs, e1, e2, e3⟩ := r3
    refine .inl ⟨q, vs, e1, SqL.of (s3.same _ _ e2), fun w hw => ?_⟩
    obtain ⟨s4, x4⟩ := s3.frozen hw (.lst (cutV vs i j))
    exact p3 _ _ (.ref w) _ x4 s4 ⟨w, _, rfl, upd_same, (cutD_reps e3 i j).mono x4⟩
  | scr ns =>
    cases h
    obtain ⟨q, e1, e2⟩ := r3
    refine .inl ⟨q, _, e1, s3.same.seq e2, fun w hw => ?_⟩
    obtain ⟨s4, x4⟩ := s3.frozen hw (.lst (cutV (ns.map V.int) i j))
    refine p3 _ _ (.ref w) _ x4 s4 ⟨w, _, rfl, upd_same, ?_⟩
    have := cutD_reps (K := X.K) (ct := ct) (m := m3) (F := upd F3 w (.lst (cutV (ns.map V.int) i j))) (Reps.ints ns) i j
    have e : cutD (ns.map D.int) i j = (cutD ns i j).map D.int := by
      unfold cutD
      rw [List.length_map, List.map_take, List.map_drop]
    rw [e] at this
    exact this
  | tup ds =>
    have h : (if HT.sIx ds.length 0 i = 0 ∧ HT.sIx ds.length ds.length j = ds.length then none else some (D.tup (cutD ds i j), S3)) = some (d, S') := h
    split at h
    · cases h
    · rename_i hw
      cases h
      obtain ⟨q, vs, e1, e2, e3⟩ := r3
      refine .inr (.inl ⟨q, vs, e1, sqT_mono s3.same e2, by rw [← e3.length]; exact hw, fun w hw => ?_⟩)
      obtain ⟨s4, x4⟩ := s3.frozen hw (.tup (cutV vs i j))
      exact p3 _ _ (.ref w) _ x4 s4 ⟨w, _, rfl, SqT.of upd_same, (cutD_reps e3 i j).mono x4⟩
  | str z =>
    have h : (if z.length ≤ 16777216 then some (D.str (cutS z i j), S3) else none) = some (d, S') := h
    split at h
    · rename_i hl
      cases h
      exact .inr (.inr ⟨_, r3, by rw [line_eq]; exact hl, p3.now s3 rfl⟩)
    · cases h
  | _ => cases h
end
/-! ## what is walked -/
section
variable {ct : CT} {X : Cx} {tg a b c e : Expr} {es : List Expr} {fa fb fc f : FE} {fas : FA}
/-- a list -/
def iLst (f : FE) : FA := fun env S => (f env S).bind fun p => match p.1 with
  | .lst ds => some (ds, p.2)
  | _ => none
theorem si_list (h : SE ct X e f) : SI ct X tg e (iLst f) := by
  obtain ⟨ta, pa, ra⟩ := h
  refine ⟨_, pi_list pa, fun m F S σ H env items S' R s en h p => ?_⟩
  obtain ⟨⟨z, S1⟩, h1, h⟩ := bind_some h
  refine ra m F S σ H env z S1 _ s en h1 fun m1 F1 v1 H1 x1 s1 r1 => ?_
  cases z with
  | lst ds =>
    cases h
    obtain ⟨q, vs, e1, e2, e3⟩ := r1
    refine ⟨q, e1, ⟨vs, SqL.of (s1.same _ _ e2)⟩, p m1 F1 _ H1 x1 s1 fun i m2 F2 S2 H2 x2 s2 => ?_⟩
    have hq : SqL X.K H2 q vs := SqL.of (s2.same _ _ (x2.same _ _ e2))
    refine ⟨fun d hd => ?_, fun hl => ⟨vs, hq, by rw [← e3.length]; omega⟩⟩
    obtain ⟨v, g1, g2⟩ := e3.get hd
    refine ⟨⟨vs, v, hq, g1⟩, fun x H' y => ?_⟩
    obtain ⟨y1, y2⟩ := y
    subst y1
    have := y2 vs hq
    rw [g1] at this
    cases this
    exact ⟨F2, Ext.refl _ _ _, s2, g2.mono0 x2⟩
  | _ => cases h
/-- a tuple -/
def iTup (f : FE) : FA := fun env S => (f env S).bind fun p => match p.1 with
  | .tup ds => some (ds, p.2)
  | _ => none
theorem si_tup (h : SE ct X e f) : SI ct X tg e (iTup f) := by
  obtain ⟨ta, pa, ra⟩ := h
  refine ⟨_, pi_tup pa, fun m F S σ H env items S' R s en h p => ?_⟩
  obtain ⟨⟨z, S1⟩, h1, h⟩ := bind_some h
  refine ra m F S σ H env z S1 _ s en h1 fun m1 F1 v1 H1 x1 s1 r1 => ?_
  cases z with
  | tup ds =>
    cases h
    obtain ⟨q, vs, e1, e2, e3⟩ := r1
    refine ⟨q, e1, ⟨vs, sqT_mono s1.same e2⟩, p m1 F1 _ H1 x1 s1 fun i m2 F2 S2 H2 x2 s2 => ?_⟩
    have hq : SqT X.K H2 q vs := sqT_mono s2.same (sqT_mono x2.same e2)
    refine ⟨fun d hd => ?_, fun hl => ⟨vs, hq, by rw [← e3.length]; omega⟩⟩
    obtain ⟨v, g1, g2⟩ := e3.get hd
    refine ⟨⟨vs, v, hq, g1⟩, fun x H' y => ?_⟩
    obtain ⟨y1, y2⟩ := y
    subst y1
    have := y2 vs hq
    rw [g1] at this
    cases this
    exact ⟨F2, Ext.refl _ _ _, s2, g2.mono0 x2⟩
  | _ => cases h
/-- range(n), range(a, b) -/
def rangeD (lo hi : Int) : List D := (List.range (hi - lo).toNat).map fun (k : Nat) => D.int (lo + k)
def okR (i : Int) : Bool := decide (-4611686018427387904 ≤ i) && decide (i < 4611686018427387904)
def iRange1 (fas : FA) : FA := fun env S => (fas env S).bind fun p => match p.1 with
  | [.int j] => if okR j = true then some (rangeD 0 j, p.2) else none
  | _ => none
def iRange2 (fas : FA) : FA := fun env S => (fas env S).bind fun p => match p.1 with
  | [.int i, .int j] => if okR i = true ∧ okR j = true then some (rangeD i j, p.2) else none
  | _ => none
theorem itr_ok {K : PySem.W.Frag} {m0 : List Addr} {F0 : Hp} (lo hi : Int) {n : Nat} (hn : n = (hi - lo).toNat) : ItOk ct K m0 F0 (rangeD lo hi) (Itr lo n) := by
  subst hn
  intro i m F S H x s
  have hl : (rangeD lo hi).length = (hi - lo).toNat := by simp [rangeD]
  refine ⟨fun d hd => ?_, fun h => ?_⟩
  · have hi : i < (rangeD lo hi).length := (List.getElem?_eq_some_iff.mp hd).1
    rw [hl] at hi
    refine ⟨hi, fun v H' y => ?_⟩
    obtain ⟨y1, y2⟩ := y
    subst y1 y2
    refine ⟨F, Ext.refl _ _ _, s, ?_⟩
    have e : d = .int (lo + i) := by
      unfold rangeD at hd
      rw [List.getElem?_map, List.getElem?_range hi] at hd
      cases hd
      rfl
    subst e
    rfl
  · rw [hl] at h
    show _ ≤ i
    omega
theorem okR_ok {i : Int} (h : okR i = true) : -(2 ^ 62) ≤ i ∧ i < 2 ^ 62 := by
  simp only [okR, Bool.and_eq_true, decide_eq_true_eq] at h
  exact h
theorem si_range1 {p pos : Pos} (hg : Gl X "range") (hm : X.mg "range" = none) (h : SA ct X [a] fas) (hs : starEach [a] X.env = [(false, eval a X.env)] := by rfl) : SI ct X tg (.Call (.Name "range" p) [a] [] pos) (iRange1 fas) := by
  obtain ⟨ta, pa, ra⟩ := h
  refine ⟨_, pi_range1 hg hm pa hs, fun m F S σ H env items S' R s en h p => ?_⟩
  obtain ⟨⟨zs, S1⟩, h1, h⟩ := bind_some h
  refine ra m F S σ H env zs S1 _ s en h1 fun m1 F1 vs H1 x1 s1 r1 => ?_
  split at h
  · rename_i j hz
    have hz : zs = _ := hz
    subst hz
    split at h
    · rename_i hj
      cases h
      obtain ⟨v, e1, e2⟩ := reps1 r1
      have e2 : v = _ := e2
      subst e2
      exact ⟨j, e1, (okR_ok hj).1, (okR_ok hj).2, p m1 F1 _ H1 x1 s1 (itr_ok 0 j (by simp))⟩
    · cases h
  · cases h
theorem si_range2 {p pos : Pos} (hg : Gl X "range") (hm : X.mg "range" = none) (h : SA ct X [a, b] fas) (hs : starEach [a, b] X.env = [(false, eval a X.env), (false, eval b X.env)] := by rfl) (hs2 : starEach [b] X.env = [(false, eval b X.env)] := by rfl) : SI ct X tg (.Call (.Name "range" p) [a, b] [] pos) (iRange2 fas) := by
  obtain ⟨ta, pa, ra⟩ := h
  refine ⟨_, pi_range2 hg hm pa hs hs2, fun m F S σ H env items S' R s en h p => ?_⟩
  obtain ⟨⟨zs, S1⟩, h1, h⟩ := bind_some h
  refine ra m F S σ H env zs S1 _ s en h1 fun m1 F1 vs H1 x1 s1 r1 => ?_
  split at h
  · rename_i i j hz
    have hz : zs = _ := hz
    subst hz
    split at h
    · rename_i hj
      cases h
      obtain ⟨v, u, e1, e2, e3⟩ := reps2 r1
      have e2 : v = _ := e2
      have e3 : u = _ := e3
      subst e2 e3
      exact ⟨i, j, e1, ⟨(okR_ok hj.1).1, (okR_ok hj.1).2, (okR_ok hj.2).1, (okR_ok hj.2).2⟩, p m1 F1 _ H1 x1 s1 (itr_ok i j rfl)⟩
    · cases h
  · cases h
/-- the signs of a text -/
def iStrD (f : FE) : FA := fun env S => (f env S).bind fun p => match p.1 with
  | .str x => some (x.cps.toList.map fun c => D.str ⟨#[c]⟩, p.2)
  | _ => none
theorem si_str (h : SE ct X e f) : SI ct X tg e (iStrD f) := by
  obtain ⟨ta, pa, ra⟩ := h
  refine ⟨_, pi_str pa, fun m F S σ H env items S' R s en h p => ?_⟩
  obtain ⟨⟨z, S1⟩, h1, h⟩ := bind_some h
  refine ra m F S σ H env z S1 _ s en h1 fun m1 F1 v1 H1 x1 s1 r1 => ?_
  cases z with
  | str x =>
    cases h
    refine ⟨x, r1, p m1 F1 _ H1 x1 s1 fun i m2 F2 S2 H2 x2 s2 => ?_⟩
    refine ⟨fun d hd => ?_, fun hl => ?_⟩
    · rw [List.getElem?_map] at hd
      obtain ⟨c, hc, e⟩ := map_some hd
      subst e
      have hc' : x.cps[i]? = some c := by simpa using hc
      refine ⟨by
        have := (List.getElem?_eq_some_iff.mp hc).1
        show i < x.cps.size
        simpa using this, fun v H' y => ?_⟩
      obtain ⟨y1, c', y2, y3⟩ := y
      subst y1 y3
      rw [hc'] at y2
      cases y2
      exact ⟨F2, Ext.refl _ _ _, s2, rfl⟩
    · show _ ≤ i
      simp at hl
      omega
  | _ => cases h
end
end DL

namespace DL
open PySem PySem.Spec PyProof.Rows L2
/-! ## one reading for each denotation -/
def tE (ct : CT) (K : PySem.W.Frag) (f : FE) : TE := fun σ H Q => ∃ m F S env d S', Sim K ct m F S H ∧ EnvR K ct m F env σ ∧ f env S = some (d, S') ∧ PostE ct K m F H S' d Q
def tT (ct : CT) (K : PySem.W.Frag) (f : FT) : TT := fun σ H Q => ∃ m F S env b S', Sim K ct m F S H ∧ EnvR K ct m F env σ ∧ f env S = some (b, S') ∧ PostT ct K m F H S' b Q
theorem SE.pe {ct : CT} {X : Cx} {e : Expr} {f : FE} (h : SE ct X e f) : PE X e (tE ct X.K f) := by
  obtain ⟨t, p, r⟩ := h
  exact ⟨fun pins s σ H Q I ⟨m, F, S, env, d, S', s1, en, h1, p1⟩ => p.run pins s σ H Q I (r m F S σ H env d S' Q s1 en h1 p1)⟩
def STs (ct : CT) (X : Cx) (ifs : List Expr) (f : FT) : Prop := ∃ t, PTs X ifs t ∧ ∀ m F S σ H env b S' Q, Sim X.K ct m F S H → EnvR X.K ct m F env σ → f env S = some (b, S') → PostT ct X.K m F H S' b Q → t σ H Q
theorem STs.pt {ct : CT} {X : Cx} {es : List Expr} {f : FT} (h : STs ct X es f) : PTs X es (tT ct X.K f) := by
  obtain ⟨t, p, r⟩ := h
  exact ⟨fun pins s σ H Q I ⟨m, F, S, env, d, S', s1, en, h1, p1⟩ => p.run pins s σ H Q I (r m F S σ H env d S' Q s1 en h1 p1)⟩
def tYesD : FT := fun _ S => some (true, S)
theorem sts_nil {ct : CT} {X : Cx} : STs ct X [] tYesD := ⟨_, pts_nil, fun m F S σ H env b S' Q s en h p => by
  cases h
  exact p m F H (Ext.refl _ _ _) s⟩
theorem sts_one {ct : CT} {X : Cx} {e : Expr} {f : FT} (h : ST ct X e f) : STs ct X [e] f := by
  obtain ⟨t, p, r⟩ := h
  exact ⟨t, pts_one p, r⟩
/-! ## targets of a comprehension -/
def SGw (ct : CT) (X : Cx) (vs : List Nat) (tg : Expr) (g : FG) : Prop := ∃ t, PG X tg t ∧ ∀ m F S σ H env d v env' S' Q, Sim X.K ct m F S H → EnvR X.K ct m F env σ → Rep X.K ct m F d v → g d env S = some (env', S') →
  (∀ m' F' σ' H', Ext m F H m' F' H' → Sim X.K ct m' F' S' H' → EnvR X.K ct m' F' env' σ' → wipe σ' vs = wipe σ vs → Q σ' H') → t v σ H Q
def SGws (ct : CT) (X : Cx) (vs : List Nat) (tgs : List Expr) (g : FGs) : Prop := ∃ t, PGs X tgs t ∧ ∀ m F S σ H env ds us env' S' Q, Sim X.K ct m F S H → EnvR X.K ct m F env σ → Reps X.K ct m F ds us → g ds env S = some (env', S') →
  (∀ m' F' σ' H', Ext m F H m' F' H' → Sim X.K ct m' F' S' H' → EnvR X.K ct m' F' env' σ' → wipe σ' vs = wipe σ vs → Q σ' H') → t us σ H Q
def tGw (ct : CT) (K : PySem.W.Frag) (vs : List Nat) (g : FG) : TG := fun v σ H Q => ∃ m F S env d env' S', Sim K ct m F S H ∧ EnvR K ct m F env σ ∧ Rep K ct m F d v ∧ g d env S = some (env', S') ∧
  (∀ m' F' σ' H', Ext m F H m' F' H' → Sim K ct m' F' S' H' → EnvR K ct m' F' env' σ' → wipe σ' vs = wipe σ vs → Q σ' H')
theorem SGw.pg {ct : CT} {X : Cx} {vs : List Nat} {tg : Expr} {g : FG} (h : SGw ct X vs tg g) : PG X tg (tGw ct X.K vs g) := by
  obtain ⟨t, p, r⟩ := h
  exact ⟨fun pins s σ H v u Q I rv ⟨m, F, S, env, d, env', S', s1, en, rp, h1, p1⟩ => p.run pins s σ H v u Q I rv (r m F S σ H env d v env' S' Q s1 en rp h1 p1)⟩
theorem set_comm' {α : Type} (l : List α) {i j : Nat} (h : i ≠ j) (a b : α) : (l.set i a).set j b = (l.set j b).set i a := List.set_comm a b h
theorem wipe_out_set {σ : L2.St} {i : Nat} {x : Option V} : ∀ {vs : List Nat}, i ∉ vs → wipe (σ.set i x) vs = (wipe σ vs).set i x
  | [], _ => rfl
  | v :: vs, h => by
    have h1 : i ≠ v := fun e => h (by simp [e])
    have h2 : i ∉ vs := fun e => h (by simp [e])
    unfold wipe
    rw [wipe_out_set h2, set_comm' _ h1]
theorem wipe_set {σ : L2.St} {i : Nat} {x : Option V} : ∀ {vs : List Nat}, i ∈ vs → wipe (σ.set i x) vs = wipe σ vs
  | [], h => by cases h
  | v :: vs, h => by
    unfold wipe
    by_cases hi : i ∈ vs
    · rw [wipe_set hi]
    · have e : i = v := by simpa [hi] using h
      subst e
      rw [wipe_out_set hi, List.set_set]
theorem wipe_idem_sub {σ : L2.St} {us : List Nat} : ∀ {vs : List Nat}, (∀ v ∈ vs, v ∈ us) → wipe (wipe σ vs) us = wipe σ us
  | [], _ => rfl
  | v :: vs, h => by
    show wipe ((wipe σ vs).set v none) us = wipe σ us
    rw [wipe_set (h v (by simp)), wipe_idem_sub fun w hw => h w (by simp [hw])]
theorem wipe_idem {σ : L2.St} {vs : List Nat} : wipe (wipe σ vs) vs = wipe σ vs := wipe_idem_sub fun _ h => h
def wipeD (env : DEnv) : List Nat → DEnv
  | [] => env
  | v :: vs => (wipeD env vs).set v none
theorem EnvR.unset {K : PySem.W.Frag} {ct : CT} {m : List Addr} {F : Hp} {env : DEnv} {σ : L2.St} (h : EnvR K ct m F env σ) (i : Nat) : EnvR K ct m F (env.set i none) (σ.set i none) := by
  refine ⟨by simp [h.1], fun j e hj => ?_⟩
  by_cases e1 : i = j
  · subst e1
    have hl : i < env.length := by
      have := (List.getElem?_eq_some_iff.mp hj).1
      simpa using this
    rw [List.getElem?_set_self hl] at hj
    cases hj
  · rw [List.getElem?_set_ne e1] at hj
    rw [List.getElem?_set_ne e1]
    exact h.2 j e hj
theorem EnvR.wipe {K : PySem.W.Frag} {ct : CT} {m : List Addr} {F : Hp} {env : DEnv} {σ : L2.St} (h : EnvR K ct m F env σ) : ∀ vs : List Nat, EnvR K ct m F (wipeD env vs) (L2.wipe σ vs)
  | [] => h
  | v :: vs => (EnvR.wipe h vs).unset v
section
variable {ct : CT} {X : Cx} {pos : Pos}
theorem sgw_name {vs : List Nat} {i : Nat} {x : Str} (hN : X.N.Nodup) (hi : X.N[i]? = some x) (hx : Loc X.env.scope x) (hv : i ∈ vs) (hf : X.fn x = true ∨ X.env.scope.names.lookup x = some .local := by first | exact .inl rfl | exact .inr rfl | assumption) : SGw ct X vs (.Name x pos) (gN i) :=
  ⟨_, pg_name hN hi hx hf, fun m F S σ H env d v env' S' Q s en r h q => by
    cases h
    exact q m F _ H (Ext.refl _ _ _) s (en.set i r) (wipe_set hv)⟩
theorem sgws_nil {vs : List Nat} : SGws ct X vs [] gNil := ⟨_, pgs_nil, fun m F S σ H env ds us env' S' Q s en r h q => by
  cases ds with
  | nil =>
    cases h
    exact ⟨r, q m F _ H (Ext.refl _ _ _) s en rfl⟩
  | cons _ _ => cases h⟩
theorem sgws_cons {vs : List Nat} {t : Expr} {ts : List Expr} {g : FG} {gs : FGs} (h1 : SGw ct X vs t g) (h2 : SGws ct X vs ts gs) (hs : (assignEach (t :: ts) X.env).map (·.2) = assign t X.env :: (assignEach ts X.env).map (·.2) := by rfl) : SGws ct X vs (t :: ts) (gCons g gs) := by
  obtain ⟨ta, pa, ra⟩ := h1
  obtain ⟨tb, pb, rb⟩ := h2
  refine ⟨_, pgs_cons pa pb hs, fun m F S σ H env ds us env' S' Q s en r h q => ?_⟩
  cases ds with
  | nil => cases h
  | cons d dr =>
    obtain ⟨⟨env1, S1⟩, h1, h⟩ := bind_some h
    obtain ⟨v, vr, e1, r1, r2⟩ := r
    refine ⟨v, vr, e1, ra m F S σ H env d v env1 S1 _ s en r1 h1 fun m1 F1 σ1 H1 x1 s1 en1 w1 => ?_⟩
    exact rb m1 F1 S1 σ1 H1 env1 dr vr env' S' Q s1 en1 (r2.mono x1) h fun m2 F2 σ2 H2 x2 s2 en2 w2 => q m2 F2 σ2 H2 (x1.trans x2) s2 en2 (w2.trans w1)
theorem sgw_tup {vs : List Nat} {ts : List Expr} {k n : Nat} {gs : FGs} (hc : X.calm = true) (h : SGws ct X vs ts gs) (hn : (assignEach ts X.env).length = n := by rfl) (hst : (assignEach ts X.env).findIdx? (·.1) = none := by rfl) : SGw ct X vs (.Tuple ts k pos) (gTup n gs) := by
  obtain ⟨ta, pa, ra⟩ := h
  refine ⟨_, pg_tup hc pa hn hst, fun m F S σ H env d v env' S' Q s en r h q => ?_⟩
  cases d with
  | tup ds =>
    obtain ⟨a, us, e1, e2, e3⟩ := r
    by_cases hl : ds.length = n
    · have h : (if ds.length = n then gs ds env S else none) = some (env', S') := h
      rw [if_pos hl] at h
      exact ⟨a, us, e1, sqT_mono s.same e2, by rw [← e3.length]; exact hl, ra m F S σ H env ds us env' S' Q s en e3 h q⟩
    · have h : (if ds.length = n then gs ds env S else none) = some (env', S') := h
      rw [if_neg hl] at h
      cases h
  | _ => cases h
end
/-! ## hidden objects -/
section
variable {K : PySem.W.Frag} {ct : CT} {m m' m0 : List Addr} {F F' H H' F0 H0 : Hp} {S : Sto} {L : Addr} {o u : HO}
theorem Ext.hid (x : Ext m F H m' F' H') (h : H L = some o) (n : L ∉ m) (f : F L = none) : H' L = some o ∧ L ∉ m' ∧ F' L = none := by
  refine ⟨x.keep _ _ h n, fun hm => ?_, ?_⟩
  · rcases x.new _ hm with q | q
    · exact n q
    · rw [h] at q; cases q
  · cases e : F' L with
    | none => rfl
    | some z =>
      rcases x.fnew _ _ e with q | q
      · rw [f] at q; cases q
      · rw [h] at q; cases q
theorem Sim.hidden (s : Sim K ct m F S H) (n : L ∉ m) (f : F L = none) (o : HO) : Sim K ct m F S (upd H L o) := by
  refine ⟨fun b z h => ?_, s.len, s.nd, s.off, fun i a c h1 h2 => ?_, s.tab⟩
  · have nb : b ≠ L := fun e => by rw [e, f] at h; cases h
    rw [upd_ne nb]; exact s.same _ _ h
  · have hm : a ∈ m := List.mem_iff_getElem?.mpr ⟨i, h1⟩
    have na : a ≠ L := fun e => n (e ▸ hm)
    rw [upd_ne na]; exact s.cell i a c h1 h2
theorem Ext.put (x : Ext m0 F0 H0 m F H) (h : H0 L = none) (o : HO) : Ext m0 F0 H0 m F (upd H L o) := by
  refine ⟨x.pre, x.same, fun b z q n => ?_, x.new, x.fnew, fun b z q => ?_⟩
  · rw [upd_ne (ne_of_none q h)]; exact x.keep b z q n
  · rw [upd_ne (ne_of_none q h)]; exact x.grow b z q
theorem CellR.mono' {o : Option HO} {c : Cell} (h : CellR K ct m F o c) (hp : ∀ (i : Nat) (a : Addr), m[i]? = some a → m'[i]? = some a) (e : Same F F') : CellR K ct m' F' o c := by
  cases c with
  | lst ds => obtain ⟨vs, e1, e2⟩ := h; exact ⟨vs, e1, Reps.mono' hp e _ _ e2⟩
  | dct kvs => obtain ⟨vs, e1, e2⟩ := h; exact ⟨vs, e1, Paired.mapP e2 fun p q z => ⟨z.1, Rep.mono' hp e _ _ z.2⟩⟩
  | ins c fs ds => obtain ⟨C, dx, vs, e1, e4, e3, e2⟩ := h; exact ⟨C, dx, vs, e1, e4, e3, Reps.mono' hp e _ _ e2⟩
  | tab q => obtain ⟨ps, e1, e2, e3⟩ := h; exact ⟨ps, e1, e2, fun pos cv hc => let ⟨c, z1, z2⟩ := e3 pos cv hc; ⟨c, z1, e _ _ z2⟩⟩
theorem same_upd (f : F L = none) (o : HO) : Same F (upd F L o) := fun b z q => by
  have nb : b ≠ L := fun e => by rw [e, f] at q; cases q
  rw [upd_ne nb]; exact q
theorem Sim.freeze (s : Sim K ct m F S H) (n : L ∉ m) (f : F L = none) (h : H L = some o) : Sim K ct m (upd F L o) S H := by
  refine ⟨fun b z q => ?_, s.len, s.nd, fun a ha => ?_, fun i a c h1 h2 => (s.cell i a c h1 h2).mono' (fun _ _ q => q) (same_upd f o), s.tab⟩
  · by_cases hb : b = L
    · rw [hb, upd_same] at q; rw [hb, h]; exact q
    · rw [upd_ne hb] at q; exact s.same _ _ q
  · have na : a ≠ L := fun e => n (e ▸ ha)
    rw [upd_ne na]; exact s.off a ha
theorem Ext.freeze (x : Ext m0 F0 H0 m F H) (h : H0 L = none) (f : F L = none) (o : HO) : Ext m0 F0 H0 m (upd F L o) H := by
  refine ⟨x.pre, x.same.trans (same_upd f o), x.keep, x.new, fun b z q => ?_, x.grow⟩
  by_cases hb : b = L
  · rw [hb]; exact .inr h
  · rw [upd_ne hb] at q; exact x.fnew b z q
end
/-! ## list comprehensions -/
def lcD (g : FG) (t : FT) (f : FE) (env : DEnv) : List D → Sto → Option (List D × Sto)
  | [], S => some ([], S)
  | x :: xs, S => (g x env S).bind fun p => (t p.1 p.2).bind fun b => if b.1 = true then (f p.1 b.2).bind fun y => (lcD g t f env xs y.2).bind fun r => some (y.1 :: r.1, r.2) else lcD g t f env xs b.2
def fLc (fi : FA) (g : FG) (t : FT) (f : FE) (vs : List Nat) : FE := fun env S => (fi env S).bind fun p => if p.1.length ≤ 1000000 then (lcD g t f (wipeD env vs) p.1 p.2).bind fun r => some (.lst r.1, r.2) else none
section
variable {ct : CT} {X : Cx}
theorem lc_run {fi : FA} {g : FG} {gt : FT} {fe : FE} {wi : TI} {own : List Nat} {m : List Addr} {F H : Hp} {S S' : Sto} {σ : L2.St} {env : DEnv} {d : D} {Q : VK}
    (ri : ∀ m F S σ H env items S' R, Sim X.K ct m F S H → EnvR X.K ct m F env σ → fi env S = some (items, S') → (∀ m' F' J H', Ext m F H m' F' H' → Sim X.K ct m' F' S' H' → ItOk ct X.K m' F' items J → R J H') → wi σ H R)
    (s : Sim X.K ct m F S H) (en : EnvR X.K ct m F env σ) (h : fLc fi g gt fe own env S = some (d, S')) (p : PostE ct X.K m F H S' d Q) :
    tLc wi (tGw ct X.K own g) (tT ct X.K gt) (tE ct X.K fe) own σ H Q := by
  obtain ⟨⟨items, S1⟩, h1, h⟩ := bind_some h
  split at h
  case isFalse => cases h
  rename_i hlen
  have hlen : items.length ≤ 1000000 := hlen
  obtain ⟨⟨out, S9⟩, h2, h⟩ := bind_some h
  cases h
  refine ri m F S σ H env items S1 _ s en h1 fun m1 F1 J H1 x1 s1 ok => fun L hL => ?_
  have nL1 : L ∉ m1 := fun hm => by
    obtain ⟨o, q⟩ := s1.there hm
    rw [hL] at q; cases q
  have fL1 : F1 L = none := by
    cases e : F1 L with
    | none => rfl
    | some o => rw [s1.same _ _ e] at hL; cases hL
  refine ⟨fun i k H' => k = items.length - i ∧ i ≤ items.length ∧ ∃ m' F' S2 accV accD rest, Ext m1 F1 H1 m' F' H' ∧ Sim X.K ct m' F' S2 H' ∧ H' L = some (.lst accV) ∧ L ∉ m' ∧ F' L = none ∧ Reps X.K ct m' F' accD accV ∧ accD.length ≤ i ∧
      lcD g gt fe (wipeD env own) (items.drop i) S2 = some (rest, S9) ∧ out = accD ++ rest,
    ⟨_, rfl, Nat.zero_le _, m1, F1, S1, [], [], out, (Ext.refl _ _ _).put hL _, s1.hidden nL1 fL1 _, upd_same, nL1, fL1, rfl, Nat.le_refl _, h2, rfl⟩, ?_⟩
  rintro i k H' ⟨rfl, hle, m', F', S2, accV, accD, rest, x', s', hH, nL, fL, rp, hal, hlc, eo⟩
  have en' : EnvR X.K ct m' F' (wipeD env own) (wipe σ own) := ((en.mono x1).mono x').wipe own
  have okk : (∀ d, items[i]? = some d → J.go i H' ∧ ∀ x H1, J.yld i H' x H1 → ∃ F1, Ext m' F' H' m' F1 H1 ∧ Sim X.K ct m' F1 S2 H1 ∧ Rep X.K ct m' F1 d x) ∧ (items.length = i → J.stop i H') := ok i m' F' S2 H' x'.e0 s'
  cases hd : items.drop i with
  | nil =>
    rw [hd] at hlc
    cases hlc
    have hl : items.length = i := by
      have := congrArg List.length hd
      simp at this
      omega
    refine .inl ⟨okk.2 hl, p m' (upd F' L (.lst accV)) (.ref L) H' (x1.trans (x'.freeze hL fL _)) (s'.freeze nL fL hH) ⟨L, accV, rfl, upd_same, ?_⟩⟩
    rw [eo, List.append_nil]
    exact Reps.mono' (fun _ _ q => q) (same_upd fL _) _ _ rp
  | cons a r =>
    rw [hd] at hlc
    obtain ⟨q1, q2⟩ := drop_cons hd
    have hlt : i < items.length := (List.getElem?_eq_some_iff.mp q1).1
    obtain ⟨go, yl⟩ := okk.1 a q1
    obtain ⟨⟨env1, S3⟩, h3, hlc⟩ := bind_some hlc
    obtain ⟨⟨b4, S4⟩, h4, hlc⟩ := bind_some hlc
    refine .inr ⟨go, fun H5 => ∃ m5 F5 S5 accV accD rest, Ext m1 F1 H1 m5 F5 H5 ∧ Sim X.K ct m5 F5 S5 H5 ∧ H5 L = some (.lst accV) ∧ L ∉ m5 ∧ F5 L = none ∧ Reps X.K ct m5 F5 accD accV ∧ accD.length ≤ i + 1 ∧
      lcD g gt fe (wipeD env own) (items.drop (i + 1)) S5 = some (rest, S9) ∧ out = accD ++ rest, fun H5 w => ⟨items.length - (i + 1), by omega, rfl, hlt, w⟩, fun x H5 y => ?_⟩
    obtain ⟨F5, x5, s5, r5⟩ := yl x H5 y
    obtain ⟨hH5, nL5, fL5⟩ := x5.hid hH nL fL
    refine ⟨m', F5, S2, wipeD env own, a, env1, S3, s5, en'.mono x5, r5, h3, fun m6 F6 σ6 H6 x6 s6 en6 w6 => ⟨by rw [w6]; exact wipe_idem, ?_⟩⟩
    obtain ⟨hH6, nL6, fL6⟩ := x6.hid hH5 nL5 fL5
    refine ⟨m6, F6, S3, env1, b4, S4, s6, en6, h4, fun m7 F7 H7 x7 s7 => ?_⟩
    obtain ⟨hH7, nL7, fL7⟩ := x7.hid hH6 nL6 fL6
    have xx : Ext m1 F1 H1 m7 F7 H7 := ((x'.trans x5).trans x6).trans x7
    have rp7 : Reps X.K ct m7 F7 accD accV := ((rp.mono x5).mono x6).mono x7
    cases b4 with
    | false =>
      refine iteF ⟨m7, F7, S4, accV, accD, rest, xx, s7, hH7, nL7, fL7, rp7, by omega, ?_, eo⟩
      rw [q2]
      exact hlc
    | true =>
      obtain ⟨⟨y8, S8⟩, h8, hlc⟩ := bind_some (show (fe env1 S4).bind _ = _ from hlc)
      obtain ⟨⟨r9, S10⟩, h9, hlc⟩ := bind_some hlc
      cases hlc
      refine iteT ⟨m7, F7, S4, env1, y8, S8, s7, en6.mono x7, h8, fun m8 F8 v8 H8 x8 s8 r8 => ?_⟩
      obtain ⟨hH8, nL8, fL8⟩ := x8.hid hH7 nL7 fL7
      refine ⟨accV, hH8, ?_, m8, F8, S8, accV ++ [v8], accD ++ [y8], r9, (xx.trans x8).put hL _, s8.hidden nL8 fL8 _, upd_same, nL8, fL8, (rp7.mono x8).snoc r8, by simp; omega, ?_, by rw [eo, List.append_assoc]; rfl⟩
      · rw [← rp.length, line_eq]
        omega
      · rw [q2]
        exact h9
theorem se_lc {elt tg iter : Expr} {ifs : List Expr} {scope : Scope} {own : List (Str × Nat)} {pos : Pos} {fi : FA} {g : FG} {gt : FT} {fe : FE} (hc : X.calm = true) (hN : X.N.Nodup) (hi : SI ct X tg iter fi) (ok : BlkOk X.N X.env.scope scope own)
    (hg : ∀ (s : Shared) (H : Hp) (C : Addr) (cl : List (Str × Addr)) (fp : List Addr), SGw ct (X.blk s H scope (compEnvC scope cl C X.env) fp) (own.map (·.2)) tg g) (ht : ∀ (s : Shared) (H : Hp) (C : Addr) (cl : List (Str × Addr)) (fp : List Addr), STs ct (X.blk s H scope (compEnvC scope cl C X.env) fp) ifs gt)
    (he : ∀ (s : Shared) (H : Hp) (C : Addr) (cl : List (Str × Addr)) (fp : List Addr), SE ct (X.blk s H scope (compEnvC scope cl C X.env) fp) elt fe) (hs : ∀ x, foldedSetIterable iter X.env x = pure x := by intro _; rfl) :
    SE ct X (.ListComp elt [⟨tg, iter, ifs, 0⟩] scope pos) (fLc fi g gt fe (own.map (·.2))) := by
  obtain ⟨wi, pi, ri⟩ := hi
  exact ⟨_, pe_lc (g := tGw ct X.K (own.map (·.2)) g) (tt := tT ct X.K gt) (te := tE ct X.K fe) hc hN pi ok (fun s H C cl fp => (hg s H C cl fp).pg) (fun s H C cl fp => (ht s H C cl fp).pt) (fun s H C cl fp => (he s H C cl fp).pe) hs, fun m F S σ H env d S' Q s en h p => lc_run ri s en h p⟩
theorem ss_setLc {i : Nat} {y : Str} {py : Pos} {elt tg iter : Expr} {ifs : List Expr} {scope : Scope} {own : List (Str × Nat)} {pos spos : Pos} {fi : FA} {g : FG} {gt : FT} {fe : FE} (hc : X.calm = true) (hN : X.N.Nodup) (hy : X.N[i]? = some y) (hyl : X.env.scope.names.lookup y = some .local)
    (hsw : swapsWith (.ListComp elt [⟨tg, iter, ifs, 0⟩] scope pos) (some (.Name y py)) spos.line X.env = pure true) (hi : SI ct X tg iter fi) (ok : BlkOk X.N X.env.scope scope own)
    (hg : ∀ (s : Shared) (H : Hp) (C : Addr) (cl : List (Str × Addr)) (fp : List Addr), SGw ct (X.blk s H scope (compEnvC scope cl C X.env) fp) (own.map (·.2)) tg g) (ht : ∀ (s : Shared) (H : Hp) (C : Addr) (cl : List (Str × Addr)) (fp : List Addr), STs ct (X.blk s H scope (compEnvC scope cl C X.env) fp) ifs gt)
    (he : ∀ (s : Shared) (H : Hp) (C : Addr) (cl : List (Str × Addr)) (fp : List Addr), SE ct (X.blk s H scope (compEnvC scope cl C X.env) fp) elt fe) (hs : ∀ x, foldedSetIterable iter X.env x = pure x := by intro _; rfl) :
    SS ct X (.Assign [.Name y py] (.ListComp elt [⟨tg, iter, ifs, 0⟩] scope pos) spos) (sAsg (fLc fi g gt fe (own.map (·.2))) (gN i)) := by
  obtain ⟨wi, pi, ri⟩ := hi
  refine ⟨_, ps_setLc (g := tGw ct X.K (own.map (·.2)) g) (tt := tT ct X.K gt) (te := tE ct X.K fe) hc hN hy hyl hsw pi ok (fun s H C cl fp => (hg s H C cl fp).pg) (fun s H C cl fp => (ht s H C cl fp).pt) (fun s H C cl fp => (he s H C cl fp).pe) hs, fun m F S σ H env fl S' E s en h p => ?_⟩
  obtain ⟨⟨x, S1⟩, h1, h⟩ := bind_some h
  cases h
  exact lc_run ri s en h1 fun m1 F1 v1 H1 x1 s1 r1 => p m1 F1 _ H1 x1 s1 ((en.mono x1).set i r1)
end
end DL

namespace DL
open PySem PySem.Spec PyProof.Rows L2
/-! ## dicts: cells -/
def valA {α : Type} (kvs : List (Key × α)) (k : Key) : Option α := (kvs.find? fun kv => decide (kv.1 = k)).map (·.2)
def putA {α : Type} (kvs : List (Key × α)) (k : Key) (v : α) : List (Key × α) :=
  if (kvs.any fun kv => decide (kv.1 = k)) = true then kvs.map fun kv => if kv.1 = k then (kv.1, v) else kv else kvs ++ [(k, v)]
def toKey : D → Option Key
  | .int i => some (.inl i)
  | .str x => some (.inr x)
  | _ => none
section
variable {ct : CT} {K : PySem.W.Frag} {m : List Addr} {F : Hp}
abbrev PR (K : PySem.W.Frag) (ct : CT) (m : List Addr) (F : Hp) : List (Key × D) → List (Key × V) → Prop := Paired fun (p : Key × D) (q : Key × V) => p.1 = q.1 ∧ Rep K ct m F p.2 q.2
theorem Rep.key {d : D} {v : V} {k : Key} (r : Rep K ct m F d v) (h : toKey d = some k) : v = kV k := by
  cases d with
  | int i => cases h; exact r
  | str x => cases h; exact r
  | _ => cases h
theorem PR.any {kvs : List (Key × D)} {us : List (Key × V)} (r : PR K ct m F kvs us) (k : Key) : (kvs.any fun kv => decide (kv.1 = k)) = us.any fun kv => decide (kv.1 = k) := by
  induction r with
  | nil => rfl
  | cons h _ ih => simp only [List.any_cons, ih, h.1]
theorem PR.val {kvs : List (Key × D)} {us : List (Key × V)} (r : PR K ct m F kvs us) (k : Key) : (∀ d, valA kvs k = some d → ∃ v, valV us k = some v ∧ Rep K ct m F d v) ∧ (valA kvs k = none → valV us k = none) := by
  induction r with
  | nil => exact ⟨fun d h => (by cases h), fun _ => rfl⟩
  | @cons p q l1 l2 h t ih =>
    by_cases e : p.1 = k
    · have e' : q.1 = k := h.1 ▸ e
      refine ⟨fun d hd => ⟨q.2, valV_pos e', ?_⟩, fun hd => ?_⟩
      · simp [valA, List.find?_cons, e] at hd
        subst hd
        exact h.2
      · simp [valA, List.find?_cons, e] at hd
    · have e' : ¬ q.1 = k := h.1 ▸ e
      have e2 : valA (p :: l1) k = valA l1 k := by simp [valA, List.find?_cons, e]
      rw [e2, valV_neg e']
      exact ih
theorem PR.repl {kvs : List (Key × D)} {us : List (Key × V)} (r : PR K ct m F kvs us) (k : Key) {d : D} {v : V} (rv : Rep K ct m F d v) : PR K ct m F (kvs.map fun kv => if kv.1 = k then (kv.1, d) else kv) (us.map fun kv => if kv.1 = k then (kv.1, v) else kv) := by
  induction r with
  | nil => exact .nil
  | @cons p q l1 l2 h t ih =>
    refine .cons ?_ ih
    by_cases e : p.1 = k
    · have e' : q.1 = k := h.1 ▸ e
      dsimp only
      rw [if_pos e, if_pos e']
      exact ⟨h.1, rv⟩
    · have e' : ¬ q.1 = k := h.1 ▸ e
      dsimp only
      rw [if_neg e, if_neg e']
      exact h
theorem PR.put {kvs : List (Key × D)} {us : List (Key × V)} (r : PR K ct m F kvs us) (k : Key) {d : D} {v : V} (rv : Rep K ct m F d v) : PR K ct m F (putA kvs k d) (putK us k v) := by
  unfold putA putK
  rw [PR.any r k]
  split
  · exact PR.repl r k rv
  · exact Paired.snoc r ⟨rfl, rv⟩
theorem PR.length {kvs : List (Key × D)} {us : List (Key × V)} (r : PR K ct m F kvs us) : kvs.length = us.length := Paired.length r
end
section
variable {ct : CT} {X : Cx} {a b c e o : Expr} {es : List Expr} {fa fb fc f : FE} {fas : FA}
/-- o[k] = v: a list's or a dict's cell -/
def gSetA : D → D → D → Sto → Option Sto
  | .ref k, i, v, S => match S[k]? with
    | some (.lst ds) => match i with
      | .int i => (ixN ds.length i).map fun j => S.set k (.lst (ds.set j v))
      | _ => none
    | some (.dct kvs) => if kvs.length ≤ 1000000 then (toKey i).map fun x => S.set k (.dct (putA kvs x v)) else none
    | _ => none
  | _, _, _, _ => none
def rSetA : TSet := fun o i v H Q => rSetL o i v H Q ∨ ∃ a H', o = .ref a ∧ DPut H a i v H' ∧ Q H'
theorem set_all {k : Nat} (hr : RoomG k X.A) : PSet X rSetA := by
  intro pins s σ H o i v ov iv u Q I r1 r2 r3 h
  rcases h with h | ⟨a, H', rfl, h, q⟩
  · exact set_list pins s σ H o i v ov iv u Q I r1 r2 r3 h
  · cases (show ov = Value.ref a from r1)
    exact d_setItem (hu_of hr.room) I h r2 r3 fun s' I' => ⟨H', I', q⟩
theorem sd_all {K : PySem.W.Frag} : SetD ct K rSetA gSetA := by
  intro m F S H o i v d1 d2 d3 S' Q s r1 r2 r3 h q
  cases d1 with
  | ref k =>
    obtain ⟨a, e1, e2⟩ := r1
    obtain ⟨c, hc, cr⟩ := s.at e1
    cases c with
    | lst ds =>
      cases d2 with
      | int j0 =>
        have h : (ixN ds.length j0).map (fun j => S.set k (.lst (ds.set j d3))) = some S' := by simpa only [gSetA, hc] using h
        obtain ⟨j, h1, h2⟩ := map_some h
        subst h2
        obtain ⟨vs, q1, q2⟩ := cr
        obtain ⟨s2, x2⟩ := s.change e1 (o := .lst (vs.set j v)) (c := .lst (ds.set j d3)) ⟨_, rfl, q2.set j r3⟩
        exact .inl ⟨a, vs, _, j, e2, r2, q1, by rw [← q2.length]; exact h1, q _ _ _ x2 s2⟩
      | _ => simp [gSetA, hc] at h
    | dct kvs =>
      have h : (if kvs.length ≤ 1000000 then (toKey d2).map (fun x => S.set k (.dct (putA kvs x d3))) else none) = some S' := by
        simpa only [gSetA, hc] using h
      split at h
      · rename_i hl
        obtain ⟨x, h1, h2⟩ := map_some h
        subst h2
        obtain ⟨us, q1, q2⟩ := cr
        have ek := r2.key h1
        subst ek
        obtain ⟨s2, x2⟩ := s.change e1 (o := .dK (putK us x v)) (c := .dct (putA kvs x d3)) ⟨_, rfl, PR.put q2 x r3⟩
        exact .inr ⟨a, _, e2, DPut.k q1 (by rw [← PR.length q2, line_eq]; omega), q _ _ _ x2 s2⟩
      · cases h
    | ins _ _ _ => simp [gSetA, hc] at h
    | tab _ =>
      simp [gSetA, hc] at h
  | _ => cases h
/-- {} as a value that stays -/
theorem se_dnewF {pos : Pos} : SE ct X (.Dict [] [] pos) (fC (.dct [] [])) := ⟨_, pe_dnewK, fun m F S σ H env d S' Q s en h p => by
  cases h
  intro q hq
  obtain ⟨s2, x2⟩ := s.frozen hq (.dK [])
  exact p m _ (.ref q) _ x2 s2 ⟨q, [], rfl, upd_same, rfl, rfl⟩⟩
def fNewD : FE := fun _ S => some (.ref S.length, S ++ [.dct []])
theorem se_dnewM {pos : Pos} : SE ct X (.Dict [] [] pos) fNewD := ⟨_, pe_dnewK, fun m F S σ H env d S' Q s en h p => by
  cases h
  intro q hq
  obtain ⟨s2, x2⟩ := s.fresh hq (o := .dK []) (c := .dct []) ⟨[], rfl, .nil⟩
  exact p _ _ (.ref q) _ x2 s2 ⟨q, by rw [← s.len]; simp, rfl⟩⟩
/-- {'a': e, ..}: written text keys -/
def SDs (ct : CT) (X : Cx) (pos : Pos) (keys : List (Option Expr)) (values : List Expr) (ks : List Str) (f : FA) : Prop := ∃ trs, PPs X pos keys values trs ∧ ∀ m F S σ H env ds S' Q, Sim X.K ct m F S H → EnvR X.K ct m F env σ → f env S = some (ds, S') →
  (∀ m' F' vs H', Ext m F H m' F' H' → Sim X.K ct m' F' S' H' → Reps X.K ct m' F' ds vs → ds.length = ks.length → Q ((ks.map V.str).zip vs) H') → tPairs trs σ H Q
theorem sds_nil {pos : Pos} : SDs ct X pos [] [] [] fNil := ⟨_, pps_nil, fun m F S σ H env ds S' Q s en h p => by
  cases h
  exact p m F [] H (Ext.refl _ _ _) s rfl rfl⟩
theorem sds_cons {pos kp : Pos} {k : Str} {j : Nat} {keys : List (Option Expr)} {values : List Expr} {ks : List Str} (he : SE ct X e f) (hr : SDs ct X pos keys values ks fas) : SDs ct X pos (some (.Constant (.str k) j kp) :: keys) (e :: values) (k :: ks) (fCons f fas) := by
  obtain ⟨ta, pa, ra⟩ := he
  obtain ⟨tb, pb, rb⟩ := hr
  refine ⟨_, pps_cons pe_str pa pb, fun m F S σ H env d S' Q s en h p => ?_⟩
  obtain ⟨⟨x, S1⟩, h1, h⟩ := bind_some h
  obtain ⟨⟨ys, S2⟩, h2, h⟩ := bind_some h
  cases h
  refine ra m F S σ H env x S1 _ s en h1 fun m1 F1 v1 H1 x1 s1 r1 => ?_
  refine rb m1 F1 S1 σ H1 env ys S2 _ s1 (en.mono x1) h2 fun m2 F2 v2 H2 x2 s2 r2 hl => ?_
  exact p m2 F2 (v1 :: v2) H2 (x1.trans x2) s2 ⟨v1, v2, rfl, r1.mono x2, r2⟩ (by simp [hl])
def fDisp (ks : List Str) (fas : FA) : FE := fun env S => (fas env S).bind fun p => if ks.length ≤ 15 ∧ ks.Nodup then some (.ref p.2.length, p.2 ++ [.dct ((ks.map Sum.inr).zip p.1)]) else none
theorem merge_nodup : ∀ (more kvs : List (Key × V)), (more.map (·.1)).Nodup → (∀ k ∈ more.map (·.1), valV kvs k = none) → mergeK kvs more = kvs ++ more
  | [], kvs, _, _ => by simp [mergeK]
  | p :: more, kvs, h, hn => by
    have e : putK kvs p.1 p.2 = kvs ++ [p] := putK_new p.2 (hn p.1 (by simp))
    show mergeK (putK kvs p.1 p.2) more = _
    rw [e, merge_nodup more (kvs ++ [p]) (List.nodup_cons.mp h).2, List.append_assoc]
    · rfl
    · intro k hk
      have h1 : k ≠ p.1 := fun q => by
        subst q
        exact (List.nodup_cons.mp h).1 hk
      rw [valV_snoc p.1 k p.2 kvs (hn p.1 (by simp)), if_neg h1]
      exact hn k (by simp [List.mem_map] at hk ⊢; exact .inr hk)
theorem zip_PR {K : PySem.W.Frag} {m : List Addr} {F : Hp} : ∀ {ks : List Key} {ds : List D} {vs : List V}, Reps K ct m F ds vs → PR K ct m F (ks.zip ds) (ks.zip vs)
  | [], _, _, _ => .nil
  | k :: ks, [], _, r => by
    have r : _ = _ := r
    subst r
    exact .nil
  | k :: ks, d :: ds, _, r => by
    obtain ⟨v, vr, e1, e2, e3⟩ := r
    subst e1
    exact .cons ⟨rfl, e2⟩ (zip_PR e3)
theorem zip_kV : ∀ (ks : List Str) (vs : List V), (ks.map V.str).zip vs = (((ks.map Sum.inr : List Key)).zip vs).map fun kv => (kV kv.1, kv.2)
  | [], _ => rfl
  | _ :: _, [] => rfl
  | k :: ks, v :: vs => by
    simp only [List.map_cons, List.zip_cons_cons, zip_kV ks vs]
    rfl
theorem nodup_inr : ∀ {ks : List Str}, ks.Nodup → (ks.map Sum.inr : List Key).Nodup
  | [], _ => by simp
  | k :: ks, h => by
    simp only [List.map_cons, List.nodup_cons]
    refine ⟨fun q => ?_, nodup_inr (List.nodup_cons.mp h).2⟩
    obtain ⟨z, z1, z2⟩ := List.mem_map.mp q
    cases z2
    exact (List.nodup_cons.mp h).1 z1
theorem se_disp {pos : Pos} {keys : List (Option Expr)} {values : List Expr} {ks : List Str} (h : SDs ct X pos keys values ks fas) (hall : keys.all (·.isSome) = true) (hl : keys.length = values.length) (h0 : keys ≠ []) (h16 : keys.length ≤ 15 := by decide) : SE ct X (.Dict keys values pos) (fDisp ks fas) := by
  obtain ⟨trs, pp, rp⟩ := h
  refine ⟨_, pe_disp pp hall hl h0 h16, fun m F S σ H env d S' Q s en h p => ?_⟩
  obtain ⟨⟨xs, S1⟩, h1, h⟩ := bind_some h
  split at h
  case isFalse => cases h
  rename_i hk
  cases h
  intro q hq
  have nq : q ∉ m := fun hm => by
    obtain ⟨o, z⟩ := s.there hm
    rw [hq] at z; cases z
  have fq : F q = none := by
    cases z : F q with
    | none => rfl
    | some o => rw [s.same _ _ z] at hq; cases hq
  refine rp m F S σ (upd H q (.dK [])) env xs S1 _ (s.hidden nq fq _) en h1 fun m1 F1 vs H1 x1 s1 r1 hlen => ?_
  obtain ⟨hH, nq1, fq1⟩ := x1.hid upd_same nq fq
  have x0 : Ext m F H m1 F1 H1 := ((Ext.refl m F H).put hq (.dK [])).trans x1
  refine ⟨hH, (ks.map Sum.inr).zip vs, ?_, by simp [← r1.length, hlen, hk.1], ?_⟩
  · exact zip_kV ks vs
  · have hn : (((ks.map Sum.inr : List Key).zip vs).map (·.1)).Nodup := by
      rw [List.map_fst_zip (by simp [← r1.length, hlen])]
      exact nodup_inr hk.2
    rw [merge_nodup _ [] hn (fun _ _ => rfl), List.nil_append]
    have sq : Sim X.K ct m1 F1 S1 H1 := s1
    have s2 : Sim X.K ct (m1 ++ [q]) F1 (S1 ++ [.dct ((ks.map Sum.inr).zip xs)]) (upd H1 q (.dK ((ks.map Sum.inr).zip vs))) := by
      refine ⟨fun b z h => ?_, by simp [s1.len], ?_, fun a h => ?_, fun i a c h1 h2 => ?_, fun i a c y h1 h2 h3 => ?_⟩
      · have nb : b ≠ q := fun e => by rw [e, fq1] at h; cases h
        rw [upd_ne nb]; exact s1.same _ _ h
      · rw [List.nodup_append]
        exact ⟨s1.nd, by simp, fun a ha b hb e => nq1 (by rw [List.mem_singleton.mp hb] at e; exact e ▸ ha)⟩
      · rcases List.mem_append.mp h with z | z
        · exact s1.off a z
        · rw [List.mem_singleton.mp z]; exact fq1
      · have pre : ∀ (i : Nat) (a : Addr), m1[i]? = some a → (m1 ++ [q])[i]? = some a := fun i a h => by
          rw [List.getElem?_append_left (List.getElem?_eq_some_iff.mp h).1]; exact h
        by_cases hi : i < m1.length
        · rw [List.getElem?_append_left hi] at h1
          rw [List.getElem?_append_left (s1.len ▸ hi)] at h2
          have hm : a ∈ m1 := List.mem_iff_getElem?.mpr ⟨i, h1⟩
          have na : a ≠ q := fun e => nq1 (e ▸ hm)
          rw [upd_ne na]
          exact (s1.cell i a c h1 h2).mono' pre (Same.refl _)
        · rw [List.getElem?_append_right (by omega)] at h1
          rw [List.getElem?_append_right (by have := s1.len; omega)] at h2
          have e0 : i - m1.length = 0 := by
            have := (List.getElem?_eq_some_iff.mp h1).1
            simp at this; omega
          rw [e0] at h1
          rw [← s1.len, e0] at h2
          simp at h1 h2
          subst h1 h2
          rw [upd_same]
          exact ⟨_, rfl, zip_PR (Reps.mono' pre (Same.refl _) _ _ r1)⟩
      · by_cases hi : i < m1.length
        · rw [List.getElem?_append_left hi] at h1
          rw [List.getElem?_append_left (s1.len ▸ hi)] at h2
          exact s1.tab i a c y h1 h2 h3
        · rw [List.getElem?_append_right (by have := s1.len; omega)] at h2
          have := List.mem_of_getElem? h2
          rw [List.mem_singleton.mp this] at h3
          cases h3
    refine p (m1 ++ [q]) F1 (.ref q) _ ⟨fun i a h => ?_, x0.same, fun b z h n => ?_, fun a h => ?_, x0.fnew, fun b z h => ?_⟩ s2 ⟨q, by rw [← s1.len]; simp, rfl⟩
    · have := x0.pre i a h
      rw [List.getElem?_append_left (List.getElem?_eq_some_iff.mp this).1]; exact this
    · rw [upd_ne (ne_of_none h hq)]; exact x0.keep b z h n
    · rcases List.mem_append.mp h with z | z
      · exact x0.new a z
      · rw [List.mem_singleton.mp z]; exact .inr hq
    · rw [upd_ne (ne_of_none h hq)]; exact x0.grow b z h
end
end DL

namespace DL
open PySem PySem.Spec PyProof.Rows L2
section
variable {ct : CT} {X : Cx} {a b c e o k x : Expr} {es : List Expr} {fa fb fc f fd fk fx : FE} {fas : FA}
/-! ## d.get(k, x) of a cell or a dict that stays -/
def kvsOf (d : D) (S : Sto) : Option (List (Key × D)) := match d with
  | .ref i => match S[i]? with
    | some (.dct kvs) => some kvs
    | _ => none
  | .dct ks ds => some (ks.zip ds)
  | _ => none
theorem kvs_at {K : PySem.W.Frag} {m : List Addr} {F H : Hp} {S : Sto} {d : D} {v : V} {kvs : List (Key × D)} (s : Sim K ct m F S H) (r : Rep K ct m F d v) (h : kvsOf d S = some kvs) : ∃ a us, v = .ref a ∧ H a = some (.dK us) ∧ PR K ct m F kvs us := by
  cases d with
  | ref i =>
    obtain ⟨a, e1, e2⟩ := r
    obtain ⟨c, hc, cr⟩ := s.at e1
    cases c with
    | dct kvs' =>
      simp only [kvsOf, hc] at h
      cases h
      obtain ⟨us, q1, q2⟩ := cr
      exact ⟨a, us, e2, q1, q2⟩
    | lst _ => simp [kvsOf, hc] at h
    | ins _ _ _ => simp [kvsOf, hc] at h
    | tab _ => simp [kvsOf, hc] at h
  | dct ks ds =>
    cases h
    obtain ⟨a, vs, e1, e2, e3, e4⟩ := r
    exact ⟨a, _, e1, s.same _ _ e2, zip_PR e4⟩
  | _ => cases h
def fDGet2 (fd fk fx : FE) : FE := fun env S => (fd env S).bind fun p => (kvsOf p.1 p.2).bind fun _ => (fk env p.2).bind fun q => (fx env q.2).bind fun r => (kvsOf p.1 r.2).bind fun kvs => (toKey q.1).map fun x => ((valA kvs x).getD r.1, r.2)
theorem se_dget2 {apos cpos : Pos} {n : Nat} (hr : RoomG n X.A) (ho : SE ct X o fd) (hk : SE ct X k fk) (hx : SE ct X x fx) (m : M2 X o "get" apos k x cpos) : SE ct X (.Call (.Attribute o "get" apos) [k, x] [] cpos) (fDGet2 fd fk fx) := by
  obtain ⟨ta, pa, ra⟩ := ho
  obtain ⟨tb, pb, rb⟩ := hk
  obtain ⟨tc, pc, rc⟩ := hx
  refine ⟨_, pe_dget2 (hu_of hr.room) pa pb pc m, fun m F S σ H env d S' Q s en h p => ?_⟩
  obtain ⟨⟨z, S1⟩, h1, h⟩ := bind_some h
  obtain ⟨kvs0, h0, h⟩ := bind_some h
  obtain ⟨⟨y, S2⟩, h2, h⟩ := bind_some h
  obtain ⟨⟨w, S3⟩, h3, h⟩ := bind_some h
  obtain ⟨kvs, h4, h⟩ := bind_some h
  obtain ⟨key, h5, h6⟩ := map_some h
  cases h6
  refine ra m F S σ H env z S1 _ s en h1 fun m1 F1 v1 H1 x1 s1 r1 => ?_
  obtain ⟨a, us0, e1, e2, _⟩ := kvs_at s1 r1 h0
  refine ⟨a, e1, .inl ⟨us0, .inl e2⟩, ?_⟩
  refine rb m1 F1 S1 σ H1 env y S2 _ s1 (en.mono x1) h2 fun m2 F2 v2 H2 x2 s2 r2 => ?_
  refine rc m2 F2 S2 σ H2 env w S3 _ s2 ((en.mono x1).mono x2) h3 fun m3 F3 v3 H3 x3 s3 r3 => ?_
  obtain ⟨a', us, e1', e2', pr⟩ := kvs_at s3 ((r1.mono x2).mono x3) h4
  subst e1
  cases e1'
  have ek := r2.key h5
  subst ek
  refine ⟨_, DGet.k e2', ?_⟩
  have p3 := ((p.ext x1).ext x2).ext x3
  cases hv : valA kvs key with
  | none =>
    rw [hv] at p3
    rw [(PR.val pr key).2 hv]
    exact p3.now s3 r3
  | some dv =>
    rw [hv] at p3
    obtain ⟨v, q1, q2⟩ := (PR.val pr key).1 dv hv
    rw [q1]
    exact p3.now s3 q2
/-! ## a written dict: text keys, ints -/
structure KD (K : PySem.W.Frag) (w : World) (a : Addr) (tab : List (Str × Int)) : Prop where
  es : ∃ es n, KDict K w a es n
  val : ∀ z, ∃ r, PySem.W.nsIn K a z = some r ∧ RelO ((tab.lookup z).map V.int) r
def fKIn (neg : Bool) (tab : List (Str × Int)) (f : FE) : FE := fun env S => (f env S).bind fun p => match p.1 with
  | .str z => some (.bl (if neg then !(tab.lookup z).isSome else (tab.lookup z).isSome), p.2)
  | _ => none
variable {g : Addr} {tab : List (Str × Int)} {n : Str}
theorem relO_isSome {o : Option V} {u : Option Value} (r : RelO o u) : u.isSome = o.isSome := by
  cases o <;> cases u <;> first | rfl | exact r.elim
theorem se_kin {p pos : Pos} (d : KD X.K X.w g tab) (hg : Gl X n) (hm : X.mg n = some (.ref g)) (he : SE ct X e f) (hd : (n == ("__debug__" : Str)) = false := by decide) : SE ct X (.Compare e [.In] [.Name n p] pos) (fKIn false tab f) := by
  obtain ⟨ta, pa, ra⟩ := he
  obtain ⟨es, k, kd⟩ := d.es
  refine ⟨_, pe_cmpR (op_in_kd kd) pa (pe_glob (v := .ref g) hg hm rfl hd) rfl, fun m F S σ H env d' S' Q s en h p => ?_⟩
  obtain ⟨⟨z, S1⟩, h1, h⟩ := bind_some h
  refine ra m F S σ H env z S1 _ s en h1 fun m1 F1 v1 H1 x1 s1 r1 => ?_
  cases z with
  | str z =>
    cases h
    obtain ⟨r, q1, q2⟩ := d.val z
    refine ⟨z, r, r1, rfl, q1, ?_⟩
    rw [relO_isSome q2, Option.isSome_map]
    exact (p.ext x1).now s1 rfl
  | _ => cases h
theorem se_knotin {p pos : Pos} (d : KD X.K X.w g tab) (hg : Gl X n) (hm : X.mg n = some (.ref g)) (he : SE ct X e f) (hd : (n == ("__debug__" : Str)) = false := by decide) : SE ct X (.Compare e [.NotIn] [.Name n p] pos) (fKIn true tab f) := by
  obtain ⟨ta, pa, ra⟩ := he
  obtain ⟨es, k, kd⟩ := d.es
  refine ⟨_, pe_cmpR (op_notIn_kd kd) pa (pe_glob (v := .ref g) hg hm rfl hd) rfl, fun m F S σ H env d' S' Q s en h p => ?_⟩
  obtain ⟨⟨z, S1⟩, h1, h⟩ := bind_some h
  refine ra m F S σ H env z S1 _ s en h1 fun m1 F1 v1 H1 x1 s1 r1 => ?_
  cases z with
  | str z =>
    cases h
    obtain ⟨r, q1, q2⟩ := d.val z
    refine ⟨z, r, r1, rfl, q1, ?_⟩
    rw [relO_isSome q2, Option.isSome_map]
    exact (p.ext x1).now s1 rfl
  | _ => cases h
theorem st_kin {p pos : Pos} (d : KD X.K X.w g tab) (hg : Gl X n) (hm : X.mg n = some (.ref g)) (he : SE ct X e f) (hd : (n == ("__debug__" : Str)) = false := by decide) : ST ct X (.Compare e [.In] [.Name n p] pos) (fTest (fKIn false tab f)) := by
  obtain ⟨ta, pa, ra⟩ := he
  obtain ⟨es, k, kd⟩ := d.es
  refine ⟨_, pt_cmpR (op_in_kd kd) pa (pe_glob (v := .ref g) hg hm rfl hd) rfl, fun m F S σ H env d' S' Q s en h p => ?_⟩
  obtain ⟨⟨x, S2⟩, h2, h⟩ := bind_some h
  obtain ⟨⟨z, S1⟩, h1, h2⟩ := bind_some h2
  refine ra m F S σ H env z S1 _ s en h1 fun m1 F1 v1 H1 x1 s1 r1 => ?_
  cases z with
  | str z =>
    cases h2
    cases h
    obtain ⟨r, q1, q2⟩ := d.val z
    refine ⟨z, r, r1, rfl, q1, _, rfl, ?_⟩
    rw [relO_isSome q2, Option.isSome_map]
    exact p m1 F1 H1 x1 s1
  | _ => cases h2
theorem st_knotin {p pos : Pos} (d : KD X.K X.w g tab) (hg : Gl X n) (hm : X.mg n = some (.ref g)) (he : SE ct X e f) (hd : (n == ("__debug__" : Str)) = false := by decide) : ST ct X (.Compare e [.NotIn] [.Name n p] pos) (fTest (fKIn true tab f)) := by
  obtain ⟨ta, pa, ra⟩ := he
  obtain ⟨es, k, kd⟩ := d.es
  refine ⟨_, pt_cmpR (op_notIn_kd kd) pa (pe_glob (v := .ref g) hg hm rfl hd) rfl, fun m F S σ H env d' S' Q s en h p => ?_⟩
  obtain ⟨⟨x, S2⟩, h2, h⟩ := bind_some h
  obtain ⟨⟨z, S1⟩, h1, h2⟩ := bind_some h2
  refine ra m F S σ H env z S1 _ s en h1 fun m1 F1 v1 H1 x1 s1 r1 => ?_
  cases z with
  | str z =>
    cases h2
    cases h
    obtain ⟨r, q1, q2⟩ := d.val z
    refine ⟨z, r, r1, rfl, q1, _, rfl, ?_⟩
    rw [relO_isSome q2, Option.isSome_map]
    exact p m1 F1 H1 x1 s1
  | _ => cases h2
def fKIx (tab : List (Str × Int)) (f : FE) : FE := fun env S => (f env S).bind fun p => match p.1 with
  | .str z => (tab.lookup z).map fun i => (.int i, p.2)
  | _ => none
theorem se_kix {p pos : Pos} (d : KD X.K X.w g tab) (hg : Gl X n) (hm : X.mg n = some (.ref g)) (he : SE ct X e f) (hs : PlainIx e) (hd : (n == ("__debug__" : Str)) = false := by decide) : SE ct X (.Subscript (.Name n p) e pos) (fKIx tab f) := by
  obtain ⟨ta, pa, ra⟩ := he
  obtain ⟨es, k, kd⟩ := d.es
  refine ⟨_, pe_ix ix_kdict (pe_glob (v := .ref g) hg hm rfl hd) pa hs, fun m F S σ H env d' S' Q s en h p => ?_⟩
  obtain ⟨⟨z, S1⟩, h1, h⟩ := bind_some h
  refine ra m F S σ H env z S1 _ s en h1 fun m1 F1 v1 H1 x1 s1 r1 => ?_
  cases z with
  | str z =>
    obtain ⟨i, h2, h3⟩ := map_some (show (tab.lookup z).map _ = _ from h)
    cases h3
    obtain ⟨r, q1, q2⟩ := d.val z
    rw [h2] at q2
    obtain ⟨u, q3, q4⟩ := RelO.some_of q2
    subst q3
    exact ⟨g, z, .int i, rfl, r1, ⟨es, k, u, kd.at_, kd.lit, q1, q4⟩, (p.ext x1).now s1 rfl⟩
  | _ => cases h
/-- d.get(e, x) of a written dict -/
def tKGet2 (tab : List (Str × Int)) (ty tx : TE) : TE := fun σ H Q => ty σ H fun y H1 => tx σ H1 fun z H2 => ∃ s, y = .str s ∧ Q (((tab.lookup s).map V.int).getD z) H2
theorem pe_kget2 {ty tx : TE} {p apos cpos : Pos} (d : KD X.K X.w g tab) (hg : Gl X n) (hm : X.mg n = some (.ref g)) (he : PE X k ty) (hf : PE X x tx) (m : M2 X (.Name n p) "get" apos k x cpos) (hd : (n == ("__debug__" : Str)) = false := by decide) :
    PE X (.Call (.Attribute (.Name n p) "get" apos) [k, x] [] cpos) (tKGet2 tab ty tx) := by
  obtain ⟨es, cnt, kd⟩ := d.es
  refine ⟨fun pins s σ H Q I h => ?_⟩
  refine wpAny_Call_method m.base m.few m.line PySem.F.plainAttrs_dict PySem.F.slot_dict_get PySem.F.type_dict_get (ld_glob I hg hm ?_ hd)
  refine ⟨kd_type kd I, fun b q => ?_, ?_⟩
  · cases q
    exact ⟨_, I.kIn _ _ kd.at_, rfl⟩
  rw [m.trees]
  refine Calls.callWith_builtin rfl (Calls.evalArgs_plain (Calls.spliced_cons (thn (he.run pins s σ H _ I h) fun iv s2 ⟨y, H2, I2, ry, q2⟩ =>
    Calls.spliced_cons (thn (hf.run pins s2 σ H2 _ I2 q2) fun fv s3 ⟨z, H3, I3, rz, st, ey, q3⟩ => Calls.spliced_nil ?_))))
  subst ey
  obtain ⟨t, rfl⟩ := ry
  obtain ⟨r, e1, e2⟩ := d.val st
  have hmap := PySem.W.mapOf_K (prog := X.prog) (w := X.w) I3.kIn kd.at_ kd.lit
  refine call_meetsIn PySem.F.slot_dict_get hmap.typeIs PySem.F.entry_dict_get (PySem.F.args_dict_get_3 _ _ _) (meets_dict_get_default (strKind X.prog X.w) g (PySem.strKind_is X.prog X.w st t) kd.low fv) ⟨_, hmap, ?_⟩
  rw [PySem.W.find_K kd.at_ e1]
  exact ⟨_, H3, I3.tok _, e2.getD rz, q3⟩
def fKGet2 (tab : List (Str × Int)) (fk fx : FE) : FE := fun env S => (fk env S).bind fun p => (fx env p.2).bind fun q => match p.1 with
  | .str s => some (((tab.lookup s).map D.int).getD q.1, q.2)
  | _ => none
theorem se_kget2 {p apos cpos : Pos} (d : KD X.K X.w g tab) (hg : Gl X n) (hm : X.mg n = some (.ref g)) (hk : SE ct X k fk) (hx : SE ct X x fx) (m : M2 X (.Name n p) "get" apos k x cpos) (hd : (n == ("__debug__" : Str)) = false := by decide) :
    SE ct X (.Call (.Attribute (.Name n p) "get" apos) [k, x] [] cpos) (fKGet2 tab fk fx) := by
  obtain ⟨tb, pb, rb⟩ := hk
  obtain ⟨tc, pc, rc⟩ := hx
  refine ⟨_, pe_kget2 d hg hm pb pc m hd, fun m F S σ H env d S' Q s en h p => ?_⟩
  obtain ⟨⟨y, S1⟩, h1, h⟩ := bind_some h
  obtain ⟨⟨w, S2⟩, h2, h⟩ := bind_some h
  refine rb m F S σ H env y S1 _ s en h1 fun m1 F1 v1 H1 x1 s1 r1 => ?_
  refine rc m1 F1 S1 σ H1 env w S2 _ s1 (en.mono x1) h2 fun m2 F2 v2 H2 x2 s2 r2 => ?_
  cases y with
  | str st =>
    cases h
    refine ⟨st, r1, ?_⟩
    have p3 := (p.ext x1).ext x2
    cases hv : tab.lookup st with
    | none => simp only [hv] at p3; exact p3.now s2 r2
    | some i => simp only [hv] at p3; exact p3.now s2 rfl
  | _ => cases h
/-! ## methods of texts -/
def fPart (fo fe : FE) : FE := fun env S => (fo env S).bind fun p => match p.1 with
  | .str a => (fe env p.2).bind fun q => match q.1 with
    | .str b => if (b.length == 0) = false ∧ a.length ≤ 16777216 then some (.tup [.str (Txt.partition a b).1, .str (Txt.partition a b).2.1, .str (Txt.partition a b).2.2], q.2) else none
    | _ => none
  | _ => none
theorem se_part {apos pos : Pos} {fo fe : FE} (ho : SE ct X o fo) (he : SE ct X e fe) (hs : starEach [e] X.env = [(false, eval e X.env)] := by rfl) (hbase : attributeBase o "partition" X.env (eval o X.env) = eval o X.env := by rfl) (hline : (apos.endLine == pos.line) = true := by rfl) :
    SE ct X (.Call (.Attribute o "partition" apos) [e] [] pos) (fPart fo fe) := by
  obtain ⟨ta, pa, ra⟩ := ho
  obtain ⟨tb, pb, rb⟩ := he
  refine ⟨_, pe_partition pa pb hs hbase hline, fun m F S σ H env d S' Q s en h p => ?_⟩
  obtain ⟨⟨z, S1⟩, h1, h⟩ := bind_some h
  refine ra m F S σ H env z S1 _ s en h1 fun m1 F1 v1 H1 x1 s1 r1 => ?_
  cases z with
  | str a =>
    obtain ⟨⟨w, S2⟩, h2, h⟩ := bind_some (show (fe env S1).bind _ = _ from h)
    have r1 : v1 = .str a := r1
    refine ⟨⟨a, r1⟩, rb m1 F1 S1 σ H1 env w S2 _ s1 (en.mono x1) h2 fun m2 F2 v2 H2 x2 s2 r2 => ?_⟩
    cases w with
    | str b =>
      have h : (if (b.length == 0) = false ∧ a.length ≤ 16777216 then some (D.tup [.str (Txt.partition a b).1, .str (Txt.partition a b).2.1, .str (Txt.partition a b).2.2], S2) else none) = some (d, S') := h
      split at h
      · rename_i hl
        cases h
        have r2 : v2 = .str b := r2
        refine ⟨a, b, r1, by rw [r2], hl.1, by rw [line_eq]; exact hl.2, fun q hq => ?_⟩
        obtain ⟨s3, x3⟩ := s2.frozen hq (.tup [.str (Txt.partition a b).1, .str (Txt.partition a b).2.1, .str (Txt.partition a b).2.2])
        exact p _ _ (.ref q) _ ((x1.trans x2).trans x3) s3 ⟨q, _, rfl, SqT.of upd_same, ⟨_, _, rfl, rfl, _, _, rfl, rfl, _, _, rfl, rfl, rfl⟩⟩
      · cases h
    | _ => cases h
  | _ => cases h
def fSplit (fo fe : FE) : FE := fun env S => (fo env S).bind fun p => match p.1 with
  | .str a => (fe env p.2).bind fun q => match q.1 with
    | .str b => if (b.length == 0) = false ∧ a.length + 2 ≤ 16777216 then some (.lst ((Txt.split a b).map .str), q.2) else none
    | _ => none
  | _ => none
theorem Reps.strs {K : PySem.W.Frag} {m : List Addr} {F : Hp} (ys : List Str) : Reps K ct m F (ys.map D.str) (ys.map V.str) := by
  induction ys with
  | nil => exact rfl
  | cons n ns ih => exact ⟨_, _, rfl, rfl, ih⟩
theorem se_split {apos pos : Pos} {fo fe : FE} (ho : SE ct X o fo) (he : SE ct X e fe) (hs : starEach [e] X.env = [(false, eval e X.env)] := by rfl) (hbase : attributeBase o "split" X.env (eval o X.env) = eval o X.env := by rfl) (hline : (apos.endLine == pos.line) = true := by rfl) :
    SE ct X (.Call (.Attribute o "split" apos) [e] [] pos) (fSplit fo fe) := by
  obtain ⟨ta, pa, ra⟩ := ho
  obtain ⟨tb, pb, rb⟩ := he
  refine ⟨_, pe_split pa pb hs hbase hline, fun m F S σ H env d S' Q s en h p => ?_⟩
  obtain ⟨⟨z, S1⟩, h1, h⟩ := bind_some h
  refine ra m F S σ H env z S1 _ s en h1 fun m1 F1 v1 H1 x1 s1 r1 => ?_
  cases z with
  | str a =>
    obtain ⟨⟨w, S2⟩, h2, h⟩ := bind_some (show (fe env S1).bind _ = _ from h)
    have r1 : v1 = .str a := r1
    refine ⟨⟨a, r1⟩, rb m1 F1 S1 σ H1 env w S2 _ s1 (en.mono x1) h2 fun m2 F2 v2 H2 x2 s2 r2 => ?_⟩
    cases w with
    | str b =>
      have h : (if (b.length == 0) = false ∧ a.length + 2 ≤ 16777216 then some (D.lst ((Txt.split a b).map .str), S2) else none) = some (d, S') := h
      split at h
      · rename_i hl
        cases h
        have r2 : v2 = .str b := r2
        refine ⟨a, b, r1, by rw [r2], hl.1, by rw [line_eq]; exact hl.2, fun q hq => ?_⟩
        obtain ⟨s3, x3⟩ := s2.frozen hq (.lst ((Txt.split a b).map V.str))
        exact p _ _ (.ref q) _ ((x1.trans x2).trans x3) s3 ⟨q, _, rfl, upd_same, Reps.strs _⟩
      · cases h
    | _ => cases h
  | _ => cases h
/-! ## xs.append(e) of a cell -/
def fAppend (fo fe : FE) : FE := fun env S => (fo env S).bind fun p => match p.1 with
  | .ref k => match p.2[k]? with
    | some (.lst _) => (fe env p.2).bind fun q => match q.2[k]? with
      | some (.lst ds) => if ds.length ≤ 1000000 then some (.non, q.2.set k (.lst (ds ++ [q.1]))) else none
      | _ => none
    | _ => none
  | _ => none
theorem se_append {apos cpos : Pos} {fo fe : FE} (ho : SE ct X o fo) (he : SE ct X e fe) (hbase : attributeBase o "append" X.env (eval o X.env) = eval o X.env := by rfl)
    (hfew : ((backTo cpos (starEach [e] X.env)).all (fun x => !x.1) && (backToKw cpos (keywordEach [] X.env)).all (fun x => x.1.isSome)
      && decide (([e] : List Expr).length + ([] : List Keyword).length + (if ([] : List Keyword).isEmpty then 0 else 1) < 30)) = true := by rfl)
    (hline : (apos.endLine == cpos.line) = true := by rfl) (hs : starEach [e] X.env = (false, eval e X.env) :: starEach [] X.env := by rfl) (hplain : (backTo cpos (starEach [] X.env)).any (·.1) = false := by rfl) :
    SE ct X (.Call (.Attribute o "append" apos) [e] [] cpos) (fAppend fo fe) := by
  obtain ⟨ta, pa, ra⟩ := ho
  obtain ⟨tb, pb, rb⟩ := he
  refine ⟨_, pe_bm PySem.F.plainAttrs_list PySem.F.slot_list_append PySem.F.type_list_append mt_append pa (pa_cons pb pa_nil hs) hbase hfew hline hs hplain, fun m F S σ H env d S' Q s en h p => ?_⟩
  obtain ⟨⟨z, S1⟩, h1, h⟩ := bind_some h
  refine ra m F S σ H env z S1 _ s en h1 fun m1 F1 v1 H1 x1 s1 r1 => ?_
  cases z with
  | ref k =>
    obtain ⟨a, e1, e2⟩ := id r1
    obtain ⟨c1, hc1, cr1⟩ := s1.at e1
    subst e2
    cases c1 with
    | lst ds1 =>
      obtain ⟨vs1, g1, g2⟩ := cr1
      have h : (fe env S1).bind (fun q => match q.2[k]? with
        | some (.lst ds) => if ds.length ≤ 1000000 then some (D.non, q.2.set k (.lst (ds ++ [q.1]))) else none
        | _ => none) = some (d, S') := by simpa only [hc1] using h
      obtain ⟨⟨w, S2⟩, h2, h⟩ := bind_some h
      refine ⟨.inl ⟨rfl, _, SqL.of g1⟩, rb m1 F1 S1 σ H1 env w S2 _ s1 (en.mono x1) h2 fun m2 F2 v2 H2 x2 s2 r2 => ?_⟩
      have e3 := x2.pre _ _ e1
      obtain ⟨c2, hc2, cr2⟩ := s2.at e3
      cases c2 with
      | lst ds2 =>
        have h : (if ds2.length ≤ 1000000 then some (D.non, S2.set k (.lst (ds2 ++ [w]))) else none) = some (d, S') := by simpa only [hc2] using h
        split at h
        · rename_i hl
          cases h
          obtain ⟨vs2, g3, g4⟩ := cr2
          obtain ⟨s3, x3⟩ := s2.change e3 (o := .lst (vs2 ++ [v2])) (c := .lst (ds2 ++ [w])) ⟨_, rfl, g4.snoc r2⟩
          exact ⟨a, vs2, v2, rfl, rfl, g3, by rw [← g4.length, line_eq]; omega, p _ _ .non _ ((x1.trans x2).trans x3) s3 rfl⟩
        · cases h
      | dct _ => simp [hc2] at h
      | ins _ _ _ => simp [hc2] at h
      | tab _ => simp [hc2] at h
    | dct _ => simp [hc1] at h
    | ins _ _ _ => simp [hc1] at h
    | tab _ => simp [hc1] at h
  | _ => cases h
end
/-! ## garbage, freezing -/
mutual
def noRef : D → Bool
  | .ref _ => false
  | .tup ds => noRefs ds
  | .lst ds => noRefs ds
  | .dct _ ds => noRefs ds
  | .obj _ _ ds => noRefs ds
  | .exc _ _ ds => noRefs ds
  | _ => true
def noRefs : List D → Bool
  | [] => true
  | d :: ds => noRef d && noRefs ds
end
section
variable {K : PySem.W.Frag} {ct : CT}
mutual
theorem Rep.noref {m m' : List Addr} {F : Hp} : ∀ (d : D) (v : V), noRef d = true → Rep K ct m F d v → Rep K ct m' F d v
  | .non, _, _, h => h
  | .bl _, _, _, h => h
  | .int _, _, _, h => h
  | .str _, _, _, h => h
  | .scr _, _, _, h => h
  | .tup ds, _, n, h => by
    obtain ⟨a, vs, e1, e2, e3⟩ := h
    exact ⟨a, vs, e1, e2, Reps.noref ds vs n e3⟩
  | .lst ds, _, n, h => by
    obtain ⟨a, vs, e1, e2, e3⟩ := h
    exact ⟨a, vs, e1, e2, Reps.noref ds vs n e3⟩
  | .dct ks ds, _, n, h => by
    obtain ⟨a, vs, e1, e2, e4, e3⟩ := h
    exact ⟨a, vs, e1, e2, e4, Reps.noref ds vs n e3⟩
  | .ref i, _, n, h => by cases n
  | .obj c fs ds, _, n, h => by
    obtain ⟨a, C, dx, vs, e1, e2, e4, e5, e3⟩ := h
    exact ⟨a, C, dx, vs, e1, e2, e4, e5, Reps.noref ds vs n e3⟩
  | .exc c fs ds, _, n, h => by
    obtain ⟨a, C, dx, vs, e1, e2, e4, e6, e5, e3⟩ := h
    exact ⟨a, C, dx, vs, e1, e2, e4, e6, e5, Reps.noref ds vs n e3⟩
theorem Reps.noref {m m' : List Addr} {F : Hp} : ∀ (ds : List D) (vs : List V), noRefs ds = true → Reps K ct m F ds vs → Reps K ct m' F ds vs
  | [], _, _, h => h
  | d :: ds, _, n, h => by
    obtain ⟨v, r, e1, e2, e3⟩ := h
    have n : (noRef d && noRefs ds) = true := n
    simp only [Bool.and_eq_true] at n
    exact ⟨v, r, e1, Rep.noref d v n.1 e2, Reps.noref ds r n.2 e3⟩
end
mutual
theorem Rep.back {m m' : List Addr} {F F' : Hp} (hp : ∀ (i : Nat) (a : Addr), m[i]? = some a → m'[i]? = some a) : ∀ (d : D) (v0 v : V), Rep K ct m F d v0 → Rep K ct m' F' d v → Rep K ct m F' d v
  | .non, _, _, _, h => h
  | .bl _, _, _, _, h => h
  | .int _, _, _, _, h => h
  | .str _, _, _, _, h => h
  | .scr _, _, _, _, h => h
  | .tup ds, _, _, h0, h => by
    obtain ⟨a, vs, e1, e2, e3⟩ := h
    obtain ⟨_, vs0, _, _, e0⟩ := h0
    exact ⟨a, vs, e1, e2, Reps.back hp ds vs0 vs e0 e3⟩
  | .lst ds, _, _, h0, h => by
    obtain ⟨a, vs, e1, e2, e3⟩ := h
    obtain ⟨_, vs0, _, _, e0⟩ := h0
    exact ⟨a, vs, e1, e2, Reps.back hp ds vs0 vs e0 e3⟩
  | .dct ks ds, _, _, h0, h => by
    obtain ⟨a, vs, e1, e2, e4, e3⟩ := h
    obtain ⟨_, vs0, _, _, _, e0⟩ := h0
    exact ⟨a, vs, e1, e2, e4, Reps.back hp ds vs0 vs e0 e3⟩
  | .ref i, _, _, h0, h => by
    obtain ⟨a0, q1, q2⟩ := h0
    obtain ⟨a, q3, q4⟩ := h
    rw [hp i a0 q1] at q3
    cases q3
    exact ⟨a0, q1, q4⟩
  | .obj c fs ds, _, _, h0, h => by
    obtain ⟨a, C, dx, vs, e1, e2, e4, e5, e3⟩ := h
    obtain ⟨_, _, _, vs0, _, _, _, _, e0⟩ := h0
    exact ⟨a, C, dx, vs, e1, e2, e4, e5, Reps.back hp ds vs0 vs e0 e3⟩
  | .exc c fs ds, _, _, h0, h => by
    obtain ⟨a, C, dx, vs, e1, e2, e4, e6, e5, e3⟩ := h
    obtain ⟨_, _, _, vs0, _, _, _, _, _, e0⟩ := h0
    exact ⟨a, C, dx, vs, e1, e2, e4, e6, e5, Reps.back hp ds vs0 vs e0 e3⟩
theorem Reps.back {m m' : List Addr} {F F' : Hp} (hp : ∀ (i : Nat) (a : Addr), m[i]? = some a → m'[i]? = some a) : ∀ (ds : List D) (vs0 vs : List V), Reps K ct m F ds vs0 → Reps K ct m' F' ds vs → Reps K ct m F' ds vs
  | [], _, _, _, h => h
  | d :: ds, _, _, h0, h => by
    obtain ⟨v, r, e1, e2, e3⟩ := h
    obtain ⟨v0, r0, _, g2, g3⟩ := h0
    exact ⟨v, r, e1, Rep.back hp d v0 v g2 e2, Reps.back hp ds r0 r g3 e3⟩
end
def cellFree : Cell → Bool
  | .lst ds => noRefs ds
  | .dct kvs => kvs.all fun kv => noRef kv.2
  | .ins _ _ ds => noRefs ds
  | .tab _ => true
theorem CellR.noref {m m' : List Addr} {F : Hp} {o : Option HO} {c : Cell} (n : cellFree c = true) (h : CellR K ct m F o c) : CellR K ct m' F o c := by
  cases c with
  | lst ds => obtain ⟨vs, e1, e2⟩ := h; exact ⟨vs, e1, Reps.noref _ _ n e2⟩
  | dct kvs =>
    obtain ⟨us, e1, e2⟩ := h
    refine ⟨us, e1, ?_⟩
    replace n : (kvs.all fun kv => noRef kv.2) = true := n
    clear e1
    induction e2 with
    | nil => exact .nil
    | cons hh _ ih =>
      simp only [List.all_cons, Bool.and_eq_true] at n
      exact .cons ⟨hh.1, Rep.noref _ _ n.1 hh.2⟩ (ih n.2)
  | ins c fs ds => obtain ⟨C, dx, vs, e1, e4, e3, e2⟩ := h; exact ⟨C, dx, vs, e1, e4, e3, Reps.noref _ _ n e2⟩
  | tab q => exact h
theorem CellR.back {m m' : List Addr} {F F' : Hp} (hp : ∀ (i : Nat) (a : Addr), m[i]? = some a → m'[i]? = some a) {o o0 : Option HO} {c : Cell} (h0 : CellR K ct m F o0 c) (h : CellR K ct m' F' o c) : CellR K ct m F' o c := by
  cases c with
  | lst ds =>
    obtain ⟨vs, e1, e2⟩ := h
    obtain ⟨vs0, _, e0⟩ := h0
    exact ⟨vs, e1, Reps.back hp _ _ _ e0 e2⟩
  | dct kvs =>
    obtain ⟨us, e1, e2⟩ := h
    obtain ⟨us0, z0, e0⟩ := h0
    refine ⟨us, e1, ?_⟩
    clear e1 z0
    induction e2 generalizing us0 with
    | nil => exact .nil
    | cons hh _ ih =>
      cases e0 with
      | cons g0 g1 => exact .cons ⟨hh.1, Rep.back hp _ _ _ g0.2 hh.2⟩ (ih _ g1)
  | ins c fs ds =>
    obtain ⟨C, dx, vs, e1, e4, e3, e2⟩ := h
    obtain ⟨_, _, vs0, _, _, _, e0⟩ := h0
    exact ⟨C, dx, vs, e1, e4, e3, Reps.back hp _ _ _ e0 e2⟩
  | tab q => exact h
/-- the cells of S, as they stand now: unchanged, or without references -/
def Old (S S1 : Sto) : Prop := S1.length = S.length ∧ ∀ (i : Nat) (c : Cell), S1[i]? = some c → S[i]? = some c ∨ cellFree c = true
theorem Old.refl (S : Sto) : Old S S := ⟨rfl, fun _ _ h => .inl h⟩
/-- what a caller may be told in the place of g's own end: the cells that were made within are dropped; a list's cell among them may be handed back as a list that stays -/
inductive Told (S : Sto) : D × Sto → D × Sto → Prop
  | same (r : D × Sto) : Told S r r
  | drop {d : D} {S1 more : Sto} (h : noRef d = true) (ho : Old S S1) : Told S (d, S1 ++ more) (d, S1)
  | frzL {ds : List D} {S1 more : Sto} {i : Nat} (h : noRefs ds = true) (ho : Old S S1) (hi : more[i]? = some (.lst ds)) : Told S (.ref (S1.length + i), S1 ++ more) (.lst ds, S1)
theorem drop_sim {m m' : List Addr} {F F' H H' : Hp} {S S1 more : Sto} (ho : Old S S1) (s : Sim K ct m F S H) (x : Ext m F H m' F' H') (s' : Sim K ct m' F' (S1 ++ more) H') :
    Sim K ct (m'.take S1.length) F' S1 H' ∧ Ext m F H (m'.take S1.length) F' H' := by
  have hl := s'.len
  rw [List.length_append] at hl
  have sub : ∀ a ∈ m'.take S1.length, a ∈ m' := fun a h => List.mem_of_mem_take h
  have hml : m.length = S1.length := by rw [s.len, ho.1]
  have pre : ∀ (i : Nat) (a : Addr), m[i]? = some a → (m'.take S1.length)[i]? = some a := fun i a h => by
    have hi : i < m.length := (List.getElem?_eq_some_iff.mp h).1
    rw [List.getElem?_take_of_lt (by omega)]
    exact x.pre i a h
  have eqm : m = m'.take S1.length := by
    apply List.ext_getElem?
    intro i
    by_cases hi : i < m.length
    · have h1 : m[i]? = some m[i] := List.getElem?_eq_getElem hi
      rw [h1, pre i _ h1]
    · rw [List.getElem?_eq_none (by omega), List.getElem?_eq_none (by rw [List.length_take]; omega)]
  refine ⟨⟨s'.same, by rw [List.length_take]; omega, s'.nd.sublist (List.take_sublist _ _), fun a h => s'.off a (sub a h), fun i a c h1 h2 => ?_, fun i a c q h1 h2 h3 => ?_⟩, ⟨pre, x.same, x.keep, fun a h => x.new a (sub a h), x.fnew, x.grow⟩⟩
  · have hi : i < S1.length := (List.getElem?_eq_some_iff.mp h2).1
    have h1' : m'[i]? = some a := by rw [List.getElem?_take_of_lt hi] at h1; exact h1
    have cr := s'.cell i a c h1' (by rw [List.getElem?_append_left hi]; exact h2)
    rcases ho.2 i c h2 with q | q
    · rw [← eqm]
      rw [← eqm] at h1
      exact CellR.back x.pre (s.cell i a c h1 q) cr
    · exact cr.noref q
  · have hi : i < S1.length := (List.getElem?_eq_some_iff.mp h2).1
    exact s'.tab i a c q (by rw [List.getElem?_take_of_lt hi] at h1; exact h1) (by rw [List.getElem?_append_left hi]; exact h2) h3
end
section
variable {P : Program} {w : World} {K : PySem.W.Frag} {mg : Str → Option Value} {base : Heap} {ct : CT}
theorem told_ok {k n : Nat} {f : Addr} {fd : FuncData} {ps : List Str} {g g' : FD} (G : FnG P w K mg base k f fd ps (spD K ct n g)) (h : ∀ ds S r', g' ds S = some r' → ∃ r, g ds S = some r ∧ Told S r r') : FnG P w K mg base k f fd ps (spD K ct n g') := by
  refine G.imp fun vs H Q E hs => ?_
  obtain ⟨hl, m, F, S, ds, d', S1, sim, reps, hg, post⟩ := hs
  obtain ⟨⟨d, S'⟩, h1, h2⟩ := h ds S (d', S1) hg
  refine ⟨hl, m, F, S, ds, d, S', sim, reps, h1, ?_⟩
  cases h2 with
  | same => exact post
  | drop hn ho =>
    intro m' F' v H' x s' r
    obtain ⟨s2, x2⟩ := drop_sim ho sim x s'
    exact post _ F' v H' x2 s2 (Rep.noref _ _ hn r)
  | @frzL ds' _ more i hn ho hi =>
    intro m' F' v H' x s' r
    obtain ⟨s2, x2⟩ := drop_sim ho sim x s'
    obtain ⟨L, q1, q2⟩ := r
    subst q2
    have hL : (S1 ++ more)[S1.length + i]? = some (.lst ds') := by
      rw [List.getElem?_append_right (by omega), Nat.add_sub_cancel_left]
      exact hi
    obtain ⟨vs', c1, c2⟩ := s'.cell _ L _ q1 hL
    have mL : L ∈ m' := List.mem_iff_getElem?.mpr ⟨_, q1⟩
    have fL : F' L = none := s'.off L mL
    have nL : L ∉ m'.take S1.length := fun hm => by
      obtain ⟨j, hj⟩ := List.mem_iff_getElem?.mp hm
      have hjl : j < S1.length := by
        have := (List.getElem?_eq_some_iff.mp hj).1
        rw [List.length_take] at this
        omega
      rw [List.getElem?_take_of_lt hjl] at hj
      have := nodup_inj s'.nd hj q1
      omega
    have hH : H L = none := by
      rcases x.new L mL with z | z
      · obtain ⟨j, hj⟩ := List.mem_iff_getElem?.mp z
        exact absurd (List.mem_iff_getElem?.mpr ⟨j, x2.pre j L hj⟩) nL
      · exact z
    exact post _ (upd F' L (.lst vs')) (.ref L) H' (x2.freeze hH fL _) (s2.freeze nL fL c1) ⟨L, vs', rfl, upd_same, Reps.mono' (fun _ _ q => q) (same_upd fL _) _ _ (Reps.noref _ _ hn c2)⟩
end
end DL

namespace DL
open PySem PySem.Spec PyProof.Rows L2
section
variable {ct : CT} {X : Cx} {a b e : Expr} {es : List Expr} {fa fb f : FE} {fas : FA}
/-! ## list(range(n)), list(range(a, b)) -/
def fListR1 (fa : FE) : FE := fun env S => (fa env S).bind fun p => match p.1 with
  | .int n => if okR n = true ∧ n ≤ 16777216 then some (.lst (rangeD 0 n), p.2) else none
  | _ => none
def fListR2 (fa fb : FE) : FE := fun env S => (fa env S).bind fun p => (fb env p.2).bind fun q => match p.1, q.1 with
  | .int i, .int j => if okR i = true ∧ okR j = true ∧ j - i ≤ 16777216 then some (.lst (rangeD i j), q.2) else none
  | _, _ => none
theorem range_reps {K : PySem.W.Frag} {m : List Addr} {F : Hp} (a b : Int) : Reps K ct m F (rangeD a b) (rgV a b) := by
  unfold rangeD rgV
  induction List.range (b - a).toNat with
  | nil => exact rfl
  | cons n ns ih => exact ⟨_, _, rfl, rfl, ih⟩
theorem se_listR1 {p q pos pos' : Pos} (hc : X.calm = true) (hg : Gl X "list") (hm : X.mg "list" = none) (hg2 : Gl X "range") (hm2 : X.mg "range" = none) (ha : SE ct X a fa) (na : starEach [a] X.env = (false, eval a X.env) :: starEach [] X.env := by rfl)
    (nb : starEach [.Call (.Name "range" q) [a] [] pos'] X.env = (false, eval (.Call (.Name "range" q) [a] [] pos') X.env) :: starEach [] X.env := by rfl) : SE ct X (.Call (.Name "list" p) [.Call (.Name "range" q) [a] [] pos'] [] pos) (fListR1 fa) := by
  obtain ⟨ta, pa, ra⟩ := ha
  refine ⟨_, pe_listRg hc hg hm (prg_1 hg2 hm2 pa na) nb, fun m F S σ H env d S' Q s en h p => ?_⟩
  obtain ⟨⟨z, S1⟩, h1, h⟩ := bind_some h
  refine ra m F S σ H env z S1 _ s en h1 fun m1 F1 v1 H1 x1 s1 r1 => ?_
  cases z with
  | int n =>
    have h : (if okR n = true ∧ n ≤ 16777216 then some (D.lst (rangeD 0 n), S1) else none) = some (d, S') := h
    split at h
    · rename_i hn
      cases h
      refine ⟨n, r1, ⟨by decide, by decide, (okR_ok hn.1).1, (okR_ok hn.1).2, ?_⟩, fun q hq => ?_⟩
      · show (n - 0).toNat ≤ 2 ^ 24
        omega
      · obtain ⟨s2, x2⟩ := s1.frozen hq (.lst (rgV 0 n))
        exact p _ _ (.ref q) _ (x1.trans x2) s2 ⟨q, _, rfl, upd_same, range_reps 0 n⟩
    · cases h
  | _ => cases h
theorem se_listR2 {p q pos pos' : Pos} (hc : X.calm = true) (hg : Gl X "list") (hm : X.mg "list" = none) (hg2 : Gl X "range") (hm2 : X.mg "range" = none) (ha : SE ct X a fa) (hb : SE ct X b fb) (na : starEach [a, b] X.env = (false, eval a X.env) :: starEach [b] X.env := by rfl)
    (na2 : starEach [b] X.env = (false, eval b X.env) :: starEach [] X.env := by rfl) (hpp : ((backTo pos' (starEach [b] X.env)).any fun x => x.1) = false := by rfl)
    (nb : starEach [.Call (.Name "range" q) [a, b] [] pos'] X.env = (false, eval (.Call (.Name "range" q) [a, b] [] pos') X.env) :: starEach [] X.env := by rfl) : SE ct X (.Call (.Name "list" p) [.Call (.Name "range" q) [a, b] [] pos'] [] pos) (fListR2 fa fb) := by
  obtain ⟨ta, pa, ra⟩ := ha
  obtain ⟨tb, pb, rb⟩ := hb
  refine ⟨_, pe_listRg hc hg hm (prg_2 hg2 hm2 pa pb na na2 hpp) nb, fun m F S σ H env d S' Q s en h p => ?_⟩
  obtain ⟨⟨z, S1⟩, h1, h⟩ := bind_some h
  obtain ⟨⟨w, S2⟩, h2, h⟩ := bind_some h
  refine ra m F S σ H env z S1 _ s en h1 fun m1 F1 v1 H1 x1 s1 r1 => ?_
  refine rb m1 F1 S1 σ H1 env w S2 _ s1 (en.mono x1) h2 fun m2 F2 v2 H2 x2 s2 r2 => ?_
  cases z with
  | int i =>
    cases w with
    | int j =>
      have h : (if okR i = true ∧ okR j = true ∧ j - i ≤ 16777216 then some (D.lst (rangeD i j), S2) else none) = some (d, S') := h
      split at h
      · rename_i hn
        cases h
        refine ⟨i, j, r1, r2, ⟨(okR_ok hn.1).1, (okR_ok hn.1).2, (okR_ok hn.2.1).1, (okR_ok hn.2.1).2, ?_⟩, fun q hq => ?_⟩
        · show (j - i).toNat ≤ 2 ^ 24
          omega
        · obtain ⟨s3, x3⟩ := s2.frozen hq (.lst (rgV i j))
          exact p _ _ (.ref q) _ ((x1.trans x2).trans x3) s3 ⟨q, _, rfl, upd_same, range_reps i j⟩
      · cases h
    | _ => cases h
  | _ => cases h
end
/-! ## written things by name -/
def KG (w : World) (K : PySem.W.Frag) (mg : Str → Option Value) (n : Str) (tab : List (Str × Int)) : Prop := ∃ g, mg n = some (.ref g) ∧ KD K w g tab
def CG (mg : Str → Option Value) (n : Str) (v : V) : Prop := ∃ u, mg n = some u ∧ RelV v u
section
variable {ct : CT} {X : Cx} {e k x : Expr} {f fk fx : FE} {tab : List (Str × Int)} {n : Str}
theorem se_globC {v : V} {d : D} {pos : Pos} (hg : Gl X n) (c : CG X.mg n v) (hr : ∀ m F, Rep X.K ct m F d v) (hd : (n == ("__debug__" : Str)) = false := by decide) : SE ct X (.Name n pos) (fC d) := by
  obtain ⟨u, h1, h2⟩ := c
  exact se_glob hg h1 h2 hr hd
theorem se_kinG {p pos : Pos} (d : KG X.w X.K X.mg n tab) (hg : Gl X n) (he : SE ct X e f) (hd : (n == ("__debug__" : Str)) = false := by decide) : SE ct X (.Compare e [.In] [.Name n p] pos) (fKIn false tab f) := by
  obtain ⟨g, h1, h2⟩ := d
  exact se_kin h2 hg h1 he hd
theorem se_knotinG {p pos : Pos} (d : KG X.w X.K X.mg n tab) (hg : Gl X n) (he : SE ct X e f) (hd : (n == ("__debug__" : Str)) = false := by decide) : SE ct X (.Compare e [.NotIn] [.Name n p] pos) (fKIn true tab f) := by
  obtain ⟨g, h1, h2⟩ := d
  exact se_knotin h2 hg h1 he hd
theorem st_kinG {p pos : Pos} (d : KG X.w X.K X.mg n tab) (hg : Gl X n) (he : SE ct X e f) (hd : (n == ("__debug__" : Str)) = false := by decide) : ST ct X (.Compare e [.In] [.Name n p] pos) (fTest (fKIn false tab f)) := by
  obtain ⟨g, h1, h2⟩ := d
  exact st_kin h2 hg h1 he hd
theorem st_knotinG {p pos : Pos} (d : KG X.w X.K X.mg n tab) (hg : Gl X n) (he : SE ct X e f) (hd : (n == ("__debug__" : Str)) = false := by decide) : ST ct X (.Compare e [.NotIn] [.Name n p] pos) (fTest (fKIn true tab f)) := by
  obtain ⟨g, h1, h2⟩ := d
  exact st_knotin h2 hg h1 he hd
theorem se_kixG {p pos : Pos} (d : KG X.w X.K X.mg n tab) (hg : Gl X n) (he : SE ct X e f) (hs : PlainIx e) (hd : (n == ("__debug__" : Str)) = false := by decide) : SE ct X (.Subscript (.Name n p) e pos) (fKIx tab f) := by
  obtain ⟨g, h1, h2⟩ := d
  exact se_kix h2 hg h1 he hs hd
theorem se_kget2G {p apos cpos : Pos} (d : KG X.w X.K X.mg n tab) (hg : Gl X n) (hk : SE ct X k fk) (hx : SE ct X x fx) (m : M2 X (.Name n p) "get" apos k x cpos) (hd : (n == ("__debug__" : Str)) = false := by decide) :
    SE ct X (.Call (.Attribute (.Name n p) "get" apos) [k, x] [] cpos) (fKGet2 tab fk fx) := by
  obtain ⟨g, h1, h2⟩ := d
  exact se_kget2 h2 hg h1 hk hx m hd
end
/-! ## defs by name -/
/-- the values of a call by name, in the parameters' order -/
def kwG (idx : List Nat) {α : Type} (vs zs : List α) : List α := vs ++ idx.filterMap fun i => zs[i]?
abbrev KWB := List (List Str × List Nat)
def KwOk (K : PySem.W.Frag) (fd : FuncData) (ps : List Str) (n : Nat) (kwb : KWB) : Prop := ∀ b ∈ kwb, KBn K fd ps n b.1 (kwG b.2) (kwG b.2)
def Callee (P : Program) (w : World) (K : PySem.W.Frag) (mg : Str → Option Value) (base : Heap) (ct : CT) (k : Nat) (x : Str) (n : Nat) (g : FD) (kwb : KWB := []) : Prop :=
  ∃ (f : Addr) (fd : FuncData) (ps : List Str), mg x = some (.ref f) ∧ PySem.W.keepIn K (.ref f) = true ∧ (Binds K fd ps [] ∧ KwOk K fd ps 0 kwb) ∧ FnG P w K mg base k f fd ps (spD K ct n g)
def DefAt (K : PySem.W.Frag) (mg : Str → Option Value) (x : Str) (st : Stmt) (ps : List Str) (kwb : KWB := []) : Prop := ∃ (f : Addr) (fd : FuncData), Fun K x x st f fd ∧ mg x = some (.ref f) ∧ Binds K fd ps [] ∧ KwOk K fd ps 0 kwb
section
variable {P : Program} {w : World} {K : PySem.W.Frag} {mg : Str → Option Value} {base : Heap} {ct : CT}
theorem Callee.mono {j k n : Nat} {x : Str} {g : FD} {kwb : KWB} (c : Callee P w K mg base ct j x n g kwb) (h : j ≤ k) : Callee P w K mg base ct k x n g kwb := by
  obtain ⟨f, fd, ps, h1, h2, h3, h4⟩ := c
  exact ⟨f, fd, ps, h1, h2, h3, h4.mono h⟩
theorem Callee.told {k n : Nat} {x : Str} {g g' : FD} {kwb : KWB} (c : Callee P w K mg base ct k x n g kwb) (h : ∀ ds S r', g' ds S = some r' → ∃ r, g ds S = some r ∧ Told S r r') : Callee P w K mg base ct k x n g' kwb := by
  obtain ⟨f, fd, ps, h1, h2, h3, h4⟩ := c
  exact ⟨f, fd, ps, h1, h2, h3, told_ok h4 h⟩
theorem callee_of {x : Str} {st : Stmt} {N ps : List Str} {k : Nat} {g : FS} {kwb : KWB} (d : DefAt K mg x st ps kwb) (S : FnScope N ps (defScope st))
    (hbody : ∀ (f : Addr) (cdv : Value) (A : Around) (outer : List Env) (s : Shared) (H : Hp) (E : XK), RoomG k (A.deeper (envOfC x (defScope st) s.heap.objs.size f cdv)) →
      SSs ct (cxOf CX0 P w K mg base N x (defScope st) f cdv A outer s H E).nox (defBody st) g) : Callee P w K mg base ct (k + 1) x ps.length (runD N.length g) kwb := by
  obtain ⟨f, fd, F, h1, h3⟩ := d
  exact ⟨f, fd, ps, h1, F.kp, h3, def_ok F S (hbody f)⟩
end
section
variable {ct : CT} {X : Cx} {e : Expr} {es : List Expr} {fas : FA} {x : Str} {p pos : Pos}
theorem se_fn {k n : Nat} {g : FD} {kwb : KWB} (C : Callee X.prog X.w X.K X.mg X.base ct k x n g kwb) (hr : RoomG k X.A) (hg : Gl X x) (ha : SA ct X (e :: es) fas) (hn : ∀ env S ds S', fas env S = some (ds, S') → ds.length = n) (hdb : (x == ("__debug__" : Str)) = false := by decide)
    (he : starEach (e :: es) X.env = (false, eval e X.env) :: starEach es X.env := by rfl) (hpl : (backTo pos (starEach es X.env)).any (·.1) = false := by rfl) : SE ct X (.Call (.Name x p) (e :: es) [] pos) (fCall g fas) := by
  obtain ⟨f, fd, ps, h1, h2, h3, h4⟩ := C
  exact se_call h4 hr hg h1 h2 h3.1 ha hn hdb he hpl
end
end DL

namespace DL
open PySem PySem.Spec PyProof.Rows L2
/-! ## a written dict by its entries -/
def TabOk (P : Params) : List (Str × Int) → List DictEntry → Prop
  | [], [] => True
  | p :: tab, e :: l => (∃ t t', e.key = .str p.1 t ∧ e.hash = PyData.keyHash P p.1 ∧ e.val = .int p.2 t') ∧ TabOk P tab l
  | _, _ => False
theorem TabOk.lit {P : Params} : ∀ {tab : List (Str × Int)} {l : List DictEntry}, TabOk P tab l → PySem.W.KeysLit P l
  | [], [], _ => trivial
  | p :: tab, e :: l, h => ⟨let ⟨t, _, h1, h2, _⟩ := h.1; ⟨p.1, t, h1, h2⟩, TabOk.lit h.2⟩
  | [], _ :: _, h => h.elim
  | _ :: _, [], h => h.elim
theorem TabOk.find {P : Params} (z : Str) : ∀ {tab : List (Str × Int)} {l : List DictEntry}, TabOk P tab l → RelO ((tab.lookup z).map V.int) ((l.find? fun e => e.key.isStr z).map (·.val)) ∧ (l.any fun e => e.refKey) = false
  | [], [], _ => ⟨trivial, rfl⟩
  | p :: tab, e :: l, h => by
    obtain ⟨⟨t, t', h1, h2, h3⟩, h4⟩ := h
    obtain ⟨i1, i2⟩ := TabOk.find z h4
    obtain ⟨k, i⟩ := p
    have hk : e.key.isStr z = (z == k) := by
      rw [h1, PySem.W.isStr_of]
      simp [Value.isStrOf, BEq.comm]
    refine ⟨?_, ?_⟩
    · rw [List.find?_cons, hk, List.lookup_cons]
      cases hz : z == k with
      | true => exact ⟨t', h3⟩
      | false => exact i1
    · rw [List.any_cons, i2]
      have : e.refKey = false := by
        unfold DictEntry.refKey
        rw [h1]
      rw [this]; rfl
  | [], _ :: _, h => h.elim
  | _ :: _, [], h => h.elim
theorem kg_of {w : World} {K : PySem.W.Frag} {mg : Str → Option Value} {n : Str} {tab : List (Str × Int)} {g : Addr} {es : Array DictEntry} {c : Nat} (hm : mg n = some (.ref g)) (hl : K.lookup g = some ⟨.type "dict", none, .dict es c, #[]⟩) (ht : TabOk w.params tab es.toList) (lo : (g == sysModules) = false) : KG w K mg n tab := by
  refine ⟨g, hm, ⟨es, c, hl, ht.lit, lo⟩, fun z => ?_⟩
  obtain ⟨h1, h2⟩ := ht.find z
  unfold PySem.W.nsIn
  rw [hl]
  dsimp only
  cases hf : es.toList.find? (fun e => e.key.isStr z) with
  | some e =>
    rw [hf] at h1
    exact ⟨some e.val, rfl, h1⟩
  | none =>
    rw [hf] at h1
    refine ⟨none, ?_, h1⟩
    simp only [h2]
    rfl
/-- the law's end: the script alone is tracked -/
theorem sp_law {K : PySem.W.Frag} {ct : CT} {g : FD} {H : Hp} {a : Addr} {ns : List Int} {E : XK} (hS : SqL K H a (ns.map V.int)) (h : ∃ S', g [.scr ns] [] = some (.bl true, S')) : spD K ct 1 g [.ref a] H (fun v _ => v = .bl true) E := by
  obtain ⟨S', h⟩ := h
  exact ⟨rfl, [], H, [], [.scr ns], .bl true, S', ⟨Same.refl _, rfl, List.nodup_nil, fun a h => (by cases h), fun i a c h1 h2 => (by simp at h1), fun i a c q h1 => (by simp at h1)⟩, ⟨_, _, rfl, ⟨a, rfl, hS⟩, rfl⟩, h, fun m' F' v H' _ _ r => r⟩
end DL

namespace DL
open PySem PySem.Spec PyProof.Rows L2
/-! ## steps of a run -/
section
variable {env env' : DEnv} {S S1 S2 : Sto} {f1 f2 : FS} {t : FT} {f : FE} {d : D}
theorem seq_nx (h : f1 env S = some (.nx env', S1)) : sSeq f1 f2 env S = f2 env' S1 := by unfold sSeq; rw [h]; rfl
theorem seq_rt (h : f1 env S = some (.rt d, S1)) : sSeq f1 f2 env S = some (.rt d, S1) := by unfold sSeq; rw [h]; rfl
theorem if_t (h : t env S = some (true, S1)) : sIf t f1 f2 env S = f1 env S1 := by unfold sIf; rw [h]; rfl
theorem if_f (h : t env S = some (false, S1)) : sIf t f1 f2 env S = f2 env S1 := by unfold sIf; rw [h]; rfl
theorem ret_of (h : f env S = some (d, S1)) : sRet f env S = some (.rt d, S1) := by unfold sRet; rw [h]; rfl
theorem asg_of {g : FG} (h : f env S = some (d, S1)) (hg : g d env S1 = some (env', S2)) : sAsg f g env S = some (.nx env', S2) := by unfold sAsg; rw [h]; show (g d env S1).map _ = _; rw [hg]; rfl
theorem set_of {i : Nat} (h : f env S = some (d, S1)) : sAsg f (gN i) env S = some (.nx (env.set i (some d)), S1) := by unfold sAsg; rw [h]; rfl
theorem expr_of (h : f env S = some (d, S1)) : sExpr f env S = some (.nx env, S1) := by unfold sExpr; rw [h]; rfl
theorem call_of {g : FD} {fas : FA} {ds : List D} {r : D × Sto} (h : fas env S = some (ds, S1)) (hg : g ds S1 = some r) : fCall g fas env S = some r := by unfold fCall; rw [h]; exact hg
theorem test_of {b : Bool} (h : f env S = some (.bl b, S1)) : fTest f env S = some (b, S1) := by unfold fTest; rw [h]; rfl
theorem run_of {n : Nat} {g : FS} {ds : List D} (h : g (ds.map some ++ List.replicate (n - ds.length) none) S = some (.rt d, S1)) : runD n g ds S = some (d, S1) := by unfold runD; rw [h]; rfl
theorem run_of0 {n : Nat} {g : FS} {ds : List D} (h : g (ds.map some ++ List.replicate (n - ds.length) none) S = some (.nx env', S1)) : runD n g ds S = some (.non, S1) := by unfold runD; rw [h]; rfl
theorem tnot_of {b : Bool} (h : t env S = some (b, S1)) : tNotD t env S = some (!b, S1) := by unfold tNotD; rw [h]; rfl
theorem for_of {fi : FA} {g : FG} {items : List D} {r : Fl × Sto} (h : fi env S = some (items, S1)) (hf : forD g f1 items env S1 = some r) : sFor fi g f1 env S = some r := by unfold sFor; rw [h]; exact hf
theorem if_of {fa fb : FE} {b : Bool} {r : D × Sto} (h : t env S = some (b, S1)) (h2 : (if b = true then fa env S1 else fb env S1) = some r) : fIf t fa fb env S = some r := by unfold fIf; rw [h]; exact h2
theorem bin_of {g : D → D → Sto → Option (D × Sto)} {fa fb : FE} {x y : D} {r : D × Sto} (h1 : fa env S = some (x, S1)) (h2 : fb env S1 = some (y, S2)) (h3 : g x y S2 = some r) : fBin g fa fb env S = some r := by unfold fBin; rw [h1]; show (fb env S1).bind _ = _; rw [h2]; exact h3
theorem chain_of {g g' : D → D → Sto → Option (D × Sto)} {fa fb fc : FE} {x y : D} {b : Bool} {S3 : Sto} (h1 : fa env S = some (x, S1)) (h2 : fb env S1 = some (y, S2)) (h3 : g x y S2 = some (.bl b, S3)) :
    fChain g g' fa fb fc env S = if b = true then (fc env S3).bind (fun w => g' y w.1 w.2) else some (.bl false, S3) := by
  unfold fChain; rw [h1]; show (fb env S1).bind _ = _; rw [h2]; show (g x y S2).bind _ = _; rw [h3]; cases b <;> rfl
theorem or_of {u : FT} {b : Bool} (h : t env S = some (b, S1)) : tOrD t u env S = if b = true then some (true, S1) else u env S1 := by unfold tOrD; rw [h]; rfl
theorem and_of {u : FT} {b : Bool} (h : t env S = some (b, S1)) : tAndD t u env S = if b = true then u env S1 else some (false, S1) := by unfold tAndD; rw [h]; rfl
theorem vor_of {fa fb : FE} {b : Bool} (h : fa env S = some (.bl b, S1)) : fOr fa fb env S = if b = true then some (.bl true, S1) else fb env S1 := by unfold fOr; rw [h]; cases b <;> rfl
theorem vand_of {fa fb : FE} {b : Bool} (h : fa env S = some (.bl b, S1)) : fAnd fa fb env S = if b = true then fb env S1 else some (.bl false, S1) := by unfold fAnd; rw [h]; cases b <;> rfl
theorem cons_of {fs : FA} {x : D} {ys : List D} (h1 : f env S = some (x, S1)) (h2 : fs env S1 = some (ys, S2)) : fCons f fs env S = some (x :: ys, S2) := by unfold fCons; rw [h1]; show (fs env S1).bind _ = _; rw [h2]; rfl
/-! ## loops by an invariant -/
theorem for_inv {g : FG} {body : FS} {items : List D} (I : Nat → DEnv → Sto → Prop) (h0 : I 0 env S)
    (hs : ∀ i d env S, items[i]? = some d → I i env S → ∃ env1 S1 env2 S2, g d env S = some (env1, S1) ∧ body env1 S1 = some (.nx env2, S2) ∧ I (i + 1) env2 S2) : ∃ env' S', forD g body items env S = some (.nx env', S') ∧ I items.length env' S' := by
  suffices h : ∀ (r : List D) (i : Nat) (env : DEnv) (S : Sto), items.drop i = r → I i env S → ∃ env' S', forD g body r env S = some (.nx env', S') ∧ I (i + r.length) env' S' by
    obtain ⟨e1, S1, h1, h2⟩ := h items 0 env S rfl h0
    exact ⟨e1, S1, h1, by simpa using h2⟩
  intro r
  induction r with
  | nil => intro i env S _ hi; exact ⟨env, S, rfl, hi⟩
  | cons d r ih =>
    intro i env S hd hi
    obtain ⟨q1, q2⟩ := drop_cons hd
    obtain ⟨env1, S1, env2, S2, a1, a2, a3⟩ := hs i d env S q1 hi
    obtain ⟨env', S', b1, b2⟩ := ih (i + 1) env2 S2 q2 a3
    refine ⟨env', S', ?_, by rw [List.length_cons, ← Nat.add_assoc, Nat.add_right_comm]; exact b2⟩
    unfold forD
    rw [a1]
    show (body env1 S1).bind _ = _
    rw [a2]
    exact b1
/-- a loop over the items of a list, by membership -/
theorem for_mem {g : FG} {body : FS} {items : List D} (I : DEnv → Sto → Prop) (h0 : I env S)
    (hs : ∀ d ∈ items, ∀ env S, I env S → ∃ env1 S1 env2 S2, g d env S = some (env1, S1) ∧ body env1 S1 = some (.nx env2, S2) ∧ I env2 S2) : ∃ env' S', forD g body items env S = some (.nx env', S') ∧ I env' S' :=
  for_inv (fun _ => I) h0 fun i d env S hi h => hs d (List.mem_of_getElem? hi) env S h
end
/-! ## the last cell of a store -/
theorem get_last (S : Sto) (c : Cell) : (S ++ [c])[S.length]? = some c := by simp
theorem set_last (S : Sto) (c d : Cell) : (S ++ [c]).set S.length d = S ++ [d] := by simp
theorem gset_at (S : Sto) (kvs : List (Key × D)) (x : Str) (v : D) (h : kvs.length ≤ 1000000) : gSetA (.ref S.length) (.str x) v (S ++ [.dct kvs]) = some (S ++ [.dct (putA kvs (.inr x) v)]) := by
  unfold gSetA
  simp only [get_last, set_last, toKey]
  rw [if_pos h]
  rfl
theorem kvs_last (S : Sto) (kvs : List (Key × D)) : kvsOf (.ref S.length) (S ++ [.dct kvs]) = some kvs := by
  unfold kvsOf
  simp only [get_last]
theorem putA_len {α : Type} (kvs : List (Key × α)) (k : Key) (v : α) : (putA kvs k v).length ≤ kvs.length + 1 := by
  unfold putA
  split <;> simp
section
variable {env : DEnv} {S : Sto} {kvs : List (Key × D)} {i : Nat} {e e1 e2 e3 : FE} {v v1 v2 v3 : D} {fk fk1 fk2 fk3 : FE} {a b c : Str}
theorem asg1_at (hi : env[i]? = some (some (.ref S.length))) (hl : kvs.length ≤ 100) (h1 : e env (S ++ [.dct kvs]) = some (v, S ++ [.dct kvs])) (k1 : ∀ S, fk env S = some (.str a, S)) :
    sAsg e (gSub gSetA (fVar i) fk) env (S ++ [.dct kvs]) = some (.nx env, S ++ [.dct (putA kvs (.inr a) v)]) := by
  refine asg_of h1 ?_
  unfold gSub fVar
  simp only [hi, Option.bind_some, k1, gset_at _ _ _ _ (Nat.le_trans hl (by decide)), Option.map_some]
theorem asg2_at (hi : env[i]? = some (some (.ref S.length))) (hl : kvs.length ≤ 100) (h1 : e1 env (S ++ [.dct kvs]) = some (v1, S ++ [.dct kvs])) (h2 : e2 env (S ++ [.dct kvs]) = some (v2, S ++ [.dct kvs]))
    (k1 : ∀ S, fk1 env S = some (.str a, S)) (k2 : ∀ S, fk2 env S = some (.str b, S)) :
    sAsg (fTup (fCons e1 (fCons e2 fNil))) (gTup 2 (gCons (gSub gSetA (fVar i) fk1) (gCons (gSub gSetA (fVar i) fk2) gNil))) env (S ++ [.dct kvs]) = some (.nx env, S ++ [.dct (putA (putA kvs (.inr a) v1) (.inr b) v2)]) := by
  have l1 := putA_len kvs (.inr a) v1
  refine asg_of (d := .tup [v1, v2]) (S1 := S ++ [.dct kvs]) ?_ ?_
  · unfold fTup fCons fNil
    simp only [h1, h2, Option.bind_some, List.length_cons, List.length_nil]
    rfl
  · show (gCons (gSub gSetA (fVar i) fk1) (gCons (gSub gSetA (fVar i) fk2) gNil)) [v1, v2] env (S ++ [.dct kvs]) = _
    unfold gCons gNil gSub fVar
    simp only [hi, Option.bind_some, k1, k2, gset_at _ _ _ _ (show kvs.length ≤ 1000000 by omega), gset_at _ _ _ _ (show (putA kvs (.inr a) v1).length ≤ 1000000 by omega), Option.map_some]
theorem asg3_at (hi : env[i]? = some (some (.ref S.length))) (hl : kvs.length ≤ 100) (h1 : e1 env (S ++ [.dct kvs]) = some (v1, S ++ [.dct kvs])) (h2 : e2 env (S ++ [.dct kvs]) = some (v2, S ++ [.dct kvs])) (h3 : e3 env (S ++ [.dct kvs]) = some (v3, S ++ [.dct kvs]))
    (k1 : ∀ S, fk1 env S = some (.str a, S)) (k2 : ∀ S, fk2 env S = some (.str b, S)) (k3 : ∀ S, fk3 env S = some (.str c, S)) :
    sAsg (fTup (fCons e1 (fCons e2 (fCons e3 fNil)))) (gTup 3 (gCons (gSub gSetA (fVar i) fk1) (gCons (gSub gSetA (fVar i) fk2) (gCons (gSub gSetA (fVar i) fk3) gNil)))) env (S ++ [.dct kvs]) = some (.nx env, S ++ [.dct (putA (putA (putA kvs (.inr a) v1) (.inr b) v2) (.inr c) v3)]) := by
  have l1 := putA_len kvs (.inr a) v1
  have l2 := putA_len (putA kvs (.inr a) v1) (.inr b) v2
  refine asg_of (d := .tup [v1, v2, v3]) (S1 := S ++ [.dct kvs]) ?_ ?_
  · unfold fTup fCons fNil
    simp only [h1, h2, h3, Option.bind_some, List.length_cons, List.length_nil]
    rfl
  · show (gCons (gSub gSetA (fVar i) fk1) (gCons (gSub gSetA (fVar i) fk2) (gCons (gSub gSetA (fVar i) fk3) gNil))) [v1, v2, v3] env (S ++ [.dct kvs]) = _
    unfold gCons gNil gSub fVar
    simp only [hi, Option.bind_some, k1, k2, k3, gset_at _ _ _ _ (show kvs.length ≤ 1000000 by omega), gset_at _ _ _ _ (show (putA kvs (.inr a) v1).length ≤ 1000000 by omega), gset_at _ _ _ _ (show (putA (putA kvs (.inr a) v1) (.inr b) v2).length ≤ 1000000 by omega), Option.map_some]
end
end DL

namespace DL
open PySem PySem.Spec PyProof.Rows L2 TL
/-! ## numbers as texts -/
def numT (n : Nat) : Str := Str.ofString (toString ((n : Nat) : Int))
theorem numT_tl (n : Nat) : (numT n).cps.toList = numL n := tl_num n
theorem numT_len (n : Nat) : (numT n).length = (numL n).length := by
  have := numT_tl n
  unfold Str.length
  rw [← this]
  simp
def DIG : Str := "0123456789"
theorem dig_list : DIG.cps.toList = [48, 49, 50, 51, 52, 53, 54, 55, 56, 57] := by decide +kernel
theorem dig_iff (c : Nat) : decide (c ∈ DIG.cps.toList) = (decide (48 ≤ c) && decide (c ≤ 57)) := by
  rw [dig_list]
  by_cases h : 48 ≤ c ∧ c ≤ 57
  · have : c = 48 ∨ c = 49 ∨ c = 50 ∨ c = 51 ∨ c = 52 ∨ c = 53 ∨ c = 54 ∨ c = 55 ∨ c = 56 ∨ c = 57 := by omega
    rcases this with rfl | rfl | rfl | rfl | rfl | rfl | rfl | rfl | rfl | rfl <;> decide
  · rw [decide_eq_false (by simp; omega)]
    by_cases h1 : 48 ≤ c
    · have h2 : ¬ c ≤ 57 := fun q => h ⟨h1, q⟩
      rw [decide_eq_false h2, Bool.and_false]
    · rw [decide_eq_false h1, Bool.false_and]
theorem notIn_dig (c : Nat) (S : Sto) : gNotIn (.str ⟨#[c]⟩) (.str DIG) S = some (.bl (!(decide (48 ≤ c) && decide (c ≤ 57))), S) := by
  show some (D.bl (!(!(Builtin.Str.occurrences DIG ⟨#[c]⟩ 0 DIG.length 1).isEmpty)), S) = _
  rw [PySem.StrLaws.found_one, dig_iff]
theorem in_dig (c : Nat) (S : Sto) : gIn (.str ⟨#[c]⟩) (.str DIG) S = some (.bl (decide (48 ≤ c) && decide (c ≤ 57)), S) := by
  show some (D.bl (!(Builtin.Str.occurrences DIG ⟨#[c]⟩ 0 DIG.length 1).isEmpty), S) = _
  rw [PySem.StrLaws.found_one, dig_iff]
/-- [sign not in DIGITS for sign in text] -/
theorem lc_notdig {env : DEnv} {i : Nat} (hi : i < env.length) (S : Sto) : ∀ l : List Nat, lcD (gN i) tYesD (fBin gNotIn (fVar i) (fC (.str DIG))) env (l.map fun c => D.str ⟨#[c]⟩) S = some (l.map fun c => D.bl (!(decide (48 ≤ c) && decide (c ≤ 57))), S)
  | [] => rfl
  | c :: l => by
    have e : (env.set i (some (D.str ⟨#[c]⟩)))[i]? = some (some (D.str ⟨#[c]⟩)) := by rw [List.getElem?_set_self hi]
    have ih := lc_notdig hi S l
    simp only [List.map_cons, lcD, gN, tYesD, Option.bind_some, if_true, fBin, fVar, fC, e, notIn_dig, ih]
theorem asBools_map (p : Nat → Bool) : ∀ l : List Nat, asBools (l.map fun c => D.bl (p c)) = some (l.map p)
  | [] => rfl
  | c :: l => by
    show (asBools (l.map fun c => D.bl (p c))).map _ = _
    rw [asBools_map p l]
    rfl
theorem numL_head : ∀ n : Nat, 0 < n → ∃ c r, numL n = c :: r ∧ c ≠ 48 := by
  intro n
  induction n using Nat.strongRecOn with
  | _ n ih =>
    intro hn
    by_cases h : n < 10
    · exact ⟨48 + n, [], numL_lt h, by omega⟩
    · obtain ⟨c, r, e, hc⟩ := ih (n / 10) (by omega) (by omega)
      rw [numL_step (by omega), e]
      exact ⟨c, r ++ [48 + n % 10], rfl, hc⟩
theorem lc_nat (env : DEnv) (f : FE) (x : Str) (S : Sto) (i : Nat) (hf : f env S = some (.str x, S)) (hi : i < env.length) (hx : x.length ≤ 1000000) :
    fLc (iStrD f) (gN i) tYesD (fBin gNotIn (fVar i) (fC (.str DIG))) [i] env S = some (.lst (x.cps.toList.map fun c => D.bl (!(decide (48 ≤ c) && decide (c ≤ 57)))), S) := by
  unfold fLc iStrD
  rw [hf]
  show (if (x.cps.toList.map fun c => D.str ⟨#[c]⟩).length ≤ 1000000 then (lcD _ _ _ (wipeD env [i]) (x.cps.toList.map fun c => D.str ⟨#[c]⟩) S).bind _ else none) = _
  have hl : (x.cps.toList.map fun c => D.str ⟨#[c]⟩).length ≤ 1000000 := by
    rw [List.length_map]
    simpa [Str.length] using hx
  rw [if_pos hl, lc_notdig (by show i < (env.set i none).length; simpa using hi)]
  rfl
end DL

namespace DL
open PySem PySem.Spec PyProof.Rows L2
/-! ## runs, by what holds behind them -/
def R {α : Type} (o : Option (α × Sto)) (P : α → Sto → Prop) : Prop := ∃ a S', o = some (a, S') ∧ P a S'
section
variable {α β : Type} {env : DEnv} {S S1 : Sto} {f1 f2 : FS} {t u : FT} {f fa fb fc : FE} {fas : FA}
theorem R.of {o : Option (α × Sto)} {P : α → Sto → Prop} {a : α} (h : o = some (a, S1)) (p : P a S1) : R o P := ⟨a, S1, h, p⟩
theorem R.imp {o : Option (α × Sto)} {P P' : α → Sto → Prop} (h : R o P) (hp : ∀ a S, P a S → P' a S) : R o P' := by
  obtain ⟨a, S', e, p⟩ := h
  exact ⟨a, S', e, hp _ _ p⟩
theorem R.bind {o : Option (α × Sto)} {k : α × Sto → Option (β × Sto)} {P : β → Sto → Prop} (h : R o fun a S => R (k (a, S)) P) : R (o.bind k) P := by
  obtain ⟨a, S', e, p⟩ := h
  rw [e]
  exact p
theorem R.eq {o : Option (α × Sto)} {a : α} (h : R o fun x S' => x = a ∧ S' = S) : o = some (a, S) := by
  obtain ⟨x, S', e, h1, h2⟩ := h
  rw [e, h1, h2]
def PFl (P : Fl → Sto → Prop) (f2 : FS) : Fl → Sto → Prop
  | .nx env', S1 => R (f2 env' S1) P
  | fl, S1 => P fl S1
theorem r_seq {P : Fl → Sto → Prop} (h : R (f1 env S) (PFl P f2)) : R (sSeq f1 f2 env S) P := by
  obtain ⟨fl, S', e, p⟩ := h
  unfold sSeq
  rw [e]
  cases fl with
  | nx env' => exact p
  | rt d => exact ⟨_, _, rfl, p⟩
  | bk e => exact ⟨_, _, rfl, p⟩
  | ct e => exact ⟨_, _, rfl, p⟩
theorem r_nx {P : Fl → Sto → Prop} {env' : DEnv} (h : f1 env S = some (.nx env', S1)) (k : R (f2 env' S1) P) : R (sSeq f1 f2 env S) P := r_seq (R.of h k)
theorem r_if {P : Fl → Sto → Prop} (h : R (t env S) fun b S1 => if b = true then R (f1 env S1) P else R (f2 env S1) P) : R (sIf t f1 f2 env S) P := by
  obtain ⟨b, S', e, p⟩ := h
  unfold sIf
  rw [e]
  show R (if b = true then f1 env S' else f2 env S') P
  cases b <;> exact p
theorem r_ifT {P : Fl → Sto → Prop} (h : t env S = some (true, S1)) (k : R (f1 env S1) P) : R (sIf t f1 f2 env S) P := r_if (R.of h k)
theorem r_ifF {P : Fl → Sto → Prop} (h : t env S = some (false, S1)) (k : R (f2 env S1) P) : R (sIf t f1 f2 env S) P := r_if (R.of h k)
theorem r_set {P : Fl → Sto → Prop} {i : Nat} (h : R (f env S) fun d S1 => P (.nx (env.set i (some d))) S1) : R (sAsg f (gN i) env S) P := by
  obtain ⟨d, S', e, p⟩ := h
  exact ⟨_, _, set_of e, p⟩
theorem r_ret {P : Fl → Sto → Prop} (h : R (f env S) fun d S1 => P (.rt d) S1) : R (sRet f env S) P := by
  obtain ⟨d, S', e, p⟩ := h
  exact ⟨_, _, ret_of e, p⟩
theorem r_skip {P : Fl → Sto → Prop} (h : P (.nx env) S) : R (sSkip env S) P := ⟨_, _, rfl, h⟩
theorem r_call {P : D → Sto → Prop} {g : FD} {ds : List D} (h : fas env S = some (ds, S1)) (hg : R (g ds S1) P) : R (fCall g fas env S) P := by
  obtain ⟨d, S', e, p⟩ := hg
  exact ⟨_, _, call_of h e, p⟩
theorem r_callA {P : D → Sto → Prop} {g : FD} (h : R (fas env S) fun ds S1 => R (g ds S1) P) : R (fCall g fas env S) P := by
  obtain ⟨ds, S', e, d, S2, e2, p⟩ := h
  exact ⟨_, _, call_of e e2, p⟩
theorem r_nil {P : List D → Sto → Prop} (h : P [] S) : R (fNil env S) P := ⟨_, _, rfl, h⟩
theorem r_cons {P : List D → Sto → Prop} (h : R (f env S) fun d S1 => R (fas env S1) fun ds S2 => P (d :: ds) S2) : R (fCons f fas env S) P := by
  obtain ⟨d, S', e, ds, S2, e2, p⟩ := h
  exact ⟨_, _, cons_of e e2, p⟩
theorem r_bin {P : D → Sto → Prop} {g : D → D → Sto → Option (D × Sto)} (h : R (fa env S) fun x S1 => R (fb env S1) fun y S2 => R (g x y S2) P) : R (fBin g fa fb env S) P := by
  obtain ⟨d, S', e, ds, S2, e2, z, S3, e3, p⟩ := h
  exact ⟨_, _, bin_of e e2 e3, p⟩
theorem r_test {P : Bool → Sto → Prop} (h : R (f env S) fun d S1 => ∃ b, d = .bl b ∧ P b S1) : R (fTest f env S) P := by
  obtain ⟨d, S', e, b, rfl, p⟩ := h
  exact ⟨_, _, test_of e, p⟩
theorem r_not {P : Bool → Sto → Prop} (h : R (t env S) fun b S1 => P (!b) S1) : R (tNotD t env S) P := by
  obtain ⟨d, S', e, p⟩ := h
  exact ⟨_, _, tnot_of e, p⟩
theorem r_and {P : Bool → Sto → Prop} (h : R (t env S) fun b S1 => if b = true then R (u env S1) P else P false S1) : R (tAndD t u env S) P := by
  obtain ⟨b, S', e, p⟩ := h
  rw [R, and_of e]
  cases b with
  | true => exact p
  | false => exact ⟨_, _, rfl, p⟩
theorem r_or {P : Bool → Sto → Prop} (h : R (t env S) fun b S1 => if b = true then P true S1 else R (u env S1) P) : R (tOrD t u env S) P := by
  obtain ⟨b, S', e, p⟩ := h
  rw [R, or_of e]
  cases b with
  | false => exact p
  | true => exact ⟨_, _, rfl, p⟩
theorem r_fif {P : D → Sto → Prop} (h : R (t env S) fun b S1 => if b = true then R (fa env S1) P else R (fb env S1) P) : R (fIf t fa fb env S) P := by
  obtain ⟨b, S', e, p⟩ := h
  unfold fIf
  rw [e]
  show R (if b = true then fa env S' else fb env S') P
  cases b <;> exact p
def PBk (I : DEnv → Sto → Prop) (P : Fl → Sto → Prop) : Fl → Sto → Prop
  | .nx e, S => I e S
  | .ct e, S => I e S
  | .bk e, S => P (.nx e) S
  | .rt d, S => P (.rt d) S
theorem r_forD {P : Fl → Sto → Prop} {g : FG} {body : FS} {items : List D} (I : Nat → DEnv → Sto → Prop) (h0 : I 0 env S)
    (hs : ∀ i d env S, items[i]? = some d → I i env S → R (g d env S) fun env1 S1 => R (body env1 S1) (PBk (I (i + 1)) P)) (hd : ∀ env S, I items.length env S → P (.nx env) S) : R (forD g body items env S) P := by
  suffices h : ∀ (r : List D) (i : Nat) (env : DEnv) (S : Sto), items.drop i = r → i + r.length = items.length → I i env S → R (forD g body r env S) P from h items 0 env S rfl (by simp) h0
  intro r
  induction r with
  | nil =>
    intro i env S hd' hl hi
    have hl : i = items.length := by simpa using hl
    subst hl
    exact ⟨_, _, rfl, hd _ _ hi⟩
  | cons d r ih =>
    intro i env S hd' hl hi
    obtain ⟨q1, q2⟩ := drop_cons hd'
    obtain ⟨env1, S1, e1, fl, S2, e2, p⟩ := hs i d env S q1 hi
    have hl' : i + 1 + r.length = items.length := by
      rw [List.length_cons] at hl
      omega
    unfold forD
    rw [e1]
    show R ((body env1 S1).bind _) P
    rw [e2]
    cases fl with
    | nx e => exact ih (i + 1) e S2 q2 hl' p
    | ct e => exact ih (i + 1) e S2 q2 hl' p
    | bk e => exact ⟨_, _, rfl, p⟩
    | rt d => exact ⟨_, _, rfl, p⟩
theorem r_for {P : Fl → Sto → Prop} {fi : FA} {g : FG} {body : FS} {items : List D} (h : fi env S = some (items, S1)) (I : Nat → DEnv → Sto → Prop) (h0 : I 0 env S1)
    (hs : ∀ i d env S, items[i]? = some d → I i env S → R (g d env S) fun env1 S1 => R (body env1 S1) (PBk (I (i + 1)) P)) (hd : ∀ env S, I items.length env S → P (.nx env) S) : R (sFor fi g body env S) P := by
  obtain ⟨a, S', e, p⟩ := r_forD (P := P) I h0 hs hd
  exact ⟨_, _, for_of h e, p⟩
/-- a loop whose turns keep one word -/
theorem r_forM {P : Fl → Sto → Prop} {fi : FA} {g : FG} {body : FS} {items : List D} (h : fi env S = some (items, S1)) (I : DEnv → Sto → Prop) (h0 : I env S1)
    (hs : ∀ d ∈ items, ∀ env S, I env S → R (g d env S) fun env1 S1 => R (body env1 S1) (PBk I P)) (hd : ∀ env S, I env S → P (.nx env) S) : R (sFor fi g body env S) P :=
  r_for h (fun _ => I) h0 (fun i d env S hi h => hs d (List.mem_of_getElem? hi) env S h) hd
def PRun (P : D → Sto → Prop) : Fl → Sto → Prop
  | .rt d, S => P d S
  | .nx _, S => P .non S
  | _, _ => False
theorem r_run {P : D → Sto → Prop} {n : Nat} {g : FS} {ds : List D} (h : R (g (ds.map some ++ List.replicate (n - ds.length) none) S) (PRun P)) : R (runD n g ds S) P := by
  obtain ⟨fl, S', e, p⟩ := h
  cases fl with
  | rt d => exact ⟨_, _, run_of e, p⟩
  | nx e' => exact ⟨_, _, run_of0 e, p⟩
  | bk _ => exact p.elim
  | ct _ => exact p.elim
theorem r_par {P : Fl → Sto → Prop} {i j : Nat} (h : R (fas env S) fun ds S1 => ∃ v w, ds = [v, w] ∧ P (.nx ((env.set i (some v)).set j (some w))) S1) : R (sPar i j fas env S) P := by
  obtain ⟨ds, S', e, v, w, rfl, p⟩ := h
  refine ⟨_, _, ?_, p⟩
  unfold sPar
  rw [e]
  rfl
theorem r_tup {P : D → Sto → Prop} (h : R (fas env S) fun ds S1 => ds.length ≤ 1000 ∧ P (.tup ds) S1) : R (fTup fas env S) P := by
  obtain ⟨ds, S', e, hl, p⟩ := h
  refine ⟨_, _, ?_, p⟩
  unfold fTup
  rw [e]
  show (if ds.length ≤ 1000 then _ else _) = _
  rw [if_pos hl]
end
end DL

namespace DL
open PySem PySem.Spec PyProof.Rows L2
variable {ct : CT} {X : Cx}
/-! ## a value that is never asked for -/
def fNever : FE := fun _ _ => none
theorem pe_never {e : Expr} : PE X e (fun _ _ _ => False) := ⟨fun _ _ _ _ _ _ h => h.elim⟩
theorem se_never {e : Expr} : SE ct X e fNever := ⟨_, pe_never, fun m F S σ H env d S' Q s en h p => by cases h⟩
/-! ## divmod -/
def cDivmod : FD
  | [.int i, .int j], S => if 0 < j ∧ j.natAbs.log2 < 9000 then some (.tup [.int (i / j), .int (i % j)], S) else none
  | _, _ => none
theorem cd_divmod {K : PySem.W.Frag} : CallD ct K (fun xs H Q => ∃ i j, xs = [.int i, .int j] ∧ CDivP i j ∧ ∀ p, H p = none → Q (.ref p) (upd H p (.tup [.int (i / j), .int (i % j)]))) cDivmod := by
  intro m F S H xs ds d S' Q s r h p
  unfold cDivmod at h
  split at h
  · rename_i i j
    split at h
    · rename_i hc
      cases h
      obtain ⟨v, u, e1, e2, e3⟩ := reps2 r
      have e2 : v = .int i := e2
      have e3 : u = .int j := e3
      subst e2 e3
      refine ⟨i, j, e1, ⟨hc.1, PyProof.noPylong_of_log2 hc.2⟩, fun q hq => ?_⟩
      obtain ⟨s2, x2⟩ := s.frozen hq (.tup [.int (i / j), .int (i % j)])
      exact p m _ (.ref q) _ x2 s2 ⟨q, _, rfl, SqT.of upd_same, ⟨_, _, rfl, rfl, _, _, rfl, rfl, rfl⟩⟩
    · cases h
  · cases h
end DL

namespace DL
open PySem PySem.Spec PyProof.Rows L2
/-! # Objects of the text's own classes: cells -/
/-- a class of the text, by its name -/
structure Klass (K : PySem.W.Frag) (ct : CT) (c : Str) (C : Addr) : Prop where
  at_ : ct c = some C
  cls : Cls K C
def getF : List Str → List D → Str → Option D
  | f :: fs, d :: ds, x => if f = x then some d else getF fs ds x
  | _, _, _ => none
def hasF (fs : List Str) (x : Str) : Bool := fs.any fun f => decide (f = x)
def putN : List Str → Str → List Str
  | [], x => [x]
  | f :: fs, x => if f = x then f :: fs else f :: putN fs x
def putD : List Str → List D → Str → D → List D
  | f :: fs, d :: ds, x, y => if f = x then y :: ds else d :: putD fs ds x y
  | _, _, _, y => [y]
section
variable {K : PySem.W.Frag} {ct : CT} {m : List Addr} {F : Hp}
theorem getF_rep : ∀ {fs : List Str} {ds : List D} {vs : List V} {x : Str} {d : D}, Reps K ct m F ds vs → getF fs ds x = some d → ∃ v, (fs.zip vs).lookup x = some v ∧ Rep K ct m F d v
  | [], _, _, _, _, _, h => by cases h
  | _ :: _, [], _, _, _, _, h => by cases h
  | f :: fs, d' :: ds, vs, x, d, r, h => by
    obtain ⟨v, rest, rfl, r1, r2⟩ := r
    unfold getF at h
    by_cases e : f = x
    · rw [if_pos e] at h
      cases h
      subst e
      exact ⟨v, by simp [List.lookup], r1⟩
    · rw [if_neg e] at h
      obtain ⟨v2, h1, h2⟩ := getF_rep r2 h
      refine ⟨v2, ?_, h2⟩
      have : (x == f) = false := beq_eq_false_iff_ne.mpr fun q => e q.symm
      simp only [List.zip_cons_cons, List.lookup, this]
      exact h1
theorem hasF_none : ∀ {fs : List Str} {vs : List V} {x : Str}, hasF fs x = false → (fs.zip vs).lookup x = none
  | [], _, _, _ => by simp
  | _ :: _, [], _, _ => by simp
  | f :: fs, v :: vs, x, h => by
    unfold hasF at h
    rw [List.any_cons, Bool.or_eq_false_iff] at h
    have e : f ≠ x := of_decide_eq_false h.1
    have : (x == f) = false := beq_eq_false_iff_ne.mpr fun q => e q.symm
    simp only [List.zip_cons_cons, List.lookup, this]
    exact hasF_none h.2
theorem put_rep : ∀ {fs : List Str} {ds : List D} {vs : List V} {x : Str} {y : D} {v : V}, fs.length = vs.length → Reps K ct m F ds vs → Rep K ct m F y v → ∃ us, putF x v (fs.zip vs) = (putN fs x).zip us ∧ (putN fs x).length = us.length ∧ Reps K ct m F (putD fs ds x y) us
  | [], ds, vs, x, y, v, hl, r, ry => by
    cases vs with
    | nil =>
      refine ⟨[v], rfl, rfl, ?_⟩
      cases ds <;> exact ⟨v, [], rfl, ry, rfl⟩
    | cons _ _ => cases hl
  | f :: fs, ds, vs, x, y, v, hl, r, ry => by
    cases vs with
    | nil => cases hl
    | cons u vs =>
      cases ds with
      | nil => cases (show _ = _ from r)
      | cons d ds =>
        obtain ⟨u', rest, e, r1, r2⟩ := r
        cases e
        unfold putN putD
        rw [List.zip_cons_cons, show putF x v ((f, u) :: fs.zip vs) = (if f = x then (f, v) :: fs.zip vs else (f, u) :: putF x v (fs.zip vs)) from rfl]
        by_cases e : f = x
        · rw [if_pos e, if_pos e, if_pos e]
          exact ⟨v :: vs, rfl, by simpa using hl, ⟨v, vs, rfl, ry, r2⟩⟩
        · rw [if_neg e, if_neg e, if_neg e]
          obtain ⟨us, h1, h2, h3⟩ := put_rep (x := x) (by simpa using hl) r2 ry
          exact ⟨u :: us, by rw [h1, List.zip_cons_cons], by simpa using h2, ⟨u, us, rfl, r1, h3⟩⟩
end
/-- the object at hand: its class, its fields -/
def insOf (c : Str) : D → Sto → Option (List Str × List D)
  | .ref i, S => match S[i]? with
    | some (.ins c' fs ds) => if c' = c then some (fs, ds) else none
    | _ => none
  | .obj c' fs ds, _ => if c' = c then some (fs, ds) else none
  | _, _ => none
section
variable {ct : CT} {X : Cx} {C : Addr} {c : Str}
theorem insOf_rep {m : List Addr} {F : Hp} {S : Sto} {H : Hp} {d : D} {v : V} {fs : List Str} {ds : List D} (kc : Klass X.K ct c C) (s : Sim X.K ct m F S H) (r : Rep X.K ct m F d v) (h : insOf c d S = some (fs, ds)) :
    ∃ a dx vs, v = .ref a ∧ H a = some (.ins C dx (fs.zip vs)) ∧ fs.length = vs.length ∧ Reps X.K ct m F ds vs := by
  cases d with
  | ref i =>
    obtain ⟨a, h1, h2⟩ := r
    unfold insOf at h
    dsimp only at h
    split at h
    · rename_i c' fs' ds' hc
      split at h
      · rename_i e
        subst e
        cases h
        obtain ⟨C', dx, vs, e1, e2, e3, e4⟩ := s.cell i a _ h1 hc
        rw [kc.at_] at e2
        cases e2
        exact ⟨a, dx, vs, h2, e1, e3, e4⟩
      · cases h
    · cases h
  | obj c' fs' ds' =>
    unfold insOf at h
    dsimp only at h
    split at h
    · rename_i e
      subst e
      cases h
      obtain ⟨a, C', dx, vs, e0, e2, e1, e3, e4⟩ := r
      rw [kc.at_] at e2
      cases e2
      exact ⟨a, dx, vs, e0, s.same _ _ e1, e3, e4⟩
    · cases h
  | _ => cases h
variable {e o value : Expr} {es : List Expr} {fe fo fv : FE} {fas : FA} {pos pos' apos : Pos} {f : Str}
/-! ## a field -/
def fFld (c f : Str) (fe : FE) : FE := fun env S => (fe env S).bind fun p => (insOf c p.1 p.2).bind fun q => (getF q.1 q.2 f).map fun d => (d, p.2)
theorem se_fld (kc : Klass X.K ct c C) (na : NoAttr X.K C f) (he : SE ct X e fe) (hb : attributeBase e f X.env (eval e X.env) = eval e X.env := by rfl) : SE ct X (.Attribute e f pos) (fFld c f fe) := by
  obtain ⟨ta, pa, ra⟩ := he
  refine ⟨_, pe_fld pa hb, fun m F S σ H env d S' Q s en h p => ?_⟩
  obtain ⟨⟨z, S1⟩, h1, h⟩ := bind_some h
  obtain ⟨⟨fs, ds⟩, h2, h⟩ := bind_some h
  obtain ⟨d', h3, h4⟩ := map_some h
  cases h4
  refine ra m F S σ H env z S1 _ s en h1 fun m1 F1 v1 H1 x1 s1 r1 => ?_
  obtain ⟨a, dx, vs, e1, e2, e3, e4⟩ := insOf_rep kc s1 r1 h2
  obtain ⟨v, e5, e6⟩ := getF_rep e4 h3
  exact ⟨a, C, dx, _, v, e1, e2, kc.cls, na, e5, p m1 F1 v H1 x1 s1 e6⟩
/-- e.f = value, of an object at hand as a cell -/
def sFldD (c f : Str) (fo fv : FE) : FS := fun env S => (fv env S).bind fun p => (fo env p.2).bind fun q => match q.1 with
  | .ref i => match q.2[i]? with
    | some (.ins c' fs ds) => if c' = c ∧ fs.length < 900 then some (.nx env, q.2.set i (.ins c (putN fs f) (putD fs ds f p.1))) else none
    | _ => none
  | _ => none
theorem ss_fld (kc : Klass X.K ct c C) (na : NoAttr X.K C f) (ho : SE ct X o fo) (hv : SE ct X value fv) (hs : swapsWith value (some (.Attribute o f pos')) pos.line X.env = pure false := by rfl) : SS ct X (.Assign [.Attribute o f pos'] value pos) (sFldD c f fo fv) := by
  obtain ⟨ta, pa, ra⟩ := ho
  obtain ⟨tv, pv, rv⟩ := hv
  refine ⟨_, ps_fld pa pv hs, fun m F S σ H env fl S' E s en h p => ?_⟩
  obtain ⟨⟨y, S1⟩, h1, h⟩ := bind_some h
  obtain ⟨⟨z, S2⟩, h2, h⟩ := bind_some h
  refine rv m F S σ H env y S1 _ s en h1 fun m1 F1 v1 H1 x1 s1 r1 => ?_
  refine ra m1 F1 S1 σ H1 env z S2 _ s1 (en.mono x1) h2 fun m2 F2 v2 H2 x2 s2 r2 => ?_
  cases z with
  | ref i =>
    obtain ⟨a, e1, e2⟩ := r2
    dsimp only at h
    split at h
    · rename_i c' fs ds hc
      split at h
      · rename_i hcc
        obtain ⟨rfl, hlt⟩ := hcc
        cases h
        obtain ⟨C', dx, vs, q1, q2, q3, q4⟩ := s2.cell i a _ e1 hc
        rw [kc.at_] at q2
        cases q2
        obtain ⟨us, w1, w2, w3⟩ := put_rep (x := f) q3 q4 (r1.mono x2)
        refine ⟨a, C, dx, _, e2, q1, kc.cls, na, by rw [List.length_zip, ← q3]; omega, ?_⟩
        obtain ⟨s3, x3⟩ := s2.change e1 (o := .ins C dx (putF f v1 (fs.zip vs))) (c := .ins c' (putN fs f) (putD fs ds f y)) ⟨C, dx, us, by rw [w1], kc.at_, w2, w3⟩
        exact p _ _ σ _ ((x1.trans x2).trans x3) s3 ((en.mono (x1.trans x2)).mono x3)
      · cases h
    · cases h
  | _ => cases h
/-! ## a method -/
def CalleeM (P : Program) (w : World) (K : PySem.W.Frag) (mg : Str → Option Value) (base : Heap) (ct : CT) (k : Nat) (C : Addr) (x : Str) (n : Nat) (g : FD) (kwb : KWB := []) : Prop :=
  ∃ (f : Addr) (fd : FuncData) (ps : List Str), Meth K C x f ∧ (Binds K fd ps [] ∧ KwOk K fd ps 1 kwb) ∧ FnG P w K mg base k f fd ps (spD K ct n g)
theorem CalleeM.mono {P : Program} {w : World} {K : PySem.W.Frag} {mg : Str → Option Value} {base : Heap} {j k n : Nat} {x : Str} {g : FD} {kwb : KWB} (c : CalleeM P w K mg base ct j C x n g kwb) (h : j ≤ k) : CalleeM P w K mg base ct k C x n g kwb := by
  obtain ⟨f, fd, ps, h1, h3, h4⟩ := c
  exact ⟨f, fd, ps, h1, h3, h4.mono h⟩
def fMeth (c x : Str) (g : FD) (fo : FE) (fas : FA) : FE := fun env S => (fo env S).bind fun p => (insOf c p.1 p.2).bind fun q => if hasF q.1 x = false then (fas env p.2).bind fun r => g (p.1 :: r.1) r.2 else none
theorem se_meth {pl : Sem Bool} {k n : Nat} {x : Str} {g : FD} {kwb : KWB} (kc : Klass X.K ct c C) (M : CalleeM X.prog X.w X.K X.mg X.base ct k C x (n + 1) g kwb) (hr : RoomG k X.A) (ho : SE ct X o fo) (ha : SA ct X (e :: es) fas) (hn : ∀ env S ds S', fas env S = some (ds, S') → ds.length = n)
    (hst : starEach (e :: es) X.env = (false, eval e X.env) :: starEach es X.env := by rfl) (hpl : (backTo pos (starEach es X.env)).any (·.1) = false := by rfl)
    (ht : eval (.Call (.Attribute o x apos) (e :: es) [] pos) X.env = (eval o X.env >>= fun ov => standAt apos.atName >>= fun _ => holding [ov] (getMethod ov x pl) >>= fun q =>
      callWith pos q.1 q.2 (backTo pos (starEach (e :: es) X.env)) (backToKw pos (keywordEach [] X.env))) := by rfl) : SE ct X (.Call (.Attribute o x apos) (e :: es) [] pos) (fMeth c x g fo fas) := by
  obtain ⟨f, fd, ps, me, bi, fn⟩ := M
  obtain ⟨ta, pa, ra⟩ := ho
  obtain ⟨tb, pb, rb⟩ := ha
  refine ⟨_, pe_methG (E := fun _ _ _ => False) pa kc.cls me fn hr bi.1 .nil pb hst hpl ht, fun m F S σ H env d S' Q s en h p => ?_⟩
  obtain ⟨⟨z, S1⟩, h1, h⟩ := bind_some h
  obtain ⟨⟨fs, ds⟩, h2, h⟩ := bind_some h
  dsimp only at h
  split at h
  · rename_i hh
    obtain ⟨⟨xs, S2⟩, h3, h⟩ := bind_some h
    refine ra m F S σ H env z S1 _ s en h1 fun m1 F1 v1 H1 x1 s1 r1 => ?_
    obtain ⟨a, dx, vs, e1, e2, e3, e4⟩ := insOf_rep kc s1 r1 h2
    refine ⟨a, dx, _, e1, e2, hasF_none hh, ?_⟩
    refine rb m1 F1 S1 σ H1 env xs S2 _ s1 (en.mono x1) h3 fun m2 F2 us H2 x2 s2 r2 => ?_
    rw [List.append_nil]
    exact ⟨by rw [List.length_cons, ← r2.length, hn _ _ _ _ h3], m2, F2, S2, z :: xs, d, S', s2, ⟨v1, us, rfl, r1.mono x2, r2⟩, h, p.ext (x1.trans x2)⟩
  · cases h
/-! ## a new object -/
def MakeAt (P : Program) (w : World) (K : PySem.W.Frag) (mg : Str → Option Value) (base : Heap) (ct : CT) (k : Nat) (x : Str) (dds : List D) (n : Nat) (g : FD) : Prop :=
  ∃ (C f : Addr) (fd : FuncData) (ps : List Str) (ds : List Value) (dvs : List V), mg x = some (.ref C) ∧ ct x = some C ∧ Mk K C f ∧ Binds K fd ps ds ∧ Vals dvs ds ∧ (∀ m F, Reps K ct m F dds dvs) ∧ FnG P w K mg base k f fd ps (spD K ct n g)
theorem MakeAt.mono {P : Program} {w : World} {K : PySem.W.Frag} {mg : Str → Option Value} {base : Heap} {j k n : Nat} {x : Str} {dds : List D} {g : FD} (c : MakeAt P w K mg base ct j x dds n g) (h : j ≤ k) : MakeAt P w K mg base ct k x dds n g := by
  obtain ⟨C, f, fd, ps, ds, dvs, h1, h2, h3, h4, h5, h6, h7⟩ := c
  exact ⟨C, f, fd, ps, ds, dvs, h1, h2, h3, h4, h5, h6, h7.mono h⟩
def fMake (c : Str) (g : FD) (dds : List D) (fas : FA) : FE := fun env S => (fas env S).bind fun p => (g (.ref p.2.length :: (p.1 ++ dds)) (p.2 ++ [.ins c [] []])).bind fun q => match q.1 with
  | .non => some (.ref p.2.length, q.2)
  | _ => none
theorem se_make {k n : Nat} {x : Str} {dds : List D} {g : FD} {np : Pos} (M : MakeAt X.prog X.w X.K X.mg X.base ct k x dds (n + dds.length + 1) g) (hr : RoomG (k + 1) X.A) (hg : Gl X x) (ha : SA ct X (e :: es) fas) (hn : ∀ env S ds S', fas env S = some (ds, S') → ds.length = n) (hdb : (x == ("__debug__" : Str)) = false := by decide)
    (he : starEach (e :: es) X.env = (false, eval e X.env) :: starEach es X.env := by rfl) (hpl : (backTo pos (starEach es X.env)).any (·.1) = false := by rfl) : SE ct X (.Call (.Name x np) (e :: es) [] pos) (fMake x g dds fas) := by
  obtain ⟨C, f, fd, ps, dl, dvs, hm, hct, mk, bi, hd, hdr, fn⟩ := M
  obtain ⟨tb, pb, rb⟩ := ha
  refine ⟨_, pe_makeG (E := fun _ _ _ => False) mk fn hr hg hm bi hd pb hdb he hpl, fun m F S σ H env d S' Q s en h p => ?_⟩
  obtain ⟨⟨xs, S1⟩, h1, h⟩ := bind_some h
  obtain ⟨⟨z, S2⟩, h2, h⟩ := bind_some h
  cases z with
  | non =>
    cases h
    refine rb m F S σ H env xs S1 _ s en h1 fun m1 F1 us H1 x1 s1 r1 q dx hq hdx hne => ?_
    have hnm : dx ∉ m1 := fun hmem => by
      obtain ⟨o, ho⟩ := s1.there hmem
      rw [ho] at hdx
      cases hdx
    have hnf : F1 dx = none := by
      cases e : F1 dx with
      | none => rfl
      | some o =>
        have := s1.same _ _ e
        rw [hdx] at this
        cases this
    have s2 := s1.hidden hnm hnf (.own q)
    have x2 := (Ext.refl m1 F1 H1).put hdx (.own q)
    have hq2 : upd H1 dx (.own q) q = none := by
      rw [upd_ne (fun e => hne e.symm)]
      exact hq
    obtain ⟨s3, x3⟩ := s2.fresh hq2 (o := .ins C dx []) (c := .ins x [] []) ⟨C, dx, [], rfl, hct, rfl, rfl⟩
    have hl : (m1 ++ [q])[S1.length]? = some q := by rw [← s1.len]; simp
    have rr : Reps X.K ct (m1 ++ [q]) F1 (.ref S1.length :: (xs ++ dds)) (.ref q :: (us ++ dvs)) := ⟨.ref q, us ++ dvs, rfl, ⟨q, hl, rfl⟩, ((r1.mono x2).mono x3).append (hdr _ _)⟩
    refine ⟨?_, m1 ++ [q], F1, S1 ++ [.ins x [] []], .ref S1.length :: (xs ++ dds), .non, S2, s3, rr, h2, fun m' F' v H' x' s' r' => ⟨r', ?_⟩⟩
    · rw [← rr.length, List.length_cons, List.length_append, hn _ _ _ _ h1]
    · exact p m' F' (.ref q) H' (((x1.trans x2).trans x3).trans x') s' ⟨q, x'.pre _ _ hl, rfl⟩
  | _ => cases h
end
/-! ## a def with defaults, a method -/
section
variable {P : Program} {w : World} {K : PySem.W.Frag} {mg : Str → Option Value} {base : Heap} {ct : CT}
theorem def_okD {x qual : Str} {st : Stmt} {f : Addr} {fd : FuncData} {N ps : List Str} {k : Nat} {g : FS} {dvs : List V} (F : FunD K x qual (defArgs st) (defBody st) (defScope st) dvs [] f fd) (S : FnScope N ps (defScope st))
    (hbody : ∀ (cdv : Value) (A : Around) (outer : List Env) (s : Shared) (H : Hp) (E : XK), RoomG k (A.deeper (envOfC qual (defScope st) s.heap.objs.size f cdv)) →
      SSs ct (cxOf CX0 P w K mg base N qual (defScope st) f cdv A outer s H E).nox (defBody st) g) : FnG P w K mg base (k + 1) f fd ps (spD K ct ps.length (runD N.length g)) := by
  refine funDG F S (fun vs H Q E h => h.1) (fun cdv A outer s H vs Q E hr h => ?_)
  obtain ⟨hl, m, F', S0, ds, d, S', sim, reps, hg, post⟩ := h
  obtain ⟨t, pt, rt⟩ := hbody cdv A outer s H E hr
  refine ⟨t, pt, ?_⟩
  obtain ⟨⟨fl, S1⟩, h1, h2⟩ := bind_some hg
  refine rt m F' S0 _ H _ fl S1 _ sim ?_ h1 ?_
  · have hl2 := reps.length
    refine ⟨by simp [L2.start, hl2], fun i e he => ?_⟩
    by_cases hi : i < ds.length
    · rw [List.getElem?_append_left (by simpa using hi)] at he
      simp at he
      obtain ⟨v, q1, q2⟩ := reps.get (i := i) (d := e) (by simpa using he)
      refine ⟨v, ?_, q2⟩
      unfold L2.start
      rw [List.getElem?_append_left (by simpa [← hl2] using hi)]
      simp [q1]
    · rw [List.getElem?_append_right (by simpa using hi)] at he
      have := List.mem_of_getElem? he
      simp at this
  · cases fl with
    | rt d1 => cases h2; exact fun m' F1 v H' x1 s1 r1 => post m' F1 v H' x1 s1 r1
    | nx env1 => cases h2; exact fun m' F1 σ1 H' x1 s1 r1 => post m' F1 .non H' x1 s1 rfl
    | bk env1 => cases h2
    | ct env1 => cases h2
end
end DL

namespace DL
open PySem PySem.Spec PyProof.Rows L2
/-! ## max of a tuple of whole numbers -/
section
variable {prog : Program} {w : World} {A : Around} {E : Value → Shared → Prop} {s : Shared} {l : Addr} {xs : Array (Int × Tok)}
theorem max_intTup {Q : Value → Shared → Prop} (hh : A.handled = none) (hl : s.heap.IsTuple l (intItems xs)) (hne : 0 < xs.size)
    (h : ∀ v h' tk, (intItems xs)[argBest (fun i j => decide (numAt xs i > numAt xs j)) (xs.size - 1)]? = some v → (∀ b o, s.heap.get? b = some o → h'.get? b = some o) → Q v { s with heap := h', toks := tk }) :
    wpAny (model prog w) A (call (.builtin "max") [.ref l]) Q E s := by
  have hlt : l < s.heap.objs.size := by obtain ⟨_, e, _⟩ := hl; exact Heap.lt_size e
  refine call_max_walk (wpAny_pyIter_tuple hl ?_)
  refine ⟨_, [_, l], [_], _, _, _, _, rfl, Walks.tuple (A := A.in1) hh _ l (Nat.ne_of_lt hlt) (intItems xs), ⟨⟨_, Heap.get?_push_size _ rfl, rfl, rfl⟩, hl.push _⟩, fun c hc => ?_, by simpa [intItems] using hne, CmpOf.ints_gt (numAt xs) (fun _ _ => intItems_at), fun v h' tk hP hk => ?_⟩
  · show c < (s.heap.push _).objs.size
    rw [Heap.size_push]
    rcases List.mem_cons.mp hc with rfl | hc
    · exact Nat.lt_succ_self _
    · rcases List.mem_cons.mp hc with rfl | hc
      · exact Nat.lt_succ_of_lt hlt
      · cases hc
  · refine h v h' tk (by simpa [intItems] using hP) fun b o e => ?_
    refine hk b o (fun hm => ?_) (Heap.get?_push_of_some _ e)
    rcases List.mem_cons.mp hm with e1 | hm
    · exact absurd (e1 ▸ Heap.lt_size e) (Nat.lt_irrefl _)
    · cases hm
theorem max_rawT {its : List Value} {ns : List Int} {Q : Value → Shared → Prop} (hh : A.handled = none) (hl : s.heap.IsTuple l its.toArray) (hi : IntsAre its ns) (hne : 0 < ns.length)
    (h : ∀ h' tk M t', (∀ b o, s.heap.get? b = some o → h'.get? b = some o) → M ∈ ns → (∀ a, a ∈ ns → a ≤ M) → Q (.int M t') { s with heap := h', toks := tk }) : wpAny (model prog w) A (call (.builtin "max") [.ref l]) Q E s := by
  obtain ⟨xs, e⟩ := hi.allInts.items
  have hn : numsOf (intItems xs).toList = ns := by rw [← e]; exact hi.numsOf
  rw [nums_intItems] at hn
  subst hn
  rw [e] at hl
  have hsz : 0 < xs.size := by simpa using hne
  refine max_intTup hh hl hsz fun v h' tk hv hk => ?_
  obtain ⟨t, rfl⟩ := intItems_at hv
  obtain ⟨h1, h2⟩ := argBest_gt (numAt xs) (xs.size - 1)
  refine h h' tk _ t hk ?_ fun a ha => ?_
  · rw [numAt_eq]; exact PySem.getD_mem (by rw [List.length_map, Array.length_toList]; omega)
  · obtain ⟨j, hj, rfl⟩ := mem_getD ha
    rw [List.length_map, Array.length_toList] at hj
    rw [← numAt_eq]; exact h2 j (by omega)
end
def rMaxT (K : PySem.W.Frag) : List V → Hp → VK → Prop := fun vs H Q => ∃ (a : Addr) (ns : List Int), vs = [V.ref a] ∧ SqT K H a (ns.map V.int) ∧ 0 < ns.length ∧ ∀ m, m ∈ ns → (∀ y, y ∈ ns → y ≤ m) → Q (.int m) H
theorem cr_maxT {X : Cx} (hc : X.calm = true) : CallR X (.builtin "max") (rMaxT X.K) := by
  intro pins s σ H vs us Q I r h
  obtain ⟨a, ns, rfl, hs, hne, q⟩ := h
  obtain ⟨its, rv, hl, _⟩ := I.tuple hs
  rw [Vals.ref1 r]
  exact max_rawT (I.ok.hd hc) hl rv.ints hne fun h' tk m t' hk h1 h2 => ⟨.int _, H, I.kept hk, ⟨_, rfl⟩, q m h1 h2⟩
def cMaxT : FD
  | [.tup [.int i, .int j]], S => some (.int (if j > i then j else i), S)
  | _, _ => none
theorem cd_maxT {ct : CT} {K : PySem.W.Frag} : CallD ct K (rMaxT K) cMaxT := by
  intro m F S H xs ds d S' Q s r h p
  unfold cMaxT at h
  split at h
  · rename_i i j
    cases h
    obtain ⟨v, e1, a, vs, e2, e3, e4⟩ := reps1 r
    obtain ⟨v1, r1, q1, q2, v2, r2, q3, q4, q5⟩ := e4
    have q2 : v1 = .int i := q2
    have q4 : v2 = .int j := q4
    have q5 : r2 = [] := q5
    subst q2 q4 q5 q3 q1 e2
    refine ⟨a, [i, j], e1, sqT_mono s.same e3, by simp, fun M h1 h2 => ?_⟩
    have hM : M = if j > i then j else i := by
      have a1 := h2 i (by simp)
      have a2 := h2 j (by simp)
      simp only [List.mem_cons, List.not_mem_nil, or_false] at h1
      split <;> omega
    rw [hM]
    exact p.now s rfl
  · cases h
/-! ## a tuple of the module -/
def TG (K : PySem.W.Frag) (mg : Str → Option Value) (n : Str) (vs : List V) : Prop := ∃ (a : Addr) (o : Obj) (its : Array Value) (k : Nat), mg n = some (.ref a) ∧ K.lookup a = some o ∧ o.cls = .type "tuple" ∧ o.data = .seq its k ∧ its.size ≤ sizeLine ∧ Vals vs its.toList
theorem se_globT {ct : CT} {X : Cx} {n : Str} {pos : Pos} {ds : List D} {vs : List V} (hg : Gl X n) (c : TG X.K X.mg n vs) (hr : ∀ m F, Reps X.K ct m F ds vs) (hd : (n == ("__debug__" : Str)) = false := by decide) : SE ct X (.Name n pos) (fC (.tup ds)) := by
  obtain ⟨a, o, its, k, h1, h2, h3, h4, h5, h6⟩ := c
  exact se_glob (v := .ref a) hg h1 rfl (fun m F => ⟨a, vs, rfl, .inr ⟨o, its, k, h2, h3, h4, h5, h6⟩, hr m F⟩) hd
/-! ## makers: one level more -/
def Maker (P : Program) (w : World) (K : PySem.W.Frag) (mg : Str → Option Value) (base : Heap) (ct : CT) (k : Nat) (x : Str) (dds : List D) (n : Nat) (g : FD) : Prop := ∃ j, j + 1 ≤ k ∧ MakeAt P w K mg base ct j x dds n g
theorem Maker.mono {P : Program} {w : World} {K : PySem.W.Frag} {mg : Str → Option Value} {base : Heap} {ct : CT} {j k n : Nat} {x : Str} {dds : List D} {g : FD} (c : Maker P w K mg base ct j x dds n g) (h : j ≤ k) : Maker P w K mg base ct k x dds n g := by
  obtain ⟨i, h1, h2⟩ := c
  exact ⟨i, by omega, h2⟩
theorem se_mk {ct : CT} {X : Cx} {k n : Nat} {x : Str} {dds : List D} {g : FD} {np pos : Pos} {e : Expr} {es : List Expr} {fas : FA} (M : Maker X.prog X.w X.K X.mg X.base ct k x dds (n + dds.length + 1) g) (hr : RoomG k X.A) (hg : Gl X x) (ha : SA ct X (e :: es) fas) (hn : ∀ env S ds S', fas env S = some (ds, S') → ds.length = n) (hdb : (x == ("__debug__" : Str)) = false := by decide)
    (he : starEach (e :: es) X.env = (false, eval e X.env) :: starEach es X.env := by rfl) (hpl : (backTo pos (starEach es X.env)).any (·.1) = false := by rfl) : SE ct X (.Call (.Name x np) (e :: es) [] pos) (fMake x g dds fas) := by
  obtain ⟨j, h1, h2⟩ := M
  exact se_make h2 (hr.mono h1) hg ha hn hdb he hpl
/-! ## the law's promise: of the script alone -/
def spScr (K : PySem.W.Frag) : Sp := fun vs H Q _ => ∃ (a : Addr) (ns : List Int), vs = [.ref a] ∧ SqL K H a (ns.map V.int) ∧ ns.length ≤ 63 ∧ ∀ H', Q (.bl true) H'
theorem law_scr {P : Program} {w : World} {K : PySem.W.Frag} {mg : Str → Option Value} {base : Heap} {ct : CT} {k : Nat} {f : Addr} {fd : FuncData} {ps : List Str} {g : FD} (F : FnG P w K mg base k f fd ps (spD K ct 1 g)) (h : ∀ ns : List Int, ns.length ≤ 63 → ∃ S', g [.scr ns] [] = some (.bl true, S')) : FnG P w K mg base k f fd ps (spScr K) := by
  refine F.imp fun vs H Q E hs => ?_
  obtain ⟨a, ns, rfl, hS, hl, q⟩ := hs
  obtain ⟨S', h⟩ := h ns hl
  refine ⟨rfl, [], H, [], [.scr ns], .bl true, S', ⟨Same.refl _, rfl, List.nodup_nil, fun a h => (by cases h), fun i a c h1 h2 => (by simp at h1), fun i a c q h1 => (by simp at h1)⟩, ⟨_, _, rfl, ⟨a, rfl, hS⟩, rfl⟩, h, fun m' F' v H' _ _ r => ?_⟩
  have r : v = .bl true := r
  rw [r]
  exact q H'
end DL

namespace DL
open PySem PySem.Spec PyProof.Rows L2
/-! ## methods and __init__ by their texts -/
def MethAt (K : PySem.W.Frag) (C : Addr) (x qual : Str) (st : Stmt) (ps : List Str) (kwb : KWB := []) : Prop := ∃ (f : Addr) (fd : FuncData), Fun K x qual st f fd ∧ Meth K C x f ∧ Binds K fd ps [] ∧ KwOk K fd ps 1 kwb
def InitAt (K : PySem.W.Frag) (C : Addr) (qual : Str) (st : Stmt) (ps : List Str) (dvs : List V) (kwb : KWB := []) : Prop :=
  ∃ (f : Addr) (fd : FuncData), FunD K "__init__" qual (defArgs st) (defBody st) (defScope st) dvs [] f fd ∧ Mk K C f ∧ (∀ j, j ≤ dvs.length → ∃ ds, Vals (dvs.drop j) ds ∧ Binds K fd ps ds) ∧ KwOk K fd ps 1 kwb
def Initer (P : Program) (w : World) (K : PySem.W.Frag) (mg : Str → Option Value) (base : Heap) (ct : CT) (k : Nat) (x : Str) (dvs : List V) (n : Nat) (g : FD) (kwb : KWB := []) : Prop :=
  ∃ (C f : Addr) (fd : FuncData) (ps : List Str), mg x = some (.ref C) ∧ ct x = some C ∧ Mk K C f ∧ ((∀ j, j ≤ dvs.length → ∃ ds, Vals (dvs.drop j) ds ∧ Binds K fd ps ds) ∧ KwOk K fd ps 1 kwb) ∧ FnG P w K mg base k f fd ps (spD K ct n g)
section
variable {P : Program} {w : World} {K : PySem.W.Frag} {mg : Str → Option Value} {base : Heap} {ct : CT} {C : Addr}
theorem calleeM_of {x qual : Str} {st : Stmt} {N ps : List Str} {k : Nat} {g : FS} {kwb : KWB} (d : MethAt K C x qual st ps kwb) (S : FnScope N ps (defScope st))
    (hbody : ∀ (f : Addr) (cdv : Value) (A : Around) (outer : List Env) (s : Shared) (H : Hp) (E : XK), RoomG k (A.deeper (envOfC qual (defScope st) s.heap.objs.size f cdv)) →
      SSs ct (cxOf CX0 P w K mg base N qual (defScope st) f cdv A outer s H E).nox (defBody st) g) : CalleeM P w K mg base ct (k + 1) C x ps.length (runD N.length g) kwb := by
  obtain ⟨f, fd, F, h1, h3⟩ := d
  exact ⟨f, fd, ps, h1, h3, def_ok F S (hbody f)⟩
theorem initer_of {c qual : Str} {st : Stmt} {N ps : List Str} {k : Nat} {g : FS} {dvs : List V} {kwb : KWB} (kc : Klass K ct c C) (hm : mg c = some (.ref C)) (d : InitAt K C qual st ps dvs kwb) (S : FnScope N ps (defScope st))
    (hbody : ∀ (f : Addr) (cdv : Value) (A : Around) (outer : List Env) (s : Shared) (H : Hp) (E : XK), RoomG k (A.deeper (envOfC qual (defScope st) s.heap.objs.size f cdv)) →
      SSs ct (cxOf CX0 P w K mg base N qual (defScope st) f cdv A outer s H E).nox (defBody st) g) : Initer P w K mg base ct (k + 1) c dvs ps.length (runD N.length g) kwb := by
  obtain ⟨f, fd, F, h1, h3⟩ := d
  exact ⟨C, f, fd, ps, hm, kc.at_, h1, h3, def_okD F S (hbody f)⟩
theorem maker_of {x : Str} {dvs : List V} {n k : Nat} {g : FD} {dds : List D} {kwb : KWB} (I : Initer P w K mg base ct k x dvs n g kwb) (j : Nat) (hj : j ≤ dvs.length) (hr : ∀ m F, Reps K ct m F dds (dvs.drop j)) : Maker P w K mg base ct (k + 1) x dds n g := by
  obtain ⟨C, f, fd, ps, h1, h2, h3, h4, h5⟩ := I
  obtain ⟨ds, h6, h7⟩ := h4.1 j hj
  exact ⟨k, Nat.le_refl _, C, f, fd, ps, ds, dvs.drop j, h1, h2, h3, h7, h6, hr, h5⟩
end
end DL

namespace DL
open PySem PySem.Spec PyProof.Rows L2
/-! ## new objects that stay as they are -/
def MkSpec (c : Str) (fs : List Str) (g : FD) (g' : List D → Option (List D)) : Prop :=
  ∀ (S : Sto) (args vals : List D), g' args = some vals → g (.ref S.length :: args) (S ++ [.ins c [] []]) = some (.non, S ++ [.ins c fs vals]) ∧ noRefs vals = true
def fMakeF (c : Str) (fs : List Str) (g' : List D → Option (List D)) (dds : List D) (fas : FA) : FE := fun env S => (fas env S).bind fun p => (g' (p.1 ++ dds)).map fun vals => (.obj c fs vals, p.2)
def MakerF (P : Program) (w : World) (K : PySem.W.Frag) (mg : Str → Option Value) (base : Heap) (ct : CT) (k : Nat) (x : Str) (fs : List Str) (dds : List D) (n : Nat) (g' : List D → Option (List D)) : Prop :=
  ∃ g, Maker P w K mg base ct k x dds n g ∧ MkSpec x fs g g'
theorem MakerF.mono {P : Program} {w : World} {K : PySem.W.Frag} {mg : Str → Option Value} {base : Heap} {ct : CT} {j k n : Nat} {x : Str} {fs : List Str} {dds : List D} {g : List D → Option (List D)} (c : MakerF P w K mg base ct j x fs dds n g) (h : j ≤ k) : MakerF P w K mg base ct k x fs dds n g := by
  obtain ⟨g0, h1, h2⟩ := c
  exact ⟨g0, h1.mono h, h2⟩
theorem se_mkF {ct : CT} {X : Cx} {k n : Nat} {x : Str} {fs : List Str} {dds : List D} {g' : List D → Option (List D)} {np pos : Pos} {e : Expr} {es : List Expr} {fas : FA} (M : MakerF X.prog X.w X.K X.mg X.base ct k x fs dds (n + dds.length + 1) g') (hr : RoomG k X.A) (hg : Gl X x) (ha : SA ct X (e :: es) fas) (hn : ∀ env S ds S', fas env S = some (ds, S') → ds.length = n) (hdb : (x == ("__debug__" : Str)) = false := by decide)
    (he : starEach (e :: es) X.env = (false, eval e X.env) :: starEach es X.env := by rfl) (hpl : (backTo pos (starEach es X.env)).any (·.1) = false := by rfl) : SE ct X (.Call (.Name x np) (e :: es) [] pos) (fMakeF x fs g' dds fas) := by
  obtain ⟨g, ⟨j, hj, M⟩, spec⟩ := M
  have hr := hr.mono hj
  obtain ⟨C, f, fd, ps, dl, dvs, hm, hct, mk, bi, hd, hdr, fn⟩ := M
  obtain ⟨tb, pb, rb⟩ := ha
  refine ⟨_, pe_makeG (E := fun _ _ _ => False) mk fn hr hg hm bi hd pb hdb he hpl, fun m F S σ H env d S' Q s en h p => ?_⟩
  obtain ⟨⟨xs, S1⟩, h1, h⟩ := bind_some h
  obtain ⟨vals, hv, h⟩ := map_some h
  cases h
  obtain ⟨h2, hnr⟩ := spec S1 _ vals hv
  refine rb m F S σ H env xs S1 _ s en h1 fun m1 F1 us H1 x1 s1 r1 q dx hq hdx hne => ?_
  have hnm : dx ∉ m1 := fun hmem => by
    obtain ⟨o, ho⟩ := s1.there hmem
    rw [ho] at hdx
    cases hdx
  have hnf : F1 dx = none := by
    cases e : F1 dx with
    | none => rfl
    | some o =>
      have := s1.same _ _ e
      rw [hdx] at this
      cases this
  have s2 := s1.hidden hnm hnf (.own q)
  have x2 := (Ext.refl m1 F1 H1).put hdx (.own q)
  have hq2 : upd H1 dx (.own q) q = none := by
    rw [upd_ne (fun e => hne e.symm)]
    exact hq
  obtain ⟨s3, x3⟩ := s2.fresh hq2 (o := .ins C dx []) (c := .ins x [] []) ⟨C, dx, [], rfl, hct, rfl, rfl⟩
  have hl : (m1 ++ [q])[S1.length]? = some q := by rw [← s1.len]; simp
  have rr : Reps X.K ct (m1 ++ [q]) F1 (.ref S1.length :: (xs ++ dds)) (.ref q :: (us ++ dvs)) := ⟨.ref q, us ++ dvs, rfl, ⟨q, hl, rfl⟩, ((r1.mono x2).mono x3).append (hdr _ _)⟩
  refine ⟨?_, m1 ++ [q], F1, S1 ++ [.ins x [] []], .ref S1.length :: (xs ++ dds), .non, _, s3, rr, h2, fun m' F' v H' x' s' r' => ⟨r', ?_⟩⟩
  · rw [← rr.length, List.length_cons, List.length_append, hn _ _ _ _ h1]
  · have xx : Ext m1 F1 H1 m' F' H' := (x2.trans x3).trans x'
    obtain ⟨s4, x4⟩ := drop_sim (Old.refl S1) s1 xx s'
    have q1 : m'[S1.length]? = some q := x'.pre _ _ hl
    have hL : (S1 ++ [Cell.ins x fs vals])[S1.length]? = some (.ins x fs vals) := by simp
    obtain ⟨C', dx', vs', c1, c2, c3, c4⟩ := s'.cell _ q _ q1 hL
    rw [hct] at c2
    cases c2
    have mL : q ∈ m' := List.mem_iff_getElem?.mpr ⟨_, q1⟩
    have fL : F' q = none := s'.off q mL
    have nL : q ∉ m'.take S1.length := fun hm => by
      obtain ⟨i, hi⟩ := List.mem_iff_getElem?.mp hm
      have hil : i < S1.length := by
        have := (List.getElem?_eq_some_iff.mp hi).1
        rw [List.length_take] at this
        omega
      rw [List.getElem?_take_of_lt hil] at hi
      have := nodup_inj s'.nd hi q1
      omega
    exact p _ (upd F' q (.ins C dx' (fs.zip vs'))) (.ref q) H' (x1.trans (x4.freeze hq fL _)) (s4.freeze nL fL c1) ⟨q, C, dx', vs', rfl, hct, upd_same, c3, Reps.mono' (fun _ _ q => q) (same_upd fL _) _ _ (Reps.noref _ _ hnr c4)⟩
theorem makerF_of {P : Program} {w : World} {K : PySem.W.Frag} {mg : Str → Option Value} {base : Heap} {ct : CT} {k n : Nat} {x : Str} {fs : List Str} {dds : List D} {g : FD} {g' : List D → Option (List D)} (M : Maker P w K mg base ct k x dds n g) (h : MkSpec x fs g g') : MakerF P w K mg base ct k x fs dds n g' := ⟨g, M, h⟩
end DL

namespace DL
open PySem PySem.Spec PyProof.Rows L2
/-! ## what must hold ahead of a step, by rewriting -/
section
variable {α β : Type} {env : DEnv} {S S1 : Sto} {f1 f2 : FS} {t u : FT} {f fa fb fc fo fe fv fk fx : FE} {fas : FA} {P : D → Sto → Prop} {PA : List D → Sto → Prop} {PT : Bool → Sto → Prop} {PS : Fl → Sto → Prop} {PG : DEnv → Sto → Prop}
theorem R_some {a : α} {P : α → Sto → Prop} : R (some (a, S)) P ↔ P a S := ⟨fun ⟨_, _, e, p⟩ => by cases e; exact p, fun p => ⟨_, _, rfl, p⟩⟩
theorem R_none {P : α → Sto → Prop} : R (none : Option (α × Sto)) P ↔ False := ⟨fun ⟨_, _, e, _⟩ => (by cases e), False.elim⟩
theorem R_bind {o : Option (α × Sto)} {k : α × Sto → Option (β × Sto)} {P : β → Sto → Prop} : R (o.bind k) P ↔ R o fun a S => R (k (a, S)) P := by
  cases o with
  | none => simp only [Option.bind_none, R_none]
  | some a => obtain ⟨a, S'⟩ := a; simp only [Option.bind_some, R_some]
theorem R_ite {c : Prop} [Decidable c] {x y : Option (α × Sto)} {P : α → Sto → Prop} : R (if c then x else y) P ↔ if c then R x P else R y P := by
  split <;> exact Iff.rfl
theorem R_cond {c : Prop} [Decidable c] {a : α} {P : α → Sto → Prop} : R (if c then some (a, S) else none) P ↔ c ∧ P a S := by
  by_cases h : c
  · rw [if_pos h, R_some]; exact ⟨fun p => ⟨h, p⟩, fun p => p.2⟩
  · rw [if_neg h, R_none]; exact ⟨False.elim, fun p => h p.1⟩
/-- by the kind of a value -/
def WB : D → (Bool → Prop) → Prop
  | .bl b, P => P b
  | _, _ => False
def WI : D → (Int → Prop) → Prop
  | .int b, P => P b
  | _, _ => False
def WStr : D → (Str → Prop) → Prop
  | .str b, P => P b
  | _, _ => False
def WTup : D → (List D → Prop) → Prop
  | .tup b, P => P b
  | _, _ => False
def WLst : D → (List D → Prop) → Prop
  | .lst b, P => P b
  | _, _ => False
def WRef : D → (Nat → Prop) → Prop
  | .ref b, P => P b
  | _, _ => False
theorem wb_bl {b : Bool} {P : Bool → Prop} : WB (.bl b) P ↔ P b := Iff.rfl
theorem wi_int {b : Int} {P : Int → Prop} : WI (.int b) P ↔ P b := Iff.rfl
theorem wstr_str {b : Str} {P : Str → Prop} : WStr (.str b) P ↔ P b := Iff.rfl
theorem wtup_tup {b : List D} {P : List D → Prop} : WTup (.tup b) P ↔ P b := Iff.rfl
theorem wlst_lst {b : List D} {P : List D → Prop} : WLst (.lst b) P ↔ P b := Iff.rfl
theorem wref_ref {b : Nat} {P : Nat → Prop} : WRef (.ref b) P ↔ P b := Iff.rfl
theorem wp_var0 {d : D} {r : DEnv} : R (fVar 0 (some d :: r) S) P ↔ P d S := R_some
theorem wp_varS {n : Nat} {x : Option D} {r : DEnv} : R (fVar (n + 1) (x :: r) S) P ↔ R (fVar n r S) P := by
  unfold fVar
  rw [List.getElem?_cons_succ]
theorem wp_C {d : D} : R (fC d env S) P ↔ P d S := R_some
theorem wp_Bin {g : D → D → Sto → Option (D × Sto)} : R (fBin g fa fb env S) P ↔ R (fa env S) fun x S1 => R (fb env S1) fun y S2 => R (g x y S2) P := by unfold fBin; simp only [R_bind]
theorem wp_neg : R (fUn gNeg fa env S) P ↔ R (fa env S) fun x S1 => WI x fun i => P (.int (-i)) S1 := by
  unfold fUn
  simp only [R_bind]
  refine ⟨fun ⟨d, S1, e, q⟩ => ⟨d, S1, e, ?_⟩, fun ⟨d, S1, e, q⟩ => ⟨d, S1, e, ?_⟩⟩
  · cases d <;> first | exact (R_none.mp q).elim | exact R_some.mp q
  · cases d <;> first | exact q.elim | exact R_some.mpr q
theorem wp_nil : R (fNil env S) PA ↔ PA [] S := R_some
theorem wp_cons : R (fCons f fas env S) PA ↔ R (f env S) fun d S1 => R (fas env S1) fun ds S2 => PA (d :: ds) S2 := by unfold fCons; simp only [R_bind, R_some]
theorem wp_tup : R (fTup fas env S) P ↔ R (fas env S) fun ds S1 => ds.length ≤ 1000 ∧ P (.tup ds) S1 := by unfold fTup; simp only [R_bind, R_cond]
theorem wp_lst : R (fLst fas env S) P ↔ R (fas env S) fun ds S1 => ds.length ≤ 1000 ∧ P (.lst ds) S1 := by unfold fLst; simp only [R_bind, R_cond]
theorem wp_lstM : R (fLstM fas env S) P ↔ R (fas env S) fun ds S1 => ds.length ≤ 1000 ∧ P (.ref S1.length) (S1 ++ [.lst ds]) := by unfold fLstM; simp only [R_bind, R_cond]
theorem wp_Call {g : FD} : R (fCall g fas env S) P ↔ R (fas env S) fun ds S1 => R (g ds S1) P := by unfold fCall; simp only [R_bind]
theorem wp_And : R (fAnd fa fb env S) P ↔ R (fa env S) fun d S1 => WB d fun b => if b = true then R (fb env S1) P else P (.bl false) S1 := by
  unfold fAnd
  simp only [R_bind]
  refine ⟨fun ⟨d, S1, e, q⟩ => ⟨d, S1, e, ?_⟩, fun ⟨d, S1, e, q⟩ => ⟨d, S1, e, ?_⟩⟩
  · cases d <;> first | exact (R_none.mp q).elim | skip
    rename_i b
    cases b
    · exact R_some.mp q
    · exact q
  · cases d <;> first | exact q.elim | skip
    rename_i b
    cases b
    · exact R_some.mpr q
    · exact q
theorem wp_Or : R (fOr fa fb env S) P ↔ R (fa env S) fun d S1 => WB d fun b => if b = true then P (.bl true) S1 else R (fb env S1) P := by
  unfold fOr
  simp only [R_bind]
  refine ⟨fun ⟨d, S1, e, q⟩ => ⟨d, S1, e, ?_⟩, fun ⟨d, S1, e, q⟩ => ⟨d, S1, e, ?_⟩⟩
  · cases d <;> first | exact (R_none.mp q).elim | skip
    rename_i b
    cases b
    · exact q
    · exact R_some.mp q
  · cases d <;> first | exact q.elim | skip
    rename_i b
    cases b
    · exact q
    · exact R_some.mpr q
theorem wp_Not : R (fNot fa env S) P ↔ R (fa env S) fun d S1 => WB d fun b => P (.bl (!b)) S1 := by
  unfold fNot
  simp only [R_bind]
  refine ⟨fun ⟨d, S1, e, q⟩ => ⟨d, S1, e, ?_⟩, fun ⟨d, S1, e, q⟩ => ⟨d, S1, e, ?_⟩⟩
  · cases d <;> first | exact (R_none.mp q).elim | exact R_some.mp q
  · cases d <;> first | exact q.elim | exact R_some.mpr q
theorem wp_Test : R (fTest f env S) PT ↔ R (f env S) fun d S1 => WB d fun b => PT b S1 := by
  unfold fTest
  simp only [R_bind]
  refine ⟨fun ⟨d, S1, e, q⟩ => ⟨d, S1, e, ?_⟩, fun ⟨d, S1, e, q⟩ => ⟨d, S1, e, ?_⟩⟩
  · cases d <;> first | exact (R_none.mp q).elim | exact R_some.mp q
  · cases d <;> first | exact q.elim | exact R_some.mpr q
theorem wp_tAnd : R (tAndD t u env S) PT ↔ R (t env S) fun b S1 => if b = true then R (u env S1) PT else PT false S1 := by unfold tAndD; simp only [R_bind, R_ite, R_some]
theorem wp_tOr : R (tOrD t u env S) PT ↔ R (t env S) fun b S1 => if b = true then PT true S1 else R (u env S1) PT := by unfold tOrD; simp only [R_bind, R_ite, R_some]
theorem wp_tNot : R (tNotD t env S) PT ↔ R (t env S) fun b S1 => PT (!b) S1 := by unfold tNotD; simp only [R_bind, R_some]
theorem wp_If : R (fIf t fa fb env S) P ↔ R (t env S) fun b S1 => if b = true then R (fa env S1) P else R (fb env S1) P := by unfold fIf; simp only [R_bind, R_ite]
theorem wp_Chain {g g' : D → D → Sto → Option (D × Sto)} : R (fChain g g' fa fb fc env S) P ↔ R (fa env S) fun x S1 => R (fb env S1) fun y S2 => R (g x y S2) fun z S3 => WB z fun b => if b = true then R (fc env S3) fun w S4 => R (g' y w S4) P else P (.bl false) S3 := by
  unfold fChain
  simp only [R_bind]
  refine ⟨fun ⟨x, S1, e, y, S2, e2, z, S3, e3, q⟩ => ⟨x, S1, e, y, S2, e2, z, S3, e3, ?_⟩, fun ⟨x, S1, e, y, S2, e2, z, S3, e3, q⟩ => ⟨x, S1, e, y, S2, e2, z, S3, e3, ?_⟩⟩
  · cases z <;> first | exact (R_none.mp q).elim | skip
    rename_i b
    cases b
    · exact R_some.mp q
    · exact R_bind.mp q
  · cases z <;> first | exact q.elim | skip
    rename_i b
    cases b
    · exact R_some.mpr q
    · exact R_bind.mpr q
/-! statements -/
theorem wp_Skip : R (sSkip env S) PS ↔ PS (.nx env) S := R_some
theorem wp_Break : R (sBreak env S) PS ↔ PS (.bk env) S := R_some
theorem wp_Cont : R (sCont env S) PS ↔ PS (.ct env) S := R_some
theorem wp_Never : R (sNever env S) PS ↔ False := R_none
theorem wp_fNever : R (fNever env S) P ↔ False := R_none
theorem wp_Seq : R (sSeq f1 f2 env S) PS ↔ R (f1 env S) (PFl PS f2) := by
  refine ⟨fun ⟨a, S', e, p⟩ => ?_, r_seq⟩
  unfold sSeq at e
  obtain ⟨⟨fl, S1⟩, h1, h⟩ := bind_some e
  refine ⟨fl, S1, h1, ?_⟩
  cases fl <;> first | exact ⟨_, _, h, p⟩ | (cases h; exact p)
theorem wp_pfl_nx {e : DEnv} : PFl PS f2 (.nx e) S ↔ R (f2 e S) PS := Iff.rfl
theorem wp_pfl_rt {d : D} : PFl PS f2 (.rt d) S ↔ PS (.rt d) S := Iff.rfl
theorem wp_pfl_bk {e : DEnv} : PFl PS f2 (.bk e) S ↔ PS (.bk e) S := Iff.rfl
theorem wp_pfl_ct {e : DEnv} : PFl PS f2 (.ct e) S ↔ PS (.ct e) S := Iff.rfl
theorem wp_Expr : R (sExpr f env S) PS ↔ R (f env S) fun _ S1 => PS (.nx env) S1 := by unfold sExpr; simp only [R_bind, R_some]
theorem wp_Ret : R (sRet f env S) PS ↔ R (f env S) fun d S1 => PS (.rt d) S1 := by unfold sRet; simp only [R_bind, R_some]
theorem wp_sIf : R (sIf t f1 f2 env S) PS ↔ R (t env S) fun b S1 => if b = true then R (f1 env S1) PS else R (f2 env S1) PS := by unfold sIf; simp only [R_bind, R_ite]
theorem R_map {o : Option (α × Sto)} {k : α × Sto → β × Sto} {P : β → Sto → Prop} : R (o.map k) P ↔ R o fun a S => P (k (a, S)).1 (k (a, S)).2 := by
  cases o with
  | none => simp only [Option.map_none, R_none]
  | some a => obtain ⟨a, S'⟩ := a; simp only [Option.map_some]; rw [R_some (P := fun a S => P (k (a, S)).1 (k (a, S)).2)]; exact R_some
theorem wp_Asg {g : FG} : R (sAsg f g env S) PS ↔ R (f env S) fun d S1 => R (g d env S1) fun e S2 => PS (.nx e) S2 := by unfold sAsg; simp only [R_bind, R_map]
theorem wp_N {i : Nat} {d : D} : R (gN i d env S) PG ↔ PG (env.set i (some d)) S := R_some
theorem wp_gNil : R (gNil [] env S) PG ↔ PG env S := R_some
theorem wp_gCons {g : FG} {gs : FGs} {d : D} {ds : List D} : R (gCons g gs (d :: ds) env S) PG ↔ R (g d env S) fun e S1 => R (gs ds e S1) PG := R_bind
theorem wp_gTup {n : Nat} {gs : FGs} {ds : List D} : R (gTup n gs (.tup ds) env S) PG ↔ ds.length = n ∧ R (gs ds env S) PG := by
  show R (if ds.length = n then gs ds env S else none) PG ↔ _
  by_cases h : ds.length = n
  · rw [if_pos h]; exact ⟨fun p => ⟨h, p⟩, fun p => p.2⟩
  · rw [if_neg h, R_none]; exact ⟨False.elim, fun p => h p.1⟩
/-- o[i] = v -/
def RU (o : Option Sto) (Q : Sto → Prop) : Prop := ∃ S, o = some S ∧ Q S
theorem wp_gSub {g : D → D → D → Sto → Option Sto} {d : D} : R (gSub g fa fb d env S) PG ↔ R (fa env S) fun x S1 => R (fb env S1) fun y S2 => RU (g x y d S2) (PG env) := by
  unfold gSub
  simp only [R_bind]
  refine ⟨fun ⟨x, S1, e, y, S2, e2, q⟩ => ⟨x, S1, e, y, S2, e2, ?_⟩, fun ⟨x, S1, e, y, S2, e2, q⟩ => ⟨x, S1, e, y, S2, e2, ?_⟩⟩
  · obtain ⟨a, S3, e3, p⟩ := q
    obtain ⟨S4, h1, h2⟩ := map_some e3
    cases h2
    exact ⟨_, h1, p⟩
  · obtain ⟨S3, e3, p⟩ := q
    exact ⟨_, _, by rw [e3]; rfl, p⟩
theorem wp_Par {i j : Nat} : R (sPar i j fas env S) PS ↔ R (fas env S) fun ds S1 => ∃ v w, ds = [v, w] ∧ PS (.nx ((env.set i (some v)).set j (some w))) S1 := by
  refine ⟨fun h => ?_, r_par⟩
  unfold sPar at h
  rw [R_bind] at h
  obtain ⟨ds, S1, e, q⟩ := h
  refine ⟨ds, S1, e, ?_⟩
  match ds, q with
  | [v, w], q => exact ⟨v, w, rfl, R_some.mp q⟩
  | [], q => exact (R_none.mp q).elim
  | [_], q => exact (R_none.mp q).elim
  | _ :: _ :: _ :: _, q => exact (R_none.mp q).elim
theorem wp_two {v w : D} {Q : D → D → Prop} : (∃ a b, [v, w] = [a, b] ∧ Q a b) ↔ Q v w := ⟨fun ⟨a, b, e, q⟩ => by cases e; exact q, fun q => ⟨v, w, rfl, q⟩⟩
/-! a def -/
theorem wp_Run {n : Nat} {g : FS} {ds : List D} : R (runD n g ds S) P ↔ R (g (ds.map some ++ List.replicate (n - ds.length) none) S) (PRun P) := by
  unfold runD
  simp only [R_bind]
  refine ⟨fun ⟨x, S1, e, q⟩ => ⟨x, S1, e, ?_⟩, fun ⟨x, S1, e, q⟩ => ⟨x, S1, e, ?_⟩⟩
  · cases x <;> first | exact (R_some (P := P)).mp q | exact (R_none (P := P)).mp q
  · cases x <;> first | exact (R_some (P := P)).mpr q | exact (R_none (P := P)).mpr q
theorem wp_run_rt {d : D} : PRun P (.rt d) S ↔ P d S := Iff.rfl
theorem wp_run_nx {e : DEnv} : PRun P (.nx e) S ↔ P .non S := Iff.rfl
theorem wp_bk_nx {I : DEnv → Sto → Prop} {e : DEnv} : PBk I PS (.nx e) S ↔ I e S := Iff.rfl
theorem wp_bk_ct {I : DEnv → Sto → Prop} {e : DEnv} : PBk I PS (.ct e) S ↔ I e S := Iff.rfl
theorem wp_bk_bk {I : DEnv → Sto → Prop} {e : DEnv} : PBk I PS (.bk e) S ↔ PS (.nx e) S := Iff.rfl
theorem wp_bk_rt {I : DEnv → Sto → Prop} {d : D} : PBk I PS (.rt d) S ↔ PS (.rt d) S := Iff.rfl
/-! loops over written rows -/
theorem wp_For {fi : FA} {g : FG} : R (sFor fi g f1 env S) PS ↔ R (fi env S) fun xs S1 => R (forD g f1 xs env S1) PS := by unfold sFor; simp only [R_bind]
theorem wp_for0 {g : FG} : R (forD g f1 [] env S) PS ↔ PS (.nx env) S := R_some
theorem wp_forS {g : FG} {x : D} {xs : List D} : R (forD g f1 (x :: xs) env S) PS ↔ R (g x env S) fun e S1 => R (f1 e S1) (PBk (fun e' S2 => R (forD g f1 xs e' S2) PS) PS) := by
  show R ((g x env S).bind _) PS ↔ _
  simp only [R_bind]
  refine ⟨fun ⟨a, S1, e, b, S2, e2, q⟩ => ⟨a, S1, e, b, S2, e2, ?_⟩, fun ⟨a, S1, e, b, S2, e2, q⟩ => ⟨a, S1, e, b, S2, e2, ?_⟩⟩
  · cases b <;> first | exact q | exact (R_some (P := PS)).mp q
  · cases b <;> first | exact q | exact (R_some (P := PS)).mpr q
theorem wp_iLst : R (iLst f env S) PA ↔ R (f env S) fun d S1 => WLst d fun ds => PA ds S1 := by
  unfold iLst
  simp only [R_bind]
  refine ⟨fun ⟨d, S1, e, q⟩ => ⟨d, S1, e, ?_⟩, fun ⟨d, S1, e, q⟩ => ⟨d, S1, e, ?_⟩⟩
  · cases d <;> first | exact (R_none.mp q).elim | exact R_some.mp q
  · cases d <;> first | exact q.elim | exact R_some.mpr q
theorem wp_iTup : R (iTup f env S) PA ↔ R (f env S) fun d S1 => WTup d fun ds => PA ds S1 := by
  unfold iTup
  simp only [R_bind]
  refine ⟨fun ⟨d, S1, e, q⟩ => ⟨d, S1, e, ?_⟩, fun ⟨d, S1, e, q⟩ => ⟨d, S1, e, ?_⟩⟩
  · cases d <;> first | exact (R_none.mp q).elim | exact R_some.mp q
  · cases d <;> first | exact q.elim | exact R_some.mpr q
theorem wp_iR1 : R (iRange1 fas env S) PA ↔ R (fas env S) fun ds S1 => ∃ j, ds = [.int j] ∧ okR j = true ∧ PA (rangeD 0 j) S1 := by
  unfold iRange1
  simp only [R_bind]
  refine ⟨fun ⟨d, S1, e, q⟩ => ⟨d, S1, e, ?_⟩, fun ⟨d, S1, e, q⟩ => ⟨d, S1, e, ?_⟩⟩
  · dsimp only at q
    split at q
    · rename_i j
      rw [R_cond] at q
      exact ⟨j, rfl, q.1, q.2⟩
    · exact (R_none.mp q).elim
  · obtain ⟨j, rfl, h1, h2⟩ := q
    exact R_cond.mpr ⟨h1, h2⟩
theorem wp_iR2 : R (iRange2 fas env S) PA ↔ R (fas env S) fun ds S1 => ∃ i j, ds = [.int i, .int j] ∧ (okR i = true ∧ okR j = true) ∧ PA (rangeD i j) S1 := by
  unfold iRange2
  simp only [R_bind]
  refine ⟨fun ⟨d, S1, e, q⟩ => ⟨d, S1, e, ?_⟩, fun ⟨d, S1, e, q⟩ => ⟨d, S1, e, ?_⟩⟩
  · dsimp only at q
    split at q
    · rename_i i j
      rw [R_cond] at q
      exact ⟨i, j, rfl, q.1, q.2⟩
    · exact (R_none.mp q).elim
  · obtain ⟨i, j, rfl, h1, h2⟩ := q
    exact R_cond.mpr ⟨h1, h2⟩
theorem wp_r1 {i : Int} {Q : Int → Prop} : (∃ j, [D.int i] = [D.int j] ∧ Q j) ↔ Q i := ⟨fun ⟨a, e, q⟩ => by cases e; exact q, fun q => ⟨i, rfl, q⟩⟩
theorem wp_r2 {i j : Int} {Q : Int → Int → Prop} : (∃ a b, [D.int i, D.int j] = [D.int a, D.int b] ∧ Q a b) ↔ Q i j := ⟨fun ⟨a, b, e, q⟩ => by cases e; exact q, fun q => ⟨i, j, rfl, q⟩⟩
/-! operators -/
theorem wp_add {i j : Int} : R (gAdd (.int i) (.int j) S) P ↔ P (.int (i + j)) S := R_some
theorem wp_addL {a b : List D} : R (gAdd (.lst a) (.lst b) S) P ↔ a.length + b.length ≤ 16777216 ∧ P (.lst (a ++ b)) S := R_cond
theorem wp_addS {a b : Str} : R (gAdd (.str a) (.str b) S) P ↔ a.length + b.length ≤ 16777216 ∧ P (.str (a ++ b)) S := R_cond
theorem wp_sub {i j : Int} : R (gI0 (fun i j => .int (i - j)) (.int i) (.int j) S) P ↔ P (.int (i - j)) S := R_some
theorem wp_I0 {k : Int → Int → D} {i j : Int} : R (gI0 k (.int i) (.int j) S) P ↔ P (k i j) S := R_some
theorem wp_mul {i j : Int} : R (gI (fun i j => smallI i && smallI j) (fun i j => .int (i * j)) (.int i) (.int j) S) P ↔ (smallI i = true ∧ smallI j = true) ∧ P (.int (i * j)) S := by
  rw [← Bool.and_eq_true]
  exact R_cond
def lgI (j : Int) : Prop := j.natAbs.log2 < 9000
theorem wp_fdiv {i j : Int} : R (gI (fun _ j => decide (0 < j) && decide (j.natAbs.log2 < 9000)) (fun i j => .int (i / j)) (.int i) (.int j) S) P ↔ (0 < j ∧ lgI j) ∧ P (.int (i / j)) S := by
  have e : ((decide (0 < j) && decide (j.natAbs.log2 < 9000)) = true) ↔ (0 < j ∧ lgI j) := by simp [lgI]
  rw [← e]
  exact R_cond
theorem wp_mod {i j : Int} : R (gI (fun _ j => decide (0 < j)) (fun i j => .int (i % j)) (.int i) (.int j) S) P ↔ 0 < j ∧ P (.int (i % j)) S := by
  have e : (decide (0 < j) = true) ↔ 0 < j := by simp
  rw [← e]
  exact R_cond
theorem wp_eqI {i j : Int} : R (gEq (.int i) (.int j) S) P ↔ P (.bl (decide (i = j))) S := R_some
theorem wp_eqS {i j : Str} : R (gEq (.str i) (.str j) S) P ↔ P (.bl (decide (i = j))) S := R_some
theorem wp_eqB {i j : Bool} : R (gEq (.bl i) (.bl j) S) P ↔ P (.bl (decide (i = j))) S := R_some
theorem wp_neI {i j : Int} : R (gNe (.int i) (.int j) S) P ↔ P (.bl (!decide (i = j))) S := R_some
theorem wp_neS {i j : Str} : R (gNe (.str i) (.str j) S) P ↔ P (.bl (!decide (i = j))) S := R_some
theorem wp_neB {i j : Bool} : R (gNe (.bl i) (.bl j) S) P ↔ P (.bl (!decide (i = j))) S := R_some
theorem wp_isN {x : D} : R (gIsN x .non S) P ↔ P (.bl (isNonD x)) S := by cases x <;> exact R_some
theorem wp_notN {x : D} : R (gNotN x .non S) P ↔ P (.bl (!isNonD x)) S := by cases x <;> exact R_some
theorem isn_int {i : Int} : isNonD (.int i) = false := rfl
theorem isn_non : isNonD .non = true := rfl
theorem isn_str {i : Str} : isNonD (.str i) = false := rfl
theorem isn_tup {i : List D} : isNonD (.tup i) = false := rfl
theorem isn_lst {i : List D} : isNonD (.lst i) = false := rfl
theorem isn_ref {i : Nat} : isNonD (.ref i) = false := rfl
theorem isn_bl {i : Bool} : isNonD (.bl i) = false := rfl
theorem wp_isi {T : String} : R (fIsi T f env S) P ↔ R (f env S) fun d S1 => ∃ b, isiT T d = some b ∧ P (.bl b) S1 := by
  unfold fIsi
  simp only [R_bind]
  refine ⟨fun ⟨d, S1, e, q⟩ => ⟨d, S1, e, ?_⟩, fun ⟨d, S1, e, q⟩ => ⟨d, S1, e, ?_⟩⟩
  · obtain ⟨a, S3, e3, p⟩ := q
    obtain ⟨b, h1, h2⟩ := map_some e3
    cases h2
    exact ⟨b, h1, p⟩
  · obtain ⟨b, e3, p⟩ := q
    exact ⟨_, _, by rw [e3]; rfl, p⟩
theorem wp_someB {b : Bool} {Q : Bool → Prop} : (∃ c, some b = some c ∧ Q c) ↔ Q b := ⟨fun ⟨a, e, q⟩ => by cases e; exact q, fun q => ⟨b, rfl, q⟩⟩
theorem isi_str_str {k : Str} : isiT "str" (.str k) = some true := rfl
theorem isi_int_int {k : Int} : isiT "int" (.int k) = some true := rfl
theorem isi_int_bl {k : Bool} : isiT "int" (.bl k) = some true := rfl
theorem isi_bool_int {k : Int} : isiT "bool" (.int k) = some false := rfl
theorem isi_bool_bl {k : Bool} : isiT "bool" (.bl k) = some true := rfl
theorem isi_int_non : isiT "int" .non = some false := rfl
theorem isi_int_str {k : Str} : isiT "int" (.str k) = some false := rfl
theorem isi_tuple_tup {k : List D} : isiT "tuple" (.tup k) = some true := rfl
/-! built-ins -/
theorem wp_abs {i : Int} : R (cAbs [.int i] S) P ↔ P (.int (if i < 0 then -i else i)) S := R_some
theorem wp_max2 {i j : Int} : R (cMax2 [.int i, .int j] S) P ↔ P (.int (if j > i then j else i)) S := R_some
theorem wp_min2 {i j : Int} : R (cMin2 [.int i, .int j] S) P ↔ P (.int (if j < i then j else i)) S := R_some
theorem wp_maxT {i j : Int} : R (cMaxT [.tup [.int i, .int j]] S) P ↔ P (.int (if j > i then j else i)) S := R_some
theorem wp_intI {i : Int} : R (cInt [.int i] S) P ↔ P (.int i) S := R_some
theorem wp_intB {i : Bool} : R (cInt [.bl i] S) P ↔ P (.int (if i then 1 else 0)) S := R_some
theorem wp_lenS {x : Str} : R (cLen [.str x] S) P ↔ x.length ≤ 16777216 ∧ P (.int x.length) S := R_cond
theorem wp_lenT {x : List D} : R (cLen [.tup x] S) P ↔ P (.int x.length) S := R_some
theorem wp_lenL {x : List D} : R (cLen [.lst x] S) P ↔ P (.int x.length) S := R_some
theorem wp_lenC {x : List Int} : R (cLen [.scr x] S) P ↔ P (.int x.length) S := R_some
theorem wp_divmod {i j : Int} : R (cDivmod [.int i, .int j] S) P ↔ (0 < j ∧ lgI j) ∧ P (.tup [.int (i / j), .int (i % j)]) S := R_cond
theorem wp_listL {x : List D} : R (cList [.lst x] S) P ↔ P (.lst x) S := R_some
theorem wp_listT {x : List D} : R (cList [.tup x] S) P ↔ P (.lst x) S := R_some
theorem wp_tupL {x : List D} : R (cTuple [.lst x] S) P ↔ P (.tup x) S := R_some
theorem wp_tupT {x : List D} : R (cTuple [.tup x] S) P ↔ P (.tup x) S := R_some
/-! dicts of the text -/
theorem wp_KIn {neg : Bool} {tab : List (Str × Int)} : R (fKIn neg tab f env S) P ↔ R (f env S) fun d S1 => ∃ s, d = .str s ∧ P (.bl (if neg then !(tab.lookup s).isSome else (tab.lookup s).isSome)) S1 := by
  unfold fKIn
  simp only [R_bind]
  refine ⟨fun ⟨d, S1, e, q⟩ => ⟨d, S1, e, ?_⟩, fun ⟨d, S1, e, q⟩ => ⟨d, S1, e, ?_⟩⟩
  · cases d <;> first | exact (R_none.mp q).elim | exact ⟨_, rfl, R_some.mp q⟩
  · obtain ⟨s, rfl, q⟩ := q
    exact R_some.mpr q
theorem wp_strE {s : Str} {Q : Str → Prop} : (∃ z, D.str s = D.str z ∧ Q z) ↔ Q s := ⟨fun ⟨a, e, q⟩ => by cases e; exact q, fun q => ⟨s, rfl, q⟩⟩
/-! objects -/
theorem wp_Fld {c x : Str} : R (fFld c x f env S) P ↔ R (f env S) fun d S1 => ∃ q, insOf c d S1 = some q ∧ ∃ v, getF q.1 q.2 x = some v ∧ P v S1 := by
  unfold fFld
  simp only [R_bind]
  refine ⟨fun ⟨d, S1, e, q⟩ => ⟨d, S1, e, ?_⟩, fun ⟨d, S1, e, q⟩ => ⟨d, S1, e, ?_⟩⟩
  · obtain ⟨a, S3, e3, p⟩ := q
    obtain ⟨q1, h1, h2⟩ := bind_some e3
    obtain ⟨v, h3, h4⟩ := map_some h2
    cases h4
    exact ⟨q1, h1, _, h3, p⟩
  · obtain ⟨q1, h1, v, h3, p⟩ := q
    exact ⟨_, _, by rw [h1]; show ((getF q1.1 q1.2 x).map _) = _; rw [h3]; rfl, p⟩
theorem wp_FldO {c c' x : Str} {fs : List Str} {ds : List D} {Q : D → Prop} : (∃ q, insOf c (.obj c' fs ds) S = some q ∧ ∃ v, getF q.1 q.2 x = some v ∧ Q v) ↔ c' = c ∧ ∃ v, getF fs ds x = some v ∧ Q v := by
  show (∃ q, (if c' = c then some (fs, ds) else none) = some q ∧ _) ↔ _
  by_cases h : c' = c
  · rw [if_pos h]
    exact ⟨fun ⟨q, e, z⟩ => by cases e; exact ⟨h, z⟩, fun ⟨_, z⟩ => ⟨_, rfl, z⟩⟩
  · rw [if_neg h]
    exact ⟨fun ⟨q, e, z⟩ => (by cases e), fun ⟨z, _⟩ => absurd z h⟩
theorem wp_getF {x : Str} {fs : List Str} {ds : List D} {Q : D → Prop} {v : D} (h : getF fs ds x = some v) : (∃ u, getF fs ds x = some u ∧ Q u) ↔ Q v := by
  rw [h]
  exact ⟨fun ⟨u, e, z⟩ => by cases e; exact z, fun z => ⟨v, rfl, z⟩⟩
theorem wp_Meth {c x : Str} {g : FD} : R (fMeth c x g fo fas env S) P ↔ R (fo env S) fun d S1 => (∃ q, insOf c d S1 = some q ∧ hasF q.1 x = false) ∧ R (fas env S1) fun ds S2 => R (g (d :: ds) S2) P := by
  unfold fMeth
  simp only [R_bind]
  refine ⟨fun ⟨d, S1, e, q⟩ => ⟨d, S1, e, ?_⟩, fun ⟨d, S1, e, q⟩ => ⟨d, S1, e, ?_⟩⟩
  · obtain ⟨a, S3, e3, p⟩ := q
    obtain ⟨q1, h1, h2⟩ := bind_some e3
    split at h2
    · rename_i hh
      obtain ⟨⟨ds, S4⟩, h3, h4⟩ := bind_some h2
      exact ⟨⟨q1, h1, hh⟩, ds, S4, h3, a, S3, h4, p⟩
    · cases h2
  · obtain ⟨⟨q1, h1, hh⟩, ds, S4, h3, a, S3, h4, p⟩ := q
    refine ⟨a, S3, ?_, p⟩
    rw [h1]
    show (if hasF q1.1 x = false then _ else _) = _
    rw [if_pos hh, h3]
    exact h4
theorem wp_MakeF {c : Str} {fs : List Str} {g' : List D → Option (List D)} {dds : List D} : R (fMakeF c fs g' dds fas env S) P ↔ R (fas env S) fun ds S1 => ∃ vals, g' (ds ++ dds) = some vals ∧ P (.obj c fs vals) S1 := by
  unfold fMakeF
  simp only [R_bind]
  refine ⟨fun ⟨d, S1, e, q⟩ => ⟨d, S1, e, ?_⟩, fun ⟨d, S1, e, q⟩ => ⟨d, S1, e, ?_⟩⟩
  · obtain ⟨a, S3, e3, p⟩ := q
    obtain ⟨b, h1, h2⟩ := map_some e3
    cases h2
    exact ⟨b, h1, p⟩
  · obtain ⟨b, e3, p⟩ := q
    exact ⟨_, _, by rw [e3]; rfl, p⟩
theorem wp_someL {b : List D} {Q : List D → Prop} : (∃ c, some b = some c ∧ Q c) ↔ Q b := ⟨fun ⟨a, e, q⟩ => by cases e; exact q, fun q => ⟨b, rfl, q⟩⟩
end
/-! ## bounds in bits -/
def Bd (k : Nat) (i : Int) : Prop := i.natAbs < 2 ^ k
theorem bd_mul {a b : Nat} {i j : Int} (h : Bd a i) (g : Bd b j) : Bd (a + b) (i * j) := by
  unfold Bd at *
  rw [Int.natAbs_mul, Nat.pow_add]
  exact Nat.mul_lt_mul'' h g
theorem bd_mono {a b : Nat} {i : Int} (h : Bd a i) (g : a ≤ b) : Bd b i := Nat.lt_of_lt_of_le h (Nat.pow_le_pow_right (by decide) g)
theorem bd_add {a b : Nat} {i j : Int} (h : Bd a i) (g : Bd b j) : Bd (a + b + 1) (i + j) := by
  have h := bd_mono h (Nat.le_add_right a b)
  have g := bd_mono g (Nat.le_add_left b a)
  unfold Bd at *
  rw [Nat.pow_succ]
  have := Int.natAbs_add_le i j
  omega
theorem bd_sub {a b : Nat} {i j : Int} (h : Bd a i) (g : Bd b j) : Bd (a + b + 1) (i - j) := by
  rw [Int.sub_eq_add_neg]
  refine bd_add h ?_
  unfold Bd
  rw [Int.natAbs_neg]
  exact g
theorem bd_div {a : Nat} {i j : Int} (h : Bd a i) (g : 0 < j) : Bd (a + 1) (i / j) := by
  unfold Bd at *
  rw [Nat.pow_succ]
  have h1 : i / j ≤ i.natAbs := by
    have : i / j ≤ (i.natAbs : Int) / j := Int.ediv_le_ediv g (by omega)
    have := Int.ediv_le_self j (show (0 : Int) ≤ i.natAbs by omega)
    omega
  have h2 : -(i.natAbs : Int) - 1 ≤ i / j := by
    have h3 : (-(i.natAbs : Int)) / j ≤ i / j := Int.ediv_le_ediv g (by omega)
    have h4 : -(i.natAbs : Int) - 1 ≤ (-(i.natAbs : Int)) / j := by
      apply Int.le_ediv_of_mul_le g
      have : (0 : Int) ≤ i.natAbs := by omega
      have : (i.natAbs : Int) * 1 ≤ (i.natAbs : Int) * j := Int.mul_le_mul_of_nonneg_left (by omega) this
      rw [Int.sub_mul, Int.neg_mul]
      omega
    omega
  omega
theorem small_bd {a : Nat} {i : Int} (h : Bd a i) (g : a ≤ 400000) (g0 : 0 < a) : smallI i = true := by
  unfold smallI
  refine decide_eq_true ?_
  by_cases e : i.natAbs = 0
  · rw [e]; decide
  · exact Nat.lt_of_lt_of_le ((Nat.log2_lt e).mpr h) g
theorem lg_bd {a : Nat} {i : Int} (h : Bd a i) (g : a ≤ 9000) : lgI i := by
  unfold lgI
  by_cases e : i.natAbs = 0
  · rw [e]; decide
  · exact Nat.lt_of_lt_of_le ((Nat.log2_lt e).mpr h) g
end DL

namespace DL
open PySem PySem.Spec PyProof.Rows L2
section
variable {α β : Type} {env : DEnv} {S S1 : Sto} {f1 f2 : FS} {t u : FT} {f fa fb fc fo fe fv fk fx : FE} {fas : FA} {P : D → Sto → Prop} {PA : List D → Sto → Prop} {PT : Bool → Sto → Prop} {PS : Fl → Sto → Prop} {PG : DEnv → Sto → Prop}
theorem wp_sFld {c x : Str} : R (sFldD c x fo fv env S) PS ↔ R (fv env S) fun v S1 => R (fo env S1) fun d S2 => ∃ i, d = .ref i ∧ ∃ c' fs ds, S2[i]? = some (.ins c' fs ds) ∧ (c' = c ∧ fs.length < 900) ∧ PS (.nx env) (S2.set i (.ins c (putN fs x) (putD fs ds x v))) := by
  unfold sFldD
  simp only [R_bind]
  refine ⟨fun ⟨v, S1, e, d, S2, e2, q⟩ => ⟨v, S1, e, d, S2, e2, ?_⟩, fun ⟨v, S1, e, d, S2, e2, q⟩ => ⟨v, S1, e, d, S2, e2, ?_⟩⟩
  · cases d with
    | ref i =>
      dsimp only at q
      split at q
      · rename_i c' fs ds hc
        rw [R_cond] at q
        exact ⟨i, rfl, c', fs, ds, hc, q.1, q.2⟩
      · exact (R_none.mp q).elim
    | _ => exact (R_none.mp q).elim
  · obtain ⟨i, rfl, c', fs, ds, h1, h2, h3⟩ := q
    dsimp only
    rw [h1]
    exact R_cond.mpr ⟨h2, h3⟩
theorem wp_last {c0 : Str} {f0 : List Str} {d0 : List D} {Q : Nat → Str → List Str → List D → Prop} : (∃ i, D.ref S.length = .ref i ∧ ∃ c' fs ds, (S ++ [Cell.ins c0 f0 d0])[i]? = some (.ins c' fs ds) ∧ Q i c' fs ds) ↔ Q S.length c0 f0 d0 := by
  have h : (S ++ [Cell.ins c0 f0 d0])[S.length]? = some (.ins c0 f0 d0) := by simp
  refine ⟨fun ⟨i, e, c', fs, ds, h1, q⟩ => ?_, fun q => ⟨_, rfl, _, _, _, h, q⟩⟩
  cases e
  rw [h] at h1
  cases h1
  exact q
theorem wp_KIx {tab : List (Str × Int)} : R (fKIx tab f env S) P ↔ R (f env S) fun d S1 => ∃ s, d = .str s ∧ ∃ v, tab.lookup s = some v ∧ P (.int v) S1 := by
  unfold fKIx
  simp only [R_bind]
  refine ⟨fun ⟨d, S1, e, q⟩ => ⟨d, S1, e, ?_⟩, fun ⟨d, S1, e, q⟩ => ⟨d, S1, e, ?_⟩⟩
  · cases d with
    | str s =>
      obtain ⟨a, S3, e3, p⟩ := q
      obtain ⟨b, h1, h2⟩ := map_some e3
      cases h2
      exact ⟨s, rfl, b, h1, p⟩
    | _ => exact (R_none.mp q).elim
  · obtain ⟨s, rfl, v, h1, p⟩ := q
    exact ⟨_, _, by show ((tab.lookup s).map _) = _; rw [h1]; rfl, p⟩
theorem wp_someX {b : α} {Q : α → Prop} : (∃ c, some b = some c ∧ Q c) ↔ Q b := ⟨fun ⟨a, e, q⟩ => by cases e; exact q, fun q => ⟨b, rfl, q⟩⟩
theorem wp_lk {o : Option Int} {v : Int} {Q : Int → Prop} (h : o = some v) : (∃ u, o = some u ∧ Q u) ↔ Q v := by
  rw [h]
  exact ⟨fun ⟨u, e, z⟩ => by cases e; exact z, fun z => ⟨v, rfl, z⟩⟩
theorem wp_inT {neg : Bool} {k : Str} {ds : List D} : R (gInB neg (.str k) (.tup ds) S) P ↔ ds.all flatD = true ∧ P (.bl (if neg then !ds.any (fun z => eqF z (.str k)) else ds.any (fun z => eqF z (.str k)))) S := by
  show R (if flatD (.str k) = true ∧ ds.all flatD = true then _ else _) P ↔ _
  rw [R_cond]
  exact ⟨fun ⟨⟨_, h⟩, q⟩ => ⟨h, q⟩, fun ⟨h, q⟩ => ⟨⟨rfl, h⟩, q⟩⟩
theorem wp_inL {neg : Bool} {k : Str} {ds : List D} : R (gInB neg (.str k) (.lst ds) S) P ↔ ds.all flatD = true ∧ P (.bl (if neg then !ds.any (fun z => eqF z (.str k)) else ds.any (fun z => eqF z (.str k)))) S := by
  show R (if flatD (.str k) = true ∧ ds.all flatD = true then _ else _) P ↔ _
  rw [R_cond]
  exact ⟨fun ⟨⟨_, h⟩, q⟩ => ⟨h, q⟩, fun ⟨h, q⟩ => ⟨⟨rfl, h⟩, q⟩⟩
theorem wp_inS {neg : Bool} {k y : Str} : R (gInB neg (.str k) (.str y) S) P ↔ P (.bl (if neg then !(!(Builtin.Str.occurrences y k 0 y.length 1).isEmpty) else !(Builtin.Str.occurrences y k 0 y.length 1).isEmpty)) S := by
  cases neg <;> exact R_some
theorem eqF_str {a b : Str} : eqF (.str a) (.str b) = decide (a = b) := by
  by_cases h : a = b
  · subst h; simp [eqF]
  · simp [eqF, h]
theorem flat_str {a : Str} : flatD (.str a) = true := rfl
theorem flat_int {a : Int} : flatD (.int a) = true := rfl
theorem flat_non : flatD .non = true := rfl
theorem R_eq {o : Option (α × Sto)} {a : α} : (R o fun x S' => x = a ∧ S' = S) ↔ o = some (a, S) := ⟨R.eq, fun h => ⟨a, S, h, rfl, rfl⟩⟩
theorem eq_R {o : Option (α × Sto)} {a : α} {P : α → Sto → Prop} (h : o = some (a, S)) : R o P ↔ P a S := by rw [h]; exact R_some
theorem wp_ixR {k : Nat} {i : Int} {ds : List D} (h : S[k]? = some (.lst ds)) : R (gIx (.ref k) (.int i) S) P ↔ ∃ d, L2.atI ds i = some d ∧ P d S := by
  unfold gIx
  simp only [h]
  rw [R]
  refine ⟨fun ⟨a, S', e, p⟩ => ?_, fun ⟨d, e, p⟩ => ⟨d, S, by rw [e]; rfl, p⟩⟩
  obtain ⟨d, h1, h2⟩ := map_some e
  cases h2
  exact ⟨_, h1, p⟩
theorem wp_ixL {i : Int} {ds : List D} : R (gIx (.lst ds) (.int i) S) P ↔ ∃ d, L2.atI ds i = some d ∧ P d S := by
  rw [R]
  refine ⟨fun ⟨a, S', e, p⟩ => ?_, fun ⟨d, e, p⟩ => ⟨d, S, by show (L2.atI ds i).map _ = _; rw [e]; rfl, p⟩⟩
  obtain ⟨d, h1, h2⟩ := map_some (show (L2.atI ds i).map _ = _ from e)
  cases h2
  exact ⟨_, h1, p⟩
theorem wp_ixT {i : Int} {ds : List D} : R (gIx (.tup ds) (.int i) S) P ↔ ∃ d, L2.atI ds i = some d ∧ P d S := by
  rw [R]
  refine ⟨fun ⟨a, S', e, p⟩ => ?_, fun ⟨d, e, p⟩ => ⟨d, S, by show (L2.atI ds i).map _ = _; rw [e]; rfl, p⟩⟩
  obtain ⟨d, h1, h2⟩ := map_some (show (L2.atI ds i).map _ = _ from e)
  cases h2
  exact ⟨_, h1, p⟩
theorem wp_ixC {i : Int} {ns : List Int} : R (gIx (.scr ns) (.int i) S) P ↔ ∃ d, L2.atI ns i = some d ∧ P (.int d) S := by
  rw [R]
  refine ⟨fun ⟨a, S', e, p⟩ => ?_, fun ⟨d, e, p⟩ => ⟨.int d, S, by show (L2.atI ns i).map _ = _; rw [e]; rfl, p⟩⟩
  obtain ⟨d, h1, h2⟩ := map_some (show (L2.atI ns i).map _ = _ from e)
  cases h2
  exact ⟨_, h1, p⟩
theorem wp_setR {k : Nat} {i : Int} {v : D} {ds : List D} {Q : Sto → Prop} (h : S[k]? = some (.lst ds)) : RU (gSetA (.ref k) (.int i) v S) Q ↔ ∃ j, ixN ds.length i = some j ∧ Q (S.set k (.lst (ds.set j v))) := by
  unfold gSetA
  simp only [h]
  rw [RU]
  refine ⟨fun ⟨a, e, p⟩ => ?_, fun ⟨d, e, p⟩ => ⟨_, by rw [e]; rfl, p⟩⟩
  obtain ⟨d, h1, h2⟩ := map_some e
  cases h2
  exact ⟨_, h1, p⟩
theorem atI0 {α : Type} {a : α} {r : List α} : L2.atI (a :: r) 0 = some a := by
  unfold L2.atI ixN
  rw [if_pos (by decide), if_pos (by rw [List.length_cons]; omega)]
  rfl
theorem atI1 {α : Type} {a b : α} {r : List α} : L2.atI (a :: b :: r) 1 = some b := by
  unfold L2.atI ixN
  rw [if_pos (by decide), if_pos (by rw [List.length_cons, List.length_cons]; omega)]
  rfl
theorem atI2 {α : Type} {a b c : α} {r : List α} : L2.atI (a :: b :: c :: r) 2 = some c := by
  unfold L2.atI ixN
  rw [if_pos (by decide), if_pos (by rw [List.length_cons, List.length_cons, List.length_cons]; omega)]
  rfl
theorem ixN0 {n : Nat} : ixN (n + 1) 0 = some 0 := by
  unfold ixN
  rw [if_pos (by decide), if_pos (by omega)]
  rfl
theorem ixN1 {n : Nat} : ixN (n + 1 + 1) 1 = some 1 := by
  unfold ixN
  rw [if_pos (by decide), if_pos (by omega)]
  rfl
theorem atI_in {α : Type} {xs : List α} {i : Int} (h0 : 0 ≤ i) (h1 : i < xs.length) : ∃ x, L2.atI xs i = some x ∧ x ∈ xs := by
  refine ⟨xs[i.toNat]'(by omega), ?_, List.getElem_mem _⟩
  unfold L2.atI ixN
  rw [if_pos h0, if_pos h1]
  exact List.getElem?_eq_getElem _
/-! comprehensions -/
theorem wp_Lc {fi : FA} {g : FG} {vs : List Nat} : R (fLc fi g t f vs env S) P ↔ R (fi env S) fun xs S1 => xs.length ≤ 1000000 ∧ R (lcD g t f (wipeD env vs) xs S1) fun ds S2 => P (.lst ds) S2 := by
  unfold fLc
  simp only [R_bind]
  refine ⟨fun ⟨x, S1, e, q⟩ => ⟨x, S1, e, ?_⟩, fun ⟨x, S1, e, q⟩ => ⟨x, S1, e, ?_⟩⟩
  · dsimp only at q
    split at q
    · rename_i h
      rw [R_bind] at q
      simp only [R_some] at q
      exact ⟨h, q⟩
    · exact (R_none.mp q).elim
  · obtain ⟨h, q⟩ := q
    rw [if_pos h, R_bind]
    simp only [R_some]
    exact q
theorem wp_lc0 {g : FG} : R (lcD g t f env [] S) PA ↔ PA [] S := R_some
theorem wp_lcS {g : FG} {x : D} {xs : List D} : R (lcD g t f env (x :: xs) S) PA ↔ R (g x env S) fun e S1 => R (t e S1) fun b S2 => if b = true then R (f e S2) fun y S3 => R (lcD g t f env xs S3) fun ds S4 => PA (y :: ds) S4 else R (lcD g t f env xs S2) PA := by
  show R ((g x env S).bind _) PA ↔ _
  simp only [R_bind, R_ite, R_some]
theorem wp_Yes : R (tYesD env S) PT ↔ PT true S := R_some
theorem r_lcD {g : FG} (Q : D → Prop) (I : Sto → Prop) : ∀ {items : List D} {S : Sto}, (∀ x ∈ items, ∀ S, I S → R (g x env S) fun e S1 => R (t e S1) fun b S2 => if b = true then R (f e S2) fun y S3 => Q y ∧ I S3 else I S2) → I S →
    R (lcD g t f env items S) fun ds S' => (∀ d ∈ ds, Q d) ∧ I S'
  | [], S, _, h => R_some.mpr ⟨fun d hd => (by cases hd), h⟩
  | x :: xs, S, hs, h => by
    rw [wp_lcS]
    refine (hs x (by simp) S h).imp fun e S1 h1 => h1.imp fun b S2 h2 => ?_
    cases b with
    | true =>
      refine R.imp h2 fun y S3 h3 => ?_
      refine (r_lcD Q I (fun z hz => hs z (by simp [hz])) h3.2).imp fun ds S4 h4 => ⟨fun d hd => ?_, h4.2⟩
      rcases List.mem_cons.mp hd with rfl | hd
      · exact h3.1
      · exact h4.1 d hd
    | false => exact r_lcD Q I (fun z hz => hs z (by simp [hz])) h2
theorem bools_true : ∀ {ds : List D}, (∀ d ∈ ds, d = .bl true) → ∃ bs, asBools ds = some bs ∧ bs.all id = true
  | [], _ => ⟨[], rfl, rfl⟩
  | d :: ds, h => by
    obtain ⟨bs, h1, h2⟩ := bools_true (ds := ds) fun z hz => h z (by simp [hz])
    have := h d (by simp)
    subst this
    exact ⟨true :: bs, by show (asBools ds).map _ = _; rw [h1]; rfl, by simpa using h2⟩
theorem all_true {ds : List D} (h : ∀ d ∈ ds, d = .bl true) : cAll [.lst ds] S = some (.bl true, S) := by
  obtain ⟨bs, h1, h2⟩ := bools_true h
  show (asBools ds).map _ = _
  rw [h1, ← h2]
  rfl
theorem mem_range {a b : Int} {d : D} (h : d ∈ rangeD a b) : ∃ i, d = .int i ∧ a ≤ i ∧ i < b := by
  unfold rangeD at h
  obtain ⟨k, hk, rfl⟩ := List.mem_map.mp h
  have := List.mem_range.mp hk
  exact ⟨_, rfl, by omega, by omega⟩
theorem len_range {a b : Int} : (rangeD a b).length = (b - a).toNat := by simp [rangeD]
theorem okR_of {i : Int} (h : -1000000000000 ≤ i) (h2 : i ≤ 1000000000000) : okR i = true := by
  unfold okR
  rw [decide_eq_true (by omega), decide_eq_true (by omega)]
  rfl
/-- the other cells are as they were -/
def Apart (S S' : Sto) (i : Nat) : Prop := S'.length = S.length ∧ ∀ j, j ≠ i → S'[j]? = S[j]?
theorem Apart.refl (S : Sto) (i : Nat) : Apart S S i := ⟨rfl, fun _ _ => rfl⟩
theorem Apart.trans {S S1 S2 : Sto} {i : Nat} (a : Apart S S1 i) (b : Apart S1 S2 i) : Apart S S2 i := ⟨b.1.trans a.1, fun j h => (b.2 j h).trans (a.2 j h)⟩
theorem Apart.set (S : Sto) (i : Nat) (c : Cell) : Apart S (S.set i c) i := ⟨by simp, fun j h => by rw [List.getElem?_set_ne (fun e => h e.symm)]⟩
theorem set_at {S : Sto} {i : Nat} {c c' : Cell} (h : S[i]? = some c) : (S.set i c')[i]? = some c' := List.getElem?_set_self (List.getElem?_eq_some_iff.mp h).1
theorem wp_pow10_9 : R (gI (fun i j => decide (0 ≤ j) && decide (j ≤ 1000000) && decide (i.natAbs < 18446744073709551616)) (fun i j => .int (i ^ j.toNat)) (.int 10) (.int 9) S) P ↔ P (.int 1000000000) S := R_some
theorem wp_pow10_18 : R (gI (fun i j => decide (0 ≤ j) && decide (j ≤ 1000000) && decide (i.natAbs < 18446744073709551616)) (fun i j => .int (i ^ j.toNat)) (.int 10) (.int 18) S) P ↔ P (.int 1000000000000000000) S := R_some
theorem wp_pow10_40 : R (gI (fun i j => decide (0 ≤ j) && decide (j ≤ 1000000) && decide (i.natAbs < 18446744073709551616)) (fun i j => .int (i ^ j.toNat)) (.int 10) (.int 40) S) P ↔ P (.int 10000000000000000000000000000000000000000) S := R_some
theorem wp_Sl {lo hi : FO} : R (fSl fa lo hi env S) P ↔ R (fa env S) fun x S1 => R (lo env S1) fun i S2 => R (hi env S2) fun j S3 => R (gSl x i j S3) P := by unfold fSl; simp only [R_bind]
theorem wp_oNone {Q : Option Int → Sto → Prop} : R (oNone env S) Q ↔ Q none S := R_some
theorem wp_oSome {Q : Option Int → Sto → Prop} : R (oSome f env S) Q ↔ R (f env S) fun d S1 => WI d fun i => Q (some i) S1 := by
  unfold oSome
  simp only [R_bind]
  refine ⟨fun ⟨d, S1, e, q⟩ => ⟨d, S1, e, ?_⟩, fun ⟨d, S1, e, q⟩ => ⟨d, S1, e, ?_⟩⟩
  · cases d <;> first | exact (R_none.mp q).elim | exact R_some.mp q
  · cases d <;> first | exact q.elim | exact R_some.mpr q
theorem wp_slC {ns : List Int} {lo hi : Option Int} : R (gSl (.scr ns) lo hi S) P ↔ P (.lst ((cutD ns lo hi).map .int)) S := R_some
theorem wp_slL {ds : List D} {lo hi : Option Int} : R (gSl (.lst ds) lo hi S) P ↔ P (.lst (cutD ds lo hi)) S := R_some
theorem wp_slS {x : Str} {lo hi : Option Int} : R (gSl (.str x) lo hi S) P ↔ x.length ≤ 16777216 ∧ P (.str (cutS x lo hi)) S := R_cond
theorem map_inj_nat : ∀ {a b : List Char}, a.map Char.toNat = b.map Char.toNat → a = b
  | [], [], _ => rfl
  | [], _ :: _, h => by cases h
  | _ :: _, [], h => by cases h
  | x :: a, y :: b, h => by
    simp only [List.map_cons, List.cons.injEq] at h
    rw [map_inj_nat h.2, Char.ext (UInt32.toNat_inj.mp h.1)]
theorem str_eq {a b : String} : (Str.ofString a = Str.ofString b) ↔ a = b := by
  refine ⟨fun h => ?_, fun h => by rw [h]⟩
  rw [Str.ofString_eq_toList, Str.ofString_eq_toList] at h
  have h1 : (a.toList.map Char.toNat).toArray.toList = (b.toList.map Char.toNat).toArray.toList := congrArg (fun z : Str => z.cps.toList) h
  exact String.toList_inj.mp (map_inj_nat h1)
theorem in_ring_crowd : R (gInB false (.str "ring") (.str "crowd") S) P ↔ P (.bl false) S := by
  rw [wp_inS, show (Builtin.Str.occurrences ("crowd" : Str) "ring" 0 ("crowd" : Str).length 1).isEmpty = true by decide +kernel]
  exact Iff.rfl
theorem in_ring_star : R (gInB false (.str "ring") (.str "star") S) P ↔ P (.bl false) S := by
  rw [wp_inS, show (Builtin.Str.occurrences ("star" : Str) "ring" 0 ("star" : Str).length 1).isEmpty = true by decide +kernel]
  exact Iff.rfl
theorem in_ring_pairs : R (gInB false (.str "ring") (.str "pairs") S) P ↔ P (.bl false) S := by
  rw [wp_inS, show (Builtin.Str.occurrences ("pairs" : Str) "ring" 0 ("pairs" : Str).length 1).isEmpty = true by decide +kernel]
  exact Iff.rfl
theorem in_ring_row : R (gInB false (.str "ring") (.str "row") S) P ↔ P (.bl false) S := by
  rw [wp_inS, show (Builtin.Str.occurrences ("row" : Str) "ring" 0 ("row" : Str).length 1).isEmpty = true by decide +kernel]
  exact Iff.rfl
theorem in_ring_ring : R (gInB false (.str "ring") (.str "ring") S) P ↔ P (.bl true) S := by
  rw [wp_inS, show (Builtin.Str.occurrences ("ring" : Str) "ring" 0 ("ring" : Str).length 1).isEmpty = false by decide +kernel]
  exact Iff.rfl
theorem in_ring_core : R (gInB false (.str "ring") (.str "core") S) P ↔ P (.bl false) S := by
  rw [wp_inS, show (Builtin.Str.occurrences ("core" : Str) "ring" 0 ("core" : Str).length 1).isEmpty = true by decide +kernel]
  exact Iff.rfl
theorem in_ring_linked : R (gInB false (.str "ring") (.str "linked") S) P ↔ P (.bl false) S := by
  rw [wp_inS, show (Builtin.Str.occurrences ("linked" : Str) "ring" 0 ("linked" : Str).length 1).isEmpty = true by decide +kernel]
  exact Iff.rfl
theorem in_ring_odd_ring : R (gInB false (.str "ring") (.str "odd ring") S) P ↔ P (.bl true) S := by
  rw [wp_inS, show (Builtin.Str.occurrences ("odd ring" : Str) "ring" 0 ("odd ring" : Str).length 1).isEmpty = false by decide +kernel]
  exact Iff.rfl
theorem in_ring_even_ring : R (gInB false (.str "ring") (.str "even ring") S) P ↔ P (.bl true) S := by
  rw [wp_inS, show (Builtin.Str.occurrences ("even ring" : Str) "ring" 0 ("even ring" : Str).length 1).isEmpty = false by decide +kernel]
  exact Iff.rfl
end
end DL

namespace DL
open PySem PySem.Spec PyProof.Rows L2
/-! ## calls by name -/
section
variable {K : PySem.W.Frag} {ct : CT} {m : List Addr} {F : Hp}
theorem Reps.kwG {idx : List Nat} {ds es : List D} {vs us : List V} (h : Reps K ct m F ds vs) (g : Reps K ct m F es us) : Reps K ct m F (kwG idx ds es) (kwG idx vs us) := by
  refine h.append ?_
  induction idx with
  | nil => exact rfl
  | cons i r ih =>
    by_cases hi : i < es.length
    · obtain ⟨v, h1, h2⟩ := g.get (List.getElem?_eq_getElem hi)
      rw [List.filterMap_cons_some (b := es[i]) (List.getElem?_eq_getElem hi), List.filterMap_cons_some h1]
      exact ⟨_, _, rfl, h2, ih⟩
    · rw [List.filterMap_cons_none (List.getElem?_eq_none (by omega)), List.filterMap_cons_none (List.getElem?_eq_none (by rw [← g.length]; omega))]
      exact ih
theorem kwG_vals {idx : List Nat} {vs zs : List V} {us ws : List Value} (h : Vals vs us) (g : Vals zs ws) : Vals (kwG idx vs zs) (kwG idx us ws) := by
  refine h.append ?_
  induction idx with
  | nil => exact .nil
  | cons i r ih =>
    have key : ∀ {zs : List V} {ws : List Value} {i : Nat}, Vals zs ws → (∃ z w, zs[i]? = some z ∧ ws[i]? = some w ∧ RelV z w) ∨ (zs[i]? = none ∧ ws[i]? = none) := by
      intro zs ws i g
      induction g generalizing i with
      | nil => exact .inr ⟨rfl, rfl⟩
      | cons a _ ih =>
        cases i with
        | zero => exact .inl ⟨_, _, rfl, rfl, a⟩
        | succ i => simpa using ih (i := i)
    rcases key (i := i) g with ⟨z, w, h1, h2, h3⟩ | ⟨h1, h2⟩
    · rw [List.filterMap_cons_some h1, List.filterMap_cons_some h2]
      exact .cons h3 ih
    · rw [List.filterMap_cons_none h1, List.filterMap_cons_none h2]
      exact ih
end
section
variable {ct : CT} {X : Cx} {C : Addr} {c x : Str} {e o : Expr} {fe fo : FE} {fas : FA} {kws : List Keyword} {pos apos p : Pos} {k n : Nat} {g : FD} {kwb : KWB} {ks : List Str} {idx : List Nat}
def SK (ct : CT) (X : Cx) (kws : List Keyword) (f : FA) : Prop := ∃ t, PK X kws t ∧ ∀ m F S σ H env ds S' Q, Sim X.K ct m F S H → EnvR X.K ct m F env σ → f env S = some (ds, S') → PostA ct X.K m F H S' ds Q → t σ H Q
theorem sk_nil : SK ct X [] fNil := ⟨_, pk_nil, fun m F S σ H env d S' Q s en h p => by
  cases h
  exact p m F [] H (Ext.refl _ _ _) s rfl⟩
theorem sk_cons {nm : Option Str} {kpos : Pos} (ha : SE ct X e fe) (hr : SK ct X kws fas) : SK ct X (⟨nm, e, kpos⟩ :: kws) (fCons fe fas) := by
  obtain ⟨ta, pa, ra⟩ := ha
  obtain ⟨tb, pb, rb⟩ := hr
  refine ⟨_, pk_cons pa pb, fun m F S σ H env d S' Q s en h p => ?_⟩
  obtain ⟨⟨y, S1⟩, h1, h⟩ := bind_some h
  obtain ⟨⟨ys, S2⟩, h2, h⟩ := bind_some h
  cases h
  refine ra m F S σ H env y S1 _ s en h1 fun m1 F1 v1 H1 x1 s1 r1 => ?_
  refine rb m1 F1 S1 σ H1 env ys S2 _ s1 (en.mono x1) h2 fun m2 F2 v2 H2 x2 s2 r2 => ?_
  exact p m2 F2 (v1 :: v2) H2 (x1.trans x2) s2 ⟨v1, v2, rfl, r1.mono x2, r2⟩
def fMethK (c x : Str) (g : FD) (idx : List Nat) (fo : FE) (fks : FA) : FE := fun env S => (fo env S).bind fun p => (insOf c p.1 p.2).bind fun q => if hasF q.1 x = false then (fks env p.2).bind fun r => g (kwG idx [p.1] r.1) r.2 else none
theorem se_methK {pl : Sem Bool} (kc : Klass X.K ct c C) (M : CalleeM X.prog X.w X.K X.mg X.base ct k C x n g kwb) (hmem : (ks, idx) ∈ kwb) (hr : RoomG k X.A) (ho : SE ct X o fo) (ha : SK ct X kws fas) (hn : ∀ env S ds S', fas env S = some (ds, S') → ds.length = ks.length)
    (hlen : ∀ (v : V) (zs : List V), zs.length = ks.length → (kwG idx [v] zs).length = n) (hall : (backToKw pos (keywordEach kws X.env)).all (·.1.isSome) = true := by rfl) (hks : (backToKw pos (keywordEach kws X.env)).filterMap (·.1) = ks := by rfl)
    (hpl : ((backTo pos (starEach [] X.env)).any (·.1) || (backToKw pos (keywordEach kws X.env)).any (·.1.isNone)) = false := by rfl)
    (ht : eval (.Call (.Attribute o x apos) [] kws pos) X.env = (eval o X.env >>= fun ov => standAt apos.atName >>= fun _ => holding [ov] (getMethod ov x pl) >>= fun q =>
      callWith pos q.1 q.2 (backTo pos (starEach [] X.env)) (backToKw pos (keywordEach kws X.env))) := by rfl) : SE ct X (.Call (.Attribute o x apos) [] kws pos) (fMethK c x g idx fo fas) := by
  obtain ⟨f, fd, ps, me, bi, fn⟩ := M
  obtain ⟨ta, pa, ra⟩ := ho
  obtain ⟨tb, pb, rb⟩ := ha
  refine ⟨_, pe_methGK (E := fun _ _ _ => False) pa kc.cls me fn hr (bi.2 _ hmem) pb hall hks hpl ht, fun m F S σ H env d S' Q s en h p => ?_⟩
  obtain ⟨⟨z, S1⟩, h1, h⟩ := bind_some h
  obtain ⟨⟨fs, ds⟩, h2, h⟩ := bind_some h
  dsimp only at h
  split at h
  · rename_i hh
    obtain ⟨⟨xs, S2⟩, h3, h⟩ := bind_some h
    refine ra m F S σ H env z S1 _ s en h1 fun m1 F1 v1 H1 x1 s1 r1 => ?_
    obtain ⟨a, dx, vs, e1, e2, e3, e4⟩ := insOf_rep kc s1 r1 h2
    refine ⟨a, dx, _, e1, e2, hasF_none hh, ?_⟩
    refine rb m1 F1 S1 σ H1 env xs S2 _ s1 (en.mono x1) h3 fun m2 F2 us H2 x2 s2 r2 => ?_
    have hl : us.length = ks.length := by rw [← r2.length, hn _ _ _ _ h3]
    exact ⟨hl, hlen v1 us hl, m2, F2, S2, kwG idx [z] xs, d, S', s2, Reps.kwG (Reps.mk1 (r1.mono x2)) r2, h, p.ext (x1.trans x2)⟩
  · cases h
def fCallK (g : FD) (idx : List Nat) (fks : FA) : FE := fun env S => (fks env S).bind fun r => g (kwG idx [] r.1) r.2
theorem se_fnK (M : Callee X.prog X.w X.K X.mg X.base ct k x n g kwb) (hmem : (ks, idx) ∈ kwb) (hr : RoomG k X.A) (hg : Gl X x) (ha : SK ct X kws fas) (hn : ∀ env S ds S', fas env S = some (ds, S') → ds.length = ks.length)
    (hlen : ∀ zs : List V, zs.length = ks.length → (kwG idx [] zs).length = n) (hall : (backToKw pos (keywordEach kws X.env)).all (·.1.isSome) = true := by rfl) (hks : (backToKw pos (keywordEach kws X.env)).filterMap (·.1) = ks := by rfl) (hdb : (x == ("__debug__" : Str)) = false := by decide)
    (hpl : ((backTo pos (starEach [] X.env)).any (·.1) || (backToKw pos (keywordEach kws X.env)).any (·.1.isNone)) = false := by rfl) : SE ct X (.Call (.Name x p) [] kws pos) (fCallK g idx fas) := by
  obtain ⟨f, fd, ps, h1, h2, bi, fn⟩ := M
  obtain ⟨tb, pb, rb⟩ := ha
  refine ⟨_, pe_callGK (E := fun _ _ _ => False) fn hr hg h1 h2 (bi.2 _ hmem) pb hall hks hdb hpl, fun m F S σ H env d S' Q s en h p => ?_⟩
  obtain ⟨⟨xs, S2⟩, h3, h⟩ := bind_some h
  refine rb m F S σ H env xs S2 _ s en h3 fun m2 F2 us H2 x2 s2 r2 => ?_
  have hl : us.length = ks.length := by rw [← r2.length, hn _ _ _ _ h3]
  exact ⟨hl, hlen us hl, m2, F2, S2, kwG idx [] xs, d, S', s2, Reps.kwG rfl r2, h, p.ext x2⟩
/-! ## repr of data -/
def rRepr (K : PySem.W.Frag) : List V → Hp → VK → Prop := fun xs H Q => ∃ v p, xs = [v] ∧ Dp K H v p ∧ (p.showable = true ∧ p.hasDict = false ∧ p.depth ≤ 50 ∧ p.shown.length ≤ sizeLine) ∧ Q (.str p.shown) H
theorem call_reprG (hr : RoomG k X.A) : CallR X (.builtin "repr") (rRepr X.K) := by
  intro pins s σ H xs us Q I r h
  obtain ⟨v, pd, rfl, hd, ⟨h1, h2, h3, h4⟩, q⟩ := h
  obtain ⟨u, rfl, ru⟩ := vals1 r
  obtain ⟨as, rd⟩ := Dp.reads I pd v u hd ru
  have hu : X.A.units + (pd.depth + 1) < cLine := by
    have := hr.units
    omega
  have main : ∀ a, u = .ref a → wpAny (model X.prog X.w) X.A (call (.builtin "repr") [u]) (EP X pins σ Q) X.xe s := by
    rintro a rfl
    exact repr_of_reads' (h₀ := s.heap) rd h1 (PyData.noDict_hsm h2) hr.gd hu (fun _ _ e => e) (fun h' w tk hk => ⟨.str _, H, I.kept hk, ⟨_, rfl⟩, q⟩) h4
  cases hd with
  | non => obtain rfl : u = .none := ru; exact PySem.P.repr_of_none ⟨.str _, H, I.tok _, ⟨_, rfl⟩, q⟩
  | bl b => obtain rfl : u = .bool b := ru; exact PySem.P.repr_of_bool ⟨.str _, H, I.tok _, ⟨_, rfl⟩, q⟩
  | int i => obtain ⟨t, rfl⟩ := ru; exact PySem.P.repr_of_int (of_decide_eq_true h1) ⟨.str _, H, I.tok _, ⟨_, rfl⟩, q⟩
  | str y => obtain ⟨t, rfl⟩ := ru; exact PySem.P.repr_of_str ⟨.str _, H, I.tok _, ⟨_, rfl⟩, q⟩ h4
  | tup _ _ => exact main _ ru
  | lst _ _ => exact main _ ru
def cRepr : FD
  | [d], S => (toP d).bind fun p => if p.showable = true ∧ p.hasDict = false ∧ p.depth ≤ 50 ∧ p.shown.length ≤ 16777216 then some (.str p.shown, S) else none
  | _, _ => none
theorem cd_repr {K : PySem.W.Frag} : CallD ct K (rRepr K) cRepr := by
  intro m F S H xs ds d S' Q s r h p
  unfold cRepr at h
  split at h
  · rename_i d0
    obtain ⟨pd, h1, h⟩ := bind_some h
    split at h
    · rename_i hc
      cases h
      obtain ⟨v, e1, e2⟩ := reps1 r
      exact ⟨v, pd, e1, Rep.dp s.same d0 v pd e2 h1, ⟨hc.1, hc.2.1, hc.2.2.1, by rw [line_eq]; exact hc.2.2.2⟩, p.now s rfl⟩
    · cases h
  · cases h
/-! steps -/
variable {env : DEnv} {S : Sto} {P : D → Sto → Prop}
theorem wp_MethK {fks : FA} : R (fMethK c x g idx fo fks env S) P ↔ R (fo env S) fun d S1 => (∃ q, insOf c d S1 = some q ∧ hasF q.1 x = false) ∧ R (fks env S1) fun ds S2 => R (g (kwG idx [d] ds) S2) P := by
  unfold fMethK
  simp only [R_bind]
  refine ⟨fun ⟨d, S1, e, q⟩ => ⟨d, S1, e, ?_⟩, fun ⟨d, S1, e, q⟩ => ⟨d, S1, e, ?_⟩⟩
  · obtain ⟨a, S3, e3, p⟩ := q
    obtain ⟨q1, h1, h2⟩ := bind_some e3
    split at h2
    · rename_i hh
      obtain ⟨⟨ds, S4⟩, h3, h4⟩ := bind_some h2
      exact ⟨⟨q1, h1, hh⟩, ds, S4, h3, a, S3, h4, p⟩
    · cases h2
  · obtain ⟨⟨q1, h1, hh⟩, ds, S4, h3, a, S3, h4, p⟩ := q
    refine ⟨a, S3, ?_, p⟩
    rw [h1]
    show (if hasF q1.1 x = false then _ else _) = _
    rw [if_pos hh, h3]
    exact h4
theorem wp_CallK {fks : FA} : R (fCallK g idx fks env S) P ↔ R (fks env S) fun ds S1 => R (g (kwG idx [] ds) S1) P := by unfold fCallK; simp only [R_bind]
theorem kwG_def {α : Type} {vs zs : List α} : kwG idx vs zs = vs ++ idx.filterMap fun i => zs[i]? := rfl
theorem wp_Repr {d : D} : R (cRepr [d] S) P ↔ ∃ p, toP d = some p ∧ (p.showable = true ∧ p.hasDict = false ∧ p.depth ≤ 50 ∧ p.shown.length ≤ 16777216) ∧ P (.str p.shown) S := by
  show R ((toP d).bind _) P ↔ _
  refine ⟨fun ⟨a, S3, e3, p⟩ => ?_, fun ⟨p, e, h, q⟩ => ?_⟩
  · obtain ⟨pd, h1, h2⟩ := bind_some e3
    split at h2
    · rename_i hc
      cases h2
      exact ⟨pd, h1, hc, p⟩
    · cases h2
  · rw [e]
    exact R_cond.mpr ⟨h, q⟩
end
end DL

namespace DL
open PySem PySem.Spec PyProof.Rows L2
section
variable {ct : CT} {X : Cx} {a b e : Expr} {fa fb f : FE} {fas : FA} {env : DEnv} {S : Sto} {P : D → Sto → Prop}
/-! ## a display of a dict that stays as it is; d[k] -/
def fDispF (ks : List Str) (fas : FA) : FE := fun env S => (fas env S).bind fun p => if ks.length ≤ 15 ∧ ks.Nodup ∧ p.1.length = ks.length then some (.dct (ks.map Sum.inr) p.1, p.2) else none
theorem se_dispF {pos : Pos} {keys : List (Option Expr)} {values : List Expr} {ks : List Str} (h : SDs ct X pos keys values ks fas) (hall : keys.all (·.isSome) = true) (hl : keys.length = values.length) (h0 : keys ≠ []) (h16 : keys.length ≤ 15 := by decide) : SE ct X (.Dict keys values pos) (fDispF ks fas) := by
  obtain ⟨trs, pp, rp⟩ := h
  refine ⟨_, pe_disp pp hall hl h0 h16, fun m F S σ H env d S' Q s en h p => ?_⟩
  obtain ⟨⟨xs, S1⟩, h1, h⟩ := bind_some h
  split at h
  case isFalse => cases h
  rename_i hk
  cases h
  intro q hq
  have nq : q ∉ m := fun hm => by
    obtain ⟨o, z⟩ := s.there hm
    rw [hq] at z; cases z
  have fq : F q = none := by
    cases z : F q with
    | none => rfl
    | some o => rw [s.same _ _ z] at hq; cases hq
  refine rp m F S σ (upd H q (.dK [])) env xs S1 _ (s.hidden nq fq _) en h1 fun m1 F1 vs H1 x1 s1 r1 hlen => ?_
  obtain ⟨hH, nq1, fq1⟩ := x1.hid upd_same nq fq
  have x0 : Ext m F H m1 F1 H1 := ((Ext.refl m F H).put hq (.dK [])).trans x1
  refine ⟨hH, (ks.map Sum.inr).zip vs, ?_, by simp [← r1.length, hlen, hk.1], ?_⟩
  · exact zip_kV ks vs
  · have hn : (((ks.map Sum.inr : List Key).zip vs).map (·.1)).Nodup := by
      rw [List.map_fst_zip (by simp [← r1.length, hlen])]
      exact nodup_inr hk.2.1
    rw [merge_nodup _ [] hn (fun _ _ => rfl), List.nil_append]
    exact p m1 (upd F1 q (.dK ((ks.map Sum.inr).zip vs))) (.ref q) _ ((x0.put hq _).freeze hq fq1 _) ((s1.hidden nq1 fq1 _).freeze nq1 fq1 upd_same)
      ⟨q, vs, rfl, upd_same, by rw [List.length_map, ← r1.length]; exact hk.2.2.symm, Reps.mono' (fun _ _ z => z) (same_upd fq1 _) _ _ r1⟩
def fDIx (fa fb : FE) : FE := fun env S => (fa env S).bind fun p => (fb env p.2).bind fun q => (kvsOf p.1 q.2).bind fun kvs => (toKey q.1).bind fun key => (valA kvs key).map fun d => (d, q.2)
theorem se_dix {pos : Pos} {n : Nat} (hr : RoomG n X.A) (ha : SE ct X a fa) (hb : SE ct X b fb) (hs : NoSl b) : SE ct X (.Subscript a b pos) (fDIx fa fb) := by
  obtain ⟨ta, pa, ra⟩ := ha
  obtain ⟨tb, pb, rb⟩ := hb
  refine ⟨_, pe_dget (hu_of hr.room) pa pb hs, fun m F S σ H env d S' Q s en h p => ?_⟩
  obtain ⟨⟨z, S1⟩, h1, h⟩ := bind_some h
  obtain ⟨⟨y, S2⟩, h2, h⟩ := bind_some h
  obtain ⟨kvs, h4, h⟩ := bind_some h
  obtain ⟨key, h5, h⟩ := bind_some h
  obtain ⟨dv, hv, h6⟩ := map_some h
  cases h6
  refine ra m F S σ H env z S1 _ s en h1 fun m1 F1 v1 H1 x1 s1 r1 => ?_
  refine rb m1 F1 S1 σ H1 env y S2 _ s1 (en.mono x1) h2 fun m2 F2 v2 H2 x2 s2 r2 => ?_
  obtain ⟨w, us, e1, e2, pr⟩ := kvs_at s2 (r1.mono x2) h4
  have ek := r2.key h5
  subst ek
  obtain ⟨v, q1, q2⟩ := (PR.val pr key).1 _ hv
  have g := DGet.k (k := key) e2
  rw [q1] at g
  exact ⟨w, v, e1, g, ((p.ext x1).ext x2).now s2 q2⟩
theorem wp_DispF {ks : List Str} : R (fDispF ks fas env S) P ↔ R (fas env S) fun ds S1 => (ks.length ≤ 15 ∧ ks.Nodup ∧ ds.length = ks.length) ∧ P (.dct (ks.map Sum.inr) ds) S1 := by unfold fDispF; simp only [R_bind, R_cond]
theorem wp_DIx : R (fDIx fa fb env S) P ↔ R (fa env S) fun x S1 => R (fb env S1) fun y S2 => ∃ kvs, kvsOf x S2 = some kvs ∧ ∃ key, toKey y = some key ∧ ∃ d, valA kvs key = some d ∧ P d S2 := by
  unfold fDIx
  simp only [R_bind]
  refine ⟨fun ⟨x, S1, e, y, S2, e2, q⟩ => ⟨x, S1, e, y, S2, e2, ?_⟩, fun ⟨x, S1, e, y, S2, e2, q⟩ => ⟨x, S1, e, y, S2, e2, ?_⟩⟩
  · obtain ⟨d, S3, e3, p⟩ := q
    obtain ⟨kvs, h1, h⟩ := bind_some e3
    obtain ⟨key, h2, h⟩ := bind_some h
    obtain ⟨dv, h3, h4⟩ := map_some h
    cases h4
    exact ⟨kvs, h1, key, h2, _, h3, p⟩
  · obtain ⟨kvs, h1, key, h2, d, h3, p⟩ := q
    exact ⟨d, S2, by rw [h1]; show ((toKey y).bind _) = _; rw [h2]; show ((valA kvs key).map _) = _; rw [h3]; rfl, p⟩
end
end DL

namespace DL
open PySem PySem.Spec PyProof.Rows L2
/-! ## what was made within a def is dropped at its end; a list that it returns stays as it is -/
def frzD (g : FD) : FD := fun ds S => (g ds S).bind fun p => if S.length ≤ p.2.length ∧ (p.2.take S.length).all cellFree = true then (match p.1 with
  | .ref k => if S.length ≤ k then (match p.2[k]? with
    | some (.lst es) => if noRefs es = true then some (.lst es, p.2.take S.length) else none
    | _ => none) else none
  | d => if noRef d = true then some (d, p.2.take S.length) else none) else none
theorem frz_told {g : FD} : ∀ ds S r', frzD g ds S = some r' → ∃ r, g ds S = some r ∧ Told S r r' := by
  intro ds S r' h
  obtain ⟨⟨d, S1⟩, h1, h⟩ := bind_some h
  dsimp only at h
  split at h
  case isFalse => cases h
  rename_i hc
  refine ⟨_, h1, ?_⟩
  have hl : (S1.take S.length).length = S.length := by rw [List.length_take]; omega
  have ho : Old S (S1.take S.length) := ⟨hl, fun i c hi => .inr (List.all_eq_true.mp hc.2 c (List.mem_of_getElem? hi))⟩
  have e : S1 = S1.take S.length ++ S1.drop S.length := (List.take_append_drop _ _).symm
  split at h
  · rename_i k
    split at h
    case isFalse => cases h
    rename_i hk
    split at h
    · rename_i es hes
      split at h
      case isFalse => cases h
      rename_i hn
      cases h
      have t := Told.frzL (S := S) (S1 := S1.take S.length) (more := S1.drop S.length) (i := k - S.length) hn ho (by rw [List.getElem?_drop, show S.length + (k - S.length) = k by omega]; exact hes)
      rw [hl, show S.length + (k - S.length) = k by omega, ← e] at t
      exact t
    · cases h
  · split at h
    case isFalse => cases h
    rename_i hn
    cases h
    have t := Told.drop (S := S) (S1 := S1.take S.length) (more := S1.drop S.length) hn ho
    rw [← e] at t
    exact t
section
variable {g : FD} {ds : List D} {S : Sto} {P : D → Sto → Prop}
theorem wp_frzL (h : R (g ds S) fun d S' => S.length ≤ S'.length ∧ (∀ c ∈ S'.take S.length, cellFree c = true) ∧ ∃ k es, d = .ref k ∧ S.length ≤ k ∧ S'[k]? = some (.lst es) ∧ noRefs es = true ∧ P (.lst es) (S'.take S.length)) : R (frzD g ds S) P := by
  obtain ⟨d, S', e, h1, h2, k, es, rfl, h3, h4, h5, h6⟩ := h
  refine ⟨.lst es, S'.take S.length, ?_, h6⟩
  unfold frzD
  rw [e]
  show (if S.length ≤ S'.length ∧ (S'.take S.length).all cellFree = true then _ else none) = _
  rw [if_pos ⟨h1, List.all_eq_true.mpr h2⟩]
  show (if S.length ≤ k then _ else none) = _
  rw [if_pos h3, h4]
  show (if noRefs es = true then _ else none) = _
  rw [if_pos h5]
theorem wp_frzV (h : R (g ds S) fun d S' => S.length ≤ S'.length ∧ (∀ c ∈ S'.take S.length, cellFree c = true) ∧ noRef d = true ∧ P d (S'.take S.length)) : R (frzD g ds S) P := by
  obtain ⟨d, S', e, h1, h2, h5, h6⟩ := h
  refine ⟨d, S'.take S.length, ?_, h6⟩
  unfold frzD
  rw [e]
  show (if S.length ≤ S'.length ∧ (S'.take S.length).all cellFree = true then _ else none) = _
  rw [if_pos ⟨h1, List.all_eq_true.mpr h2⟩]
  cases d <;> first | (cases h5; done) | (show (if noRef _ = true then _ else none) = _; rw [if_pos h5])
end
/-! ## a list, so many times -/
def gRep : D → D → Sto → Option (D × Sto)
  | .lst ds, .int k, S => if 0 ≤ k ∧ k ≤ 1000 ∧ ds.length ≤ 1000 then some (.lst (List.replicate k.toNat ds).flatten, S) else none
  | _, _, _ => none
theorem reps_rep {K : PySem.W.Frag} {ct : CT} {m : List Addr} {F : Hp} {ds : List D} {vs : List V} (r : Reps K ct m F ds vs) (n : Nat) : Reps K ct m F (List.replicate n ds).flatten (List.replicate n vs).flatten := by
  induction n with
  | zero => exact rfl
  | succ n ih =>
    rw [List.replicate_succ, List.replicate_succ, List.flatten_cons, List.flatten_cons]
    exact r.append ih
theorem od_rep {ct : CT} {K : PySem.W.Frag} : OpD ct K rRep gRep := by
  intro m F S H x y dx dy d S' Q s rx ry h p
  unfold gRep at h
  split at h
  · rename_i es k
    split at h
    · rename_i hc
      cases h
      obtain ⟨a, vs, e1, e2, e3⟩ := rx
      refine ⟨a, k, vs, e1, ry, s.same _ _ e2, by omega, by omega, ?_, fun q hq => ?_⟩
      · rw [line_eq, ← e3.length]
        have h1 : k.toNat ≤ 1000 := by omega
        exact Nat.le_trans (Nat.mul_le_mul hc.2.2 h1) (by decide)
      · obtain ⟨s2, x2⟩ := s.frozen hq (.lst (List.replicate k.toNat vs).flatten)
        exact p m _ (.ref q) _ x2 s2 ⟨q, _, rfl, upd_same, (reps_rep e3 _).mono x2⟩
    · cases h
  · cases h
theorem wp_rep {ds : List D} {k : Int} {S : Sto} {P : D → Sto → Prop} : R (gRep (.lst ds) (.int k) S) P ↔ (0 ≤ k ∧ k ≤ 1000 ∧ ds.length ≤ 1000) ∧ P (.lst (List.replicate k.toNat ds).flatten) S := R_cond
/-! ## xs.append(e) of a cell -/
theorem wp_App {fo fe : FE} {env : DEnv} {S : Sto} {P : D → Sto → Prop} {k : Nat} {ds : List D} {v : D} {S1 : Sto} {es : List D} (h0 : fo env S = some (.ref k, S)) (h1 : S[k]? = some (.lst ds)) (h2 : fe env S = some (v, S1)) (h3 : S1[k]? = some (.lst es)) (h4 : es.length ≤ 1000000) : R (fAppend fo fe env S) P ↔ P .non (S1.set k (.lst (es ++ [v]))) := by
  unfold fAppend
  rw [h0]
  show R (match S[k]? with | some (.lst _) => _ | _ => none) P ↔ _
  rw [h1]
  show R ((fe env S).bind _) P ↔ _
  rw [h2]
  show R (match S1[k]? with | some (.lst ds) => _ | _ => none) P ↔ _
  rw [h3]
  show R (if es.length ≤ 1000000 then _ else none) P ↔ _
  rw [if_pos h4]
  exact R_some
end DL

namespace DL
open PySem PySem.Spec PyProof.Rows L2
/-! ## properties of own classes -/
section
variable {X : Cx} {k : Nat} {C p g a dx : Addr} {fs : List (Str × V)} {f : Str} {fd : FuncData} {ps : List Str} {sp : Sp} {E : XK} {e : Expr} {pos : Pos} {ta : TE}
theorem prop_run {pins : List (Addr × Obj)} {σ : L2.St} {H : Hp} {s : Shared} {Q : VK} {b : Bool} {E' : Value → Shared → Prop} (I : Inv X pins σ H s) (ea : H a = some (.ins C dx fs)) (c : Cls X.K C) (hp : PropOf X.K C f p g)
    (F : FnG X.prog X.w X.K X.mg X.base k g fd ps sp) (hr : RoomG (k + 1) X.A) (hb : Binds X.K fd ps []) (h : sp [.ref a] H Q E) : wpAny (model X.prog X.w) X.A (getAttr (.ref a) f b) (EP X pins σ Q) E' s := by
  obtain ⟨mA, O, _⟩ := ins_get I.hok ea
  obtain ⟨od, J, _⟩ := O.look
  obtain ⟨rest, hrec⟩ := hp.rec_
  have J1 := I.tok (s.toks + 1)
  have hl := F.len _ _ _ _ h
  have some_ : (PySem.W.clsIn X.K C).isSome = true := by
    obtain ⟨cd, q, _⟩ := PySem.W.any_some c.hd
    rw [q]; rfl
  have plain := PySem.W.plainGet_of (c.get f)
  refine PySem.W.get_bind I.kIn J plain.1 (PySem.W.findObj_data some_ hp.at_ hp.get hp.tak) plain.2 (wpAny_call (PySem.W.prop_get (s := { s with toks := s.toks + 1 }) I.kIn hrec (codeAny_mono
    (F.run X.A.in1 X.stack { s with toks := s.toks + 1 } H ⟨[.ref a], []⟩ [.ref a] [.ref a] Q E hr.in1 J1.env0.in1 (hb _ [.ref a] J1.kIn hl) (.cons rfl .nil) h) fun r s' q => ?_)))
  obtain ⟨u, rfl, v, H', I3, rv, z⟩ := behind J1 q
  show wpAny _ _ (handedOut u) _ _ _
  rw [PySem.W.handedOut_of (handed_of rv)]
  exact wpAny_pure ⟨v, H', I3, rv, z⟩
theorem pe_propG (he : PE X e ta) (c : Cls X.K C) (hp : PropOf X.K C f p g) (F : FnG X.prog X.w X.K X.mg X.base k g fd ps sp) (hr : RoomG (k + 1) X.A) (hb : Binds X.K fd ps []) (hab : attributeBase e f X.env (eval e X.env) = eval e X.env) : PE X (.Attribute e f pos) (tProp C sp [] E ta) := by
  refine ⟨fun pins s σ H Q I h => attr_of hab (thn (he.run pins s σ H _ I h) fun u s1 ⟨y, H1, I1, ry, a, dx, fs, ex, ea, q⟩ => ?_)⟩
  subst ex
  have ry : u = Value.ref a := ry
  subst ry
  exact prop_run I1 ea c hp F hr hb q
end
def CalleeP (P : Program) (w : World) (K : PySem.W.Frag) (mg : Str → Option Value) (base : Heap) (ct : CT) (k : Nat) (C : Addr) (x : Str) (gd : FD) : Prop :=
  ∃ (j : Nat) (p g : Addr) (fd : FuncData) (ps : List Str), j + 1 ≤ k ∧ PropOf K C x p g ∧ Binds K fd ps [] ∧ FnG P w K mg base j g fd ps (spD K ct 1 gd)
def PropAt (K : PySem.W.Frag) (C : Addr) (x qual : Str) (st : Stmt) (ps : List Str) : Prop := ∃ (p g : Addr) (fd : FuncData), Fun K x qual st g fd ∧ PropOf K C x p g ∧ Binds K fd ps []
theorem CalleeP.mono {P : Program} {w : World} {K : PySem.W.Frag} {mg : Str → Option Value} {base : Heap} {ct : CT} {j k : Nat} {C : Addr} {x : Str} {gd : FD} (c : CalleeP P w K mg base ct j C x gd) (h : j ≤ k) : CalleeP P w K mg base ct k C x gd := by
  obtain ⟨i, p, g, fd, ps, h1, h2⟩ := c
  exact ⟨i, p, g, fd, ps, by omega, h2⟩
theorem calleeP_of {P : Program} {w : World} {K : PySem.W.Frag} {mg : Str → Option Value} {base : Heap} {ct : CT} {C : Addr} {x qual : Str} {st : Stmt} {N ps : List Str} {k : Nat} {g : FS} (d : PropAt K C x qual st ps) (S : FnScope N ps (defScope st)) (hps : ps.length = 1)
    (hbody : ∀ (f : Addr) (cdv : Value) (A : Around) (outer : List Env) (s : Shared) (H : Hp) (E : XK), RoomG k (A.deeper (envOfC qual (defScope st) s.heap.objs.size f cdv)) →
      SSs ct (cxOf CX0 P w K mg base N qual (defScope st) f cdv A outer s H E).nox (defBody st) g) : CalleeP P w K mg base ct (k + 2) C x (runD N.length g) := by
  obtain ⟨p, f, fd, F, h1, h3⟩ := d
  have := def_ok F S (hbody f)
  rw [hps] at this
  exact ⟨k + 1, p, f, fd, ps, Nat.le_refl _, h1, h3, this⟩
section
variable {ct : CT} {X : Cx} {C : Addr} {c x : Str} {a b e o k : Expr} {fe fo fa fb fk : FE} {fas : FA} {pos apos cpos : Pos} {n : Nat} {g : FD} {env : DEnv} {S : Sto} {P : D → Sto → Prop}
def fProp (c : Str) (g : FD) (fe : FE) : FE := fun env S => (fe env S).bind fun p => (insOf c p.1 p.2).bind fun _ => g [p.1] p.2
theorem se_prop (kc : Klass X.K ct c C) (M : CalleeP X.prog X.w X.K X.mg X.base ct n C x g) (hr : RoomG n X.A) (he : SE ct X e fe) (hb : attributeBase e x X.env (eval e X.env) = eval e X.env := by rfl) : SE ct X (.Attribute e x pos) (fProp c g fe) := by
  obtain ⟨j, p0, g0, fd, ps, hj, h1, h2, h3⟩ := M
  obtain ⟨ta, pa, ra⟩ := he
  refine ⟨_, pe_propG (E := fun _ _ _ => False) pa kc.cls h1 h3 (hr.mono hj) h2 hb, fun m F S σ H env d S' Q s en h p => ?_⟩
  obtain ⟨⟨z, S1⟩, q1, h⟩ := bind_some h
  obtain ⟨⟨fs, ds⟩, q2, h⟩ := bind_some h
  refine ra m F S σ H env z S1 _ s en q1 fun m1 F1 v1 H1 x1 s1 r1 => ?_
  obtain ⟨q, dx, vs, e1, e2, e3, e4⟩ := insOf_rep kc s1 r1 q2
  subst e1
  exact ⟨q, dx, _, rfl, e2, rfl, m1, F1, S1, [z], d, S', s1, Reps.mk1 r1, h, p.ext x1⟩
theorem wp_Prop {g : FD} : R (fProp c g fe env S) P ↔ R (fe env S) fun d S1 => (∃ q, insOf c d S1 = some q) ∧ R (g [d] S1) P := by
  unfold fProp
  simp only [R_bind]
  refine ⟨fun ⟨d, S1, e, q⟩ => ⟨d, S1, e, ?_⟩, fun ⟨d, S1, e, q⟩ => ⟨d, S1, e, ?_⟩⟩
  · obtain ⟨y, S3, e3, p⟩ := q
    obtain ⟨q1, h1, h2⟩ := bind_some e3
    exact ⟨⟨q1, h1⟩, y, S3, h2, p⟩
  · obtain ⟨⟨q1, h1⟩, y, S3, h2, p⟩ := q
    exact ⟨y, S3, by rw [h1]; exact h2, p⟩
/-! ## isinstance with an own class: an object of it -/
def fIsC (c : Str) (fe : FE) : FE := fun env S => (fe env S).bind fun p => (insOf c p.1 p.2).map fun _ => (.bl true, p.2)
theorem se_isC {p q : Pos} (kc : Klass X.K ct c C) (ic : C8.InsC X.K C) (hg : Gl X "isinstance") (hm : X.mg "isinstance" = none) (he : SE ct X e fe) (hg2 : Gl X x) (hm2 : X.mg x = some (.ref C)) (hd2 : (x == ("__debug__" : Str)) = false := by decide)
    (hs : starEach [e, .Name x q] X.env = (false, eval e X.env) :: starEach [.Name x q] X.env := by rfl) (hs2 : starEach [.Name x q] X.env = (false, eval (.Name x q) X.env) :: starEach [] X.env := by rfl)
    (hpl : (backTo pos (starEach [.Name x q] X.env)).any (·.1) = false := by rfl) : SE ct X (.Call (.Name "isinstance" p) [e, .Name x q] [] pos) (fIsC c fe) := by
  obtain ⟨ta, pa, ra⟩ := he
  refine ⟨_, pe_callB (id := "isinstance") (C8.call_isC ic) hg hm (by decide +kernel) (pa_cons pa (pa_cons (pe_glob (v := .ref C) hg2 hm2 rfl hd2) pa_nil hs2) hs) (by decide) (by decide) hs hpl, fun m F S σ H env d S' Q s en h p => ?_⟩
  obtain ⟨⟨z, S1⟩, h1, h⟩ := bind_some h
  obtain ⟨⟨fs, ds⟩, h2, h3⟩ := map_some h
  cases h3
  refine ra m F S σ H env z S1 _ s en h1 fun m1 F1 v1 H1 x1 s1 r1 => ?_
  obtain ⟨q, dx, vs, e1, e2, e3, e4⟩ := insOf_rep kc s1 r1 h2
  subst e1
  exact ⟨q, dx, _, rfl, e2, (p.ext x1).now s1 rfl⟩
theorem wp_IsC : R (fIsC c fe env S) P ↔ R (fe env S) fun d S1 => (∃ q, insOf c d S1 = some q) ∧ P (.bl true) S1 := by
  unfold fIsC
  simp only [R_bind]
  refine ⟨fun ⟨d, S1, e, q⟩ => ⟨d, S1, e, ?_⟩, fun ⟨d, S1, e, q⟩ => ⟨d, S1, e, ?_⟩⟩
  · obtain ⟨y, S3, e3, p⟩ := q
    obtain ⟨q1, h1, h2⟩ := map_some e3
    cases h2
    exact ⟨⟨q1, h1⟩, p⟩
  · obtain ⟨⟨q1, h1⟩, p⟩ := q
    exact ⟨_, _, by rw [h1]; rfl, p⟩
/-! ## d.get(k), k in d of a dict at hand -/
def fDGet1 (fd fk : FE) : FE := fun env S => (fd env S).bind fun p => (kvsOf p.1 p.2).bind fun _ => (fk env p.2).bind fun q => (kvsOf p.1 q.2).bind fun kvs => (toKey q.1).map fun x => ((valA kvs x).getD .non, q.2)
theorem se_dget1 (hr : RoomG n X.A) (ho : SE ct X o fo) (hk : SE ct X k fk) (m : M1 X o "get" apos k cpos) : SE ct X (.Call (.Attribute o "get" apos) [k] [] cpos) (fDGet1 fo fk) := by
  obtain ⟨ta, pa, ra⟩ := ho
  obtain ⟨tb, pb, rb⟩ := hk
  refine ⟨_, pe_dget1 (hu_of hr.room) pa pb m, fun m F S σ H env d S' Q s en h p => ?_⟩
  obtain ⟨⟨z, S1⟩, h1, h⟩ := bind_some h
  obtain ⟨kvs0, h0, h⟩ := bind_some h
  obtain ⟨⟨y, S2⟩, h2, h⟩ := bind_some h
  obtain ⟨kvs, h4, h⟩ := bind_some h
  obtain ⟨key, h5, h6⟩ := map_some h
  cases h6
  refine ra m F S σ H env z S1 _ s en h1 fun m1 F1 v1 H1 x1 s1 r1 => ?_
  obtain ⟨w, us0, e1, e2, _⟩ := kvs_at s1 r1 h0
  refine ⟨w, e1, .inl ⟨us0, .inl e2⟩, ?_⟩
  refine rb m1 F1 S1 σ H1 env y S2 _ s1 (en.mono x1) h2 fun m2 F2 v2 H2 x2 s2 r2 => ?_
  obtain ⟨w', us, e1', e2', pr⟩ := kvs_at s2 (r1.mono x2) h4
  subst e1
  cases e1'
  have ek := r2.key h5
  subst ek
  refine ⟨_, DGet.k e2', ?_⟩
  have p2 := (p.ext x1).ext x2
  cases hv : valA kvs key with
  | none =>
    rw [hv] at p2
    rw [(PR.val pr key).2 hv]
    exact p2.now s2 rfl
  | some dv =>
    rw [hv] at p2
    obtain ⟨v, q1, q2⟩ := (PR.val pr key).1 dv hv
    rw [q1]
    exact p2.now s2 q2
def fDIn (neg : Bool) (fk fd : FE) : FE := fun env S => (fk env S).bind fun p => (fd env p.2).bind fun q => (kvsOf q.1 q.2).bind fun kvs => (toKey p.1).map fun x => (.bl (if neg then !(valA kvs x).isSome else (valA kvs x).isSome), q.2)
theorem din_run {m : List Addr} {F H : Hp} {S S' : Sto} {env : DEnv} {d : D} {σ : L2.St} {neg : Bool} {ta tb : TE} {Q : VK}
    (ra : ∀ m F S σ H env d S' Q, Sim X.K ct m F S H → EnvR X.K ct m F env σ → fk env S = some (d, S') → PostE ct X.K m F H S' d Q → ta σ H Q)
    (rb : ∀ m F S σ H env d S' Q, Sim X.K ct m F S H → EnvR X.K ct m F env σ → fo env S = some (d, S') → PostE ct X.K m F H S' d Q → tb σ H Q)
    (s : Sim X.K ct m F S H) (en : EnvR X.K ct m F env σ) (h : fDIn neg fk fo env S = some (d, S')) (p : PostE ct X.K m F H S' d Q) : ta σ H fun y H1 => tb σ H1 fun x H2 => ∃ a o, x = .ref a ∧ DGet H2 a y o ∧ Q (.bl (if neg then !o.isSome else o.isSome)) H2 := by
  obtain ⟨⟨y, S1⟩, h1, h⟩ := bind_some h
  obtain ⟨⟨z, S2⟩, h2, h⟩ := bind_some h
  obtain ⟨kvs, h4, h⟩ := bind_some h
  obtain ⟨key, h5, h6⟩ := map_some h
  cases h6
  refine ra m F S σ H env y S1 _ s en h1 fun m1 F1 v1 H1 x1 s1 r1 => ?_
  refine rb m1 F1 S1 σ H1 env z S2 _ s1 (en.mono x1) h2 fun m2 F2 v2 H2 x2 s2 r2 => ?_
  obtain ⟨w, us, e1, e2, pr⟩ := kvs_at s2 r2 h4
  have ek := (r1.mono x2).key h5
  subst ek
  refine ⟨w, _, e1, DGet.k e2, ?_⟩
  have p2 := (p.ext x1).ext x2
  cases hv : valA kvs key with
  | none =>
    rw [hv] at p2
    rw [(PR.val pr key).2 hv]
    exact p2.now s2 rfl
  | some dv =>
    rw [hv] at p2
    obtain ⟨v, q1, q2⟩ := (PR.val pr key).1 dv hv
    rw [q1]
    exact p2.now s2 rfl
theorem se_din (hr : RoomG n X.A) (hk : SE ct X k fk) (ho : SE ct X o fo) (h1 : behindInMarks .In o = false) : SE ct X (.Compare k [.In] [o] pos) (fDIn false fk fo) := by
  obtain ⟨ta, pa, ra⟩ := hk
  obtain ⟨tb, pb, rb⟩ := ho
  exact ⟨_, pe_cmp (pc_din (hu_of hr.room) pa pb) h1, fun m F S σ H env d S' Q s en h p => din_run (neg := false) ra rb s en h p⟩
theorem st_din (hr : RoomG n X.A) (hk : SE ct X k fk) (ho : SE ct X o fo) (h1 : behindInMarks .In o = false) : ST ct X (.Compare k [.In] [o] pos) (fTest (fDIn false fk fo)) := by
  obtain ⟨ta, pa, ra⟩ := hk
  obtain ⟨tb, pb, rb⟩ := ho
  refine ⟨_, pt_cmp (pc_din (hu_of hr.room) pa pb) h1, fun m F S σ H env d S' Q s en h p => ?_⟩
  obtain ⟨⟨x, S1⟩, q1, h⟩ := bind_some h
  show tDIn ta tb σ H fun v H1 => ∃ z, v = .bl z ∧ Q z H1
  refine din_run (neg := false) (Q := fun v H1 => ∃ z, v = .bl z ∧ Q z H1) ra rb s en q1 fun m1 F1 v1 H1 x1 s1 r1 => ?_
  cases x with
  | bl z =>
    have r1 : v1 = .bl z := r1
    cases h
    exact ⟨_, r1, p m1 F1 H1 x1 s1⟩
  | _ => cases h
theorem wp_DGet1 : R (fDGet1 fo fk env S) P ↔ R (fo env S) fun x S1 => (∃ q, kvsOf x S1 = some q) ∧ R (fk env S1) fun y S2 => ∃ kvs, kvsOf x S2 = some kvs ∧ ∃ key, toKey y = some key ∧ P ((valA kvs key).getD .non) S2 := by
  unfold fDGet1
  simp only [R_bind]
  refine ⟨fun ⟨x, S1, e, q⟩ => ⟨x, S1, e, ?_⟩, fun ⟨x, S1, e, q⟩ => ⟨x, S1, e, ?_⟩⟩
  · obtain ⟨d, S3, e3, p⟩ := q
    obtain ⟨k0, h0, h⟩ := bind_some e3
    obtain ⟨⟨y, S2⟩, h1, h⟩ := bind_some h
    obtain ⟨kvs, h2, h⟩ := bind_some h
    obtain ⟨key, h3, h4⟩ := map_some h
    cases h4
    exact ⟨⟨k0, h0⟩, y, _, h1, kvs, h2, key, h3, p⟩
  · obtain ⟨⟨k0, h0⟩, y, S2, h1, kvs, h2, key, h3, p⟩ := q
    exact ⟨_, S2, by rw [h0]; show ((fk env S1).bind _) = _; rw [h1]; show ((kvsOf x S2).bind _) = _; rw [h2]; show ((toKey y).map _) = _; rw [h3]; rfl, p⟩
theorem wp_DIn {neg : Bool} : R (fDIn neg fk fo env S) P ↔ R (fk env S) fun y S1 => R (fo env S1) fun x S2 => ∃ kvs, kvsOf x S2 = some kvs ∧ ∃ key, toKey y = some key ∧ P (.bl (if neg then !(valA kvs key).isSome else (valA kvs key).isSome)) S2 := by
  unfold fDIn
  simp only [R_bind]
  refine ⟨fun ⟨x, S1, e, y, S2, e2, q⟩ => ⟨x, S1, e, y, S2, e2, ?_⟩, fun ⟨x, S1, e, y, S2, e2, q⟩ => ⟨x, S1, e, y, S2, e2, ?_⟩⟩
  · obtain ⟨d, S3, e3, p⟩ := q
    obtain ⟨kvs, h1, h⟩ := bind_some e3
    obtain ⟨key, h2, h3⟩ := map_some h
    cases h3
    exact ⟨kvs, h1, key, h2, p⟩
  · obtain ⟨kvs, h1, key, h2, p⟩ := q
    exact ⟨_, S2, by rw [h1]; show ((toKey x).map _) = _; rw [h2]; rfl, p⟩
/-! ## a, b, .. = a list -/
def gUnlD (n : Nat) (gs : FGs) : FG := fun d env S => match d with
  | .lst ds => if ds.length = n then gs ds env S else none
  | _ => none
theorem sg_unl {ts : List Expr} {k n : Nat} {gs : FGs} (hc : X.calm = true) (h : SGs ct X ts gs) (hn : (assignEach ts X.env).length = n := by rfl) (hst : (assignEach ts X.env).findIdx? (·.1) = none := by rfl) : SG ct X (.Tuple ts k pos) (gUnlD n gs) := by
  obtain ⟨ta, pa, ra⟩ := h
  refine ⟨_, pg_unl hc pa hn hst, fun m F S σ H env d v env' S' Q s en r h q => ?_⟩
  cases d with
  | lst ds =>
    obtain ⟨w, vs, e1, e2, e3⟩ := r
    by_cases hl : ds.length = n
    · have h : (if ds.length = n then gs ds env S else none) = some (env', S') := h
      rw [if_pos hl] at h
      exact ⟨w, vs, e1, SqL.of (s.same _ _ e2), by rw [← e3.length]; exact hl, ra m F S σ H env ds vs env' S' Q s en e3 h q⟩
    · have h : (if ds.length = n then gs ds env S else none) = some (env', S') := h
      rw [if_neg hl] at h
      cases h
  | _ => cases h
theorem wp_gUnl {n : Nat} {gs : FGs} {ds : List D} {PG : DEnv → Sto → Prop} : R (gUnlD n gs (.lst ds) env S) PG ↔ ds.length = n ∧ R (gs ds env S) PG := by
  show R (if ds.length = n then gs ds env S else none) PG ↔ _
  by_cases h : ds.length = n
  · rw [if_pos h]; exact ⟨fun p => ⟨h, p⟩, fun p => p.2⟩
  · rw [if_neg h, R_none]; exact ⟨False.elim, fun p => h p.1⟩
/-! ## dict(a written dict of texts and whole numbers) -/
def TK (w : World) (K : PySem.W.Frag) (mg : Str → Option Value) (n : Str) (tab : List (Str × Int)) : Prop := ∃ (g : Addr) (es : Array DictEntry) (c : Nat), mg n = some (.ref g) ∧ K.lookup g = some ⟨.type "dict", none, .dict es c, #[]⟩ ∧ TabOk w.params tab es.toList ∧ (g == sysModules) = false
def tabV (tab : List (Str × Int)) : List (Key × V) := tab.map fun p => (Sum.inr p.1, V.int p.2)
def tabD (tab : List (Str × Int)) : List (Key × D) := tab.map fun p => (Sum.inr p.1, D.int p.2)
theorem tab_pairs {Pr : Program} {w : World} : ∀ {tab : List (Str × Int)} {l : List DictEntry}, TabOk w.params tab l → ∃ vs : List (Key × Value), KV (tabV tab) vs ∧ Pairs (mixKind Pr w) l vs ∧ (∀ e ∈ l, ∃ k, (mixKind Pr w).is k e.key = true ∧ e.hash = (mixKind Pr w).hash k) ∧ vs.map (·.1) = tab.map fun p => Sum.inr p.1
  | [], [], _ => ⟨[], .nil, .nil, fun e h => (by cases h), rfl⟩
  | p :: tab, e :: l, h => by
    obtain ⟨⟨t, t', h1, h2, h3⟩, h4⟩ := h
    obtain ⟨vs, a, b, c, d⟩ := tab_pairs (Pr := Pr) h4
    have ik : (mixKind Pr w).is (Sum.inr p.1) e.key = true := by rw [h1]; exact keyIs_str p.1 t
    refine ⟨(Sum.inr p.1, .int p.2 t') :: vs, .cons ⟨rfl, ⟨_, rfl⟩⟩ a, .cons ik h3 b, fun z hz => ?_, by rw [List.map_cons, List.map_cons, d]⟩
    rcases List.mem_cons.mp hz with rfl | hz
    · exact ⟨Sum.inr p.1, ik, h2⟩
    · exact c z hz
  | [], _ :: _, h => h.elim
  | _ :: _, [], h => h.elim
theorem tab_PR {K : PySem.W.Frag} {m : List Addr} {F : Hp} : ∀ tab : List (Str × Int), PR K ct m F (tabD tab) (tabV tab)
  | [] => .nil
  | p :: tab => .cons ⟨rfl, rfl⟩ (tab_PR tab)
def rDictK (K : PySem.W.Frag) (w : World) (tab : List (Str × Int)) : List V → Hp → VK → Prop := fun xs H Q => ∃ (g : Addr) (es : Array DictEntry) (c : Nat), xs = [.ref g] ∧ K.lookup g = some ⟨.type "dict", none, .dict es c, #[]⟩ ∧ TabOk w.params tab es.toList ∧ (g == sysModules) = false ∧ tab.length ≤ 1000 ∧ (tab.map (·.1)).Nodup ∧
  ∀ p, H p = none → Q (.ref p) (upd H p (.dK (tabV tab)))
theorem call_dictK {tab : List (Str × Int)} : CallR X (.type "dict") (rDictK X.K X.w tab) := by
  intro pins s σ H xs us Q I r h
  obtain ⟨g, es, c, rfl, lk, tb, lo, hl, hn, q⟩ := h
  obtain ⟨u, rfl, ru⟩ := vals1 r
  have ru : u = Value.ref g := ru
  subst ru
  obtain ⟨vs, a1, a2, a3, a4⟩ := tab_pairs (Pr := X.prog) tb
  have hz : vs.length ≤ sizeLine := by
    have : vs.length = tab.length := by
      have := congrArg List.length a4
      simpa using this
    rw [this]
    exact Nat.le_trans hl (by decide)
  have dd : s.heap.DictOf (mixKind X.prog X.w) g vs := ⟨_, es, c, I.kIn g _ lk, ⟨rfl, rfl, rfl⟩, rfl, fun e he => a3 e (Array.mem_toList_iff.mpr he), a2, by
    rw [a4]
    rw [show (tab.map fun p => (Sum.inr p.1 : Key)) = (tab.map (·.1)).map Sum.inr by rw [List.map_map]; rfl]
    exact nodup_inr hn⟩
  refine kt_call_dict lo dd hz fun h' d' hs => ?_
  have hm : (s.heap.objs.size == sysModules) = false := beq_eq_false_iff_ne.mpr (Nat.ne_of_gt I.big)
  exact ⟨.ref s.heap.objs.size, upd H s.heap.objs.size (.dK (tabV tab)), I.laid (t' := s.toks) (fun b u e => (hs.2 b (Nat.ne_of_lt (Heap.lt_size e))).trans (Heap.get?_push_of_some _ e)) (Nat.le_refl _)
    (show ObjOk X.prog X.w _ _ _ (.dK (tabV tab)) from ⟨by rw [a1.length]; exact hz, hm, vs, a1, d'⟩), rfl, q _ (I.hok.fresh (Nat.le_refl _))⟩
def fDictK (tab : List (Str × Int)) : FE := fun _ S => some (.ref S.length, S ++ [.dct (tabD tab)])
theorem se_dictK {tab : List (Str × Int)} {p q : Pos} (T : TK X.w X.K X.mg x tab) (hg : Gl X "dict") (hm : X.mg "dict" = none) (hg2 : Gl X x) (hl : tab.length ≤ 1000) (hn : (tab.map (·.1)).Nodup) (hd : (x == ("__debug__" : Str)) = false := by decide)
    (hs : starEach [.Name x q] X.env = (false, eval (.Name x q) X.env) :: starEach [] X.env := by rfl) (hpl : (backTo pos (starEach [] X.env)).any (·.1) = false := by rfl) : SE ct X (.Call (.Name "dict" p) [.Name x q] [] pos) (fDictK tab) := by
  obtain ⟨g, es, c, hmg, lk, tb, lo⟩ := T
  refine ⟨_, pe_callTy (call_dictK (tab := tab)) hg hm (by decide +kernel) (pa_cons (pe_glob (v := .ref g) hg2 hmg rfl hd) pa_nil hs) (by decide) (by decide) hs hpl, fun m F S σ H env d S' Q s en h p => ?_⟩
  cases h
  refine ⟨g, es, c, rfl, lk, tb, lo, hl, hn, fun q hq => ?_⟩
  obtain ⟨s2, x2⟩ := s.fresh hq (o := .dK (tabV tab)) (c := .dct (tabD tab)) ⟨_, rfl, tab_PR tab⟩
  exact p _ _ (.ref q) _ x2 s2 ⟨q, by rw [← s.len]; simp, rfl⟩
theorem wp_DictK {tab : List (Str × Int)} : R (fDictK tab env S) P ↔ P (.ref S.length) (S ++ [.dct (tabD tab)]) := R_some
end
end DL

namespace DL
open PySem PySem.Spec PyProof.Rows L2
/-! ## a list, so many times, as a cell -/
def gRepM : D → D → Sto → Option (D × Sto)
  | .lst ds, .int k, S => if 0 ≤ k ∧ k ≤ 1000 ∧ ds.length ≤ 1000 then some (.ref S.length, S ++ [.lst (List.replicate k.toNat ds).flatten]) else none
  | _, _, _ => none
theorem od_repM {ct : CT} {K : PySem.W.Frag} : OpD ct K rRep gRepM := by
  intro m F S H x y dx dy d S' Q s rx ry h p
  unfold gRepM at h
  split at h
  · rename_i es k
    split at h
    · rename_i hc
      cases h
      obtain ⟨a, vs, e1, e2, e3⟩ := rx
      refine ⟨a, k, vs, e1, ry, s.same _ _ e2, by omega, by omega, ?_, fun q hq => ?_⟩
      · rw [line_eq, ← e3.length]
        have h1 : k.toNat ≤ 1000 := by omega
        exact Nat.le_trans (Nat.mul_le_mul hc.2.2 h1) (by decide)
      · obtain ⟨s2, x2⟩ := s.fresh hq (o := .lst (List.replicate k.toNat vs).flatten) (c := .lst (List.replicate k.toNat es).flatten) ⟨_, rfl, reps_rep e3 _⟩
        exact p _ _ (.ref q) _ x2 s2 ⟨q, by rw [← s.len]; simp, rfl⟩
    · cases h
  · cases h
theorem wp_repM {ds : List D} {k : Int} {S : Sto} {P : D → Sto → Prop} : R (gRepM (.lst ds) (.int k) S) P ↔ (0 ≤ k ∧ k ≤ 1000 ∧ ds.length ≤ 1000) ∧ P (.ref S.length) (S ++ [.lst (List.replicate k.toNat ds).flatten]) := R_cond
/-! ## list + cell -/
def gAddC : D → D → Sto → Option (D × Sto)
  | .lst a, .ref k, S => match S[k]? with
    | some (.lst b) => if a.length + b.length ≤ 16777216 then some (.lst (a ++ b), S) else none
    | _ => none
  | _, _, _ => none
theorem od_addC {ct : CT} {K : PySem.W.Frag} : OpD ct K rCat gAddC := by
  intro m F S H x y dx dy d S' Q s rx ry h p
  unfold gAddC at h
  split at h
  · rename_i as k
    split at h
    · rename_i bs hk
      split at h
      · rename_i hl
        cases h
        obtain ⟨a, vs, e1, e2, e3⟩ := rx
        obtain ⟨b, f0, f1⟩ := ry
        obtain ⟨us, f2, f3⟩ := s.cell k b _ f0 hk
        refine ⟨a, b, vs, us, e1, f1, s.same _ _ e2, f2, by rw [line_eq, ← e3.length, ← f3.length]; exact hl, fun q hq => ?_⟩
        obtain ⟨s2, x2⟩ := s.frozen hq (.lst (vs ++ us))
        exact p m _ (.ref q) _ x2 s2 ⟨q, _, rfl, upd_same, (e3.append f3).mono x2⟩
      · cases h
    · cases h
  · cases h
/-! ## max of a list of whole numbers -/
def intsOf : List D → Option (List Int)
  | [] => some []
  | .int i :: ds => (intsOf ds).map fun r => i :: r
  | _ :: _ => none
def maxI : List Int → Int
  | [] => 0
  | [a] => a
  | a :: l => if maxI l < a then a else maxI l
theorem maxI_ok : ∀ {l : List Int}, 0 < l.length → maxI l ∈ l ∧ ∀ y ∈ l, y ≤ maxI l
  | [], h => by cases h
  | [a], _ => ⟨List.mem_singleton.mpr rfl, fun y h => by rw [List.mem_singleton.mp h]; exact Int.le_refl _⟩
  | a :: b :: l, _ => by
    obtain ⟨h1, h2⟩ := maxI_ok (l := b :: l) (by simp)
    show (if maxI (b :: l) < a then a else maxI (b :: l)) ∈ _ ∧ ∀ y ∈ _, y ≤ (if maxI (b :: l) < a then a else maxI (b :: l))
    split
    · rename_i h
      refine ⟨List.mem_cons_self .., fun y hy => ?_⟩
      rcases List.mem_cons.mp hy with rfl | q
      · exact Int.le_refl _
      · have := h2 y q; omega
    · rename_i h
      refine ⟨List.mem_cons_of_mem _ h1, fun y hy => ?_⟩
      rcases List.mem_cons.mp hy with rfl | q
      · omega
      · exact h2 y q
def cMaxL : FD
  | [.lst ds], S => (intsOf ds).bind fun ns => if 0 < ns.length then some (.int (maxI ns), S) else none
  | _, _ => none
theorem ints_vals {ct : CT} {K : PySem.W.Frag} {m : List Addr} {F : Hp} : ∀ {ds : List D} {vs : List V} {ns : List Int}, Reps K ct m F ds vs → intsOf ds = some ns → vs = ns.map V.int
  | [], vs, ns, r, h => by cases h; exact r
  | d :: ds, vs, ns, r, h => by
    cases d <;> first | (cases h; done) | skip
    rename_i i
    obtain ⟨l, h1, h2⟩ := map_some h
    subst h2
    obtain ⟨v, us, e1, e2, e3⟩ := r
    have e2 : v = .int i := e2
    subst e2 e1
    rw [ints_vals e3 h1]
    rfl
theorem cd_maxL {ct : CT} {K : PySem.W.Frag} : CallD ct K (rMax K) cMaxL := by
  intro m F S H xs ds d S' Q s r h p
  unfold cMaxL at h
  split at h
  · rename_i es
    obtain ⟨ns, h1, h⟩ := bind_some h
    split at h
    · rename_i hne
      cases h
      obtain ⟨v, e1, a, vs, e2, e3, e4⟩ := reps1 r
      subst e2
      have hv := ints_vals e4 h1
      subst hv
      refine ⟨a, ns, e1, SqL.of (s.same _ _ e3), hne, fun M m1 m2 => ?_⟩
      obtain ⟨g1, g2⟩ := maxI_ok hne
      have hM : M = maxI ns := Int.le_antisymm (g2 _ m1) (m2 _ g1)
      rw [hM]
      exact p.now s rfl
    · cases h
  · cases h
theorem intsOf_map (ns : List Int) : intsOf (ns.map D.int) = some ns := by
  induction ns with
  | nil => rfl
  | cons a l ih => show (intsOf (l.map D.int)).map _ = _; rw [ih]; rfl
end DL

namespace DL
open PySem PySem.Spec PyProof.Rows L2
/-! # Errors of own classes -/
/-! ## the bases -/
def refsB (tl : List Value) : List Value → Bool
  | .ref _ :: r => refsB tl r
  | l => l == tl
theorem refsB_or {tl : List Value} : ∀ l : List Value, refsB tl l = true → (∃ c r, l = .ref c :: r ∧ refsB tl r = true) ∨ l = tl
  | [], h => .inr (beq_iff_eq.mp h)
  | v :: r, h => by
    cases v <;> first | exact .inl ⟨_, r, rfl, h⟩ | exact .inr (beq_iff_eq.mp h)
structure BaseX (B newId initId : String) (tl : List Value) : Prop where
  facts : ExcBaseFacts B newId initId tl
  pass : ∀ self, refuseLoop self "__setattr__" tl = pure ()
  obj : tl.contains (.type "object") = true
theorem base_VE : BaseX "ValueError" "ValueError.__new__" "ValueError.__init__" [.type "ValueError", .type "Exception", .type "BaseException", .type "object"] := ⟨F.excBase_ValueError, F.store_ValueError.passes, by decide +kernel⟩
theorem base_AE : BaseX "ArithmeticError" "ArithmeticError.__new__" "ArithmeticError.__init__" [.type "ArithmeticError", .type "Exception", .type "BaseException", .type "object"] := ⟨F.excBase_ArithmeticError, F.store_ArithmeticError.passes, by decide +kernel⟩
section
variable {B newId initId : String} {tl : List Value}
theorem BaseX.ne (b : BaseX B newId initId tl) : tl ≠ [] := fun e => by
  have h := b.obj
  rw [e] at h
  cases h
theorem BaseX.passes (b : BaseX B newId initId tl) (self : Value) : ∀ l : List Value, refsB tl l = true → refuseLoop self "__setattr__" l = pure () := by
  intro l
  induction l with
  | nil =>
    intro h
    rcases refsB_or _ h with ⟨c, r, q, _⟩ | q
    · cases q
    · exact absurd q.symm b.ne
  | cons v r ih =>
    intro h
    rcases refsB_or _ h with ⟨c, r', q, h'⟩ | q
    · cases q
      rw [refuseLoop_ref]
      exact ih h'
    · rw [q]
      exact b.pass self
theorem refsB_has (X : String) : ∀ l : List Value, refsB tl l = true → tl ≠ [] → l.contains (.type X) = tl.contains (.type X) := by
  intro l
  induction l with
  | nil =>
    intro h ne
    rcases refsB_or _ h with ⟨c, r, q, _⟩ | q
    · cases q
    · exact absurd q.symm ne
  | cons v r ih =>
    intro h ne
    rcases refsB_or _ h with ⟨c, r', q, h'⟩ | q
    · cases q
      rw [List.contains_cons, ih h' ne]
      rfl
    · rw [q]
end
/-- what is written of such a class -/
structure OexB (K : PySem.W.Frag) (C : Addr) : Prop where
  cls : ∃ B newId initId tl nm q N bs bm sn sub ab col dd k0 k1 k2 k3 k5, BaseX B newId initId tl ∧ K.lookup C = some (excClassObj nm q C N bs bm true sn sub ab col dd k0 k1 k2 k3 k5 newId) ∧ refsB tl bm = true
  sa : PySem.W.findIn K (.ref C) "__setattr__" = some (some (.builtin "object.__setattr__"))
  exC : PySem.W.subIn K (.ref C) (.type "BaseException") = some true
  tyC : PySem.W.typeIn K (.ref C) = some (.type "type")
  kC : PySem.W.keepIn K (.ref C) = true
/-! ## self.f = v -/
section
open Builtin Builtin.ObjectAttr
variable {prog : Program} {w : World} {A : Around} {R : Result → Shared → Prop} {hp : Heap} {g : Array GenState} {d : Drawn} {t : Nat} {os : OsState}
variable {K : PySem.W.Frag} {name : Str} {tk : Tok} {v : Value} {x C : Addr} {fv : Array Value} {cd : ClassData} {od : Option Addr} {oo : Option Obj}
/-- ahead of the store itself -/
theorem xset_pre (kin : K.In hp) (I : PySem.W.InstAt hp x { cls := .ref C, dict := od, data := .fields fv } C oo) (hcd : PySem.W.clsIn K C = some cd) (hne : cd.mro.isEmpty = false) (hob : cd.mro.contains (.type "object") = true)
    (hpass : ∀ self, refuseLoop self "__setattr__" cd.mro = pure ()) (ha : PySem.W.findIn K (.ref C) name = some none)
    (h : wpAny (model prog w) A.in1 (storeInOwnDict (.ref x) (.ref C) (.str name tk) name v false) (fun fin s' => match fin with | .done fl => R (.ok fl) s' | .again c => c.quiet = true ∧ codeAny (model prog w) A c R s') (fun e s' => R (.error e) s') ⟨hp, g, d, t, os⟩) :
    codeAny (model prog w) A (.call (.builtin "object.__setattr__") ⟨[.ref x, .str name tk, v], []⟩) R ⟨hp, g, d, t, os⟩ := by
  have so := F.store_object
  have isO : PySem.W.Looks (model prog w) hp (isInstance (.ref x) (.type "object")) true := I.type.andThen (PySem.W.looks_mroIn kin (by unfold PySem.W.mroIn; rw [hcd, Option.bind_some, if_neg (by rw [hne]; decide), hob]))
  have order : PySem.W.Looks (model prog w) hp (mroOf (.ref C)) cd.mro := (PySem.W.looks_clsIn kin hcd).andThen .now
  have none_ : PySem.W.Looks (model prog w) hp (storeTaker? none) none := .now
  refine codeAny_call_builtin so.slot.plain so.entry (@PySem.W.check_slot (model prog w) _ _ ⟨hp, g, d, t, os⟩ "object.__setattr__" "object" "__setattr__" (.ref x) [.str name tk, v] [] _ so.kind so.split isO (so.args (.ref x) (.str name tk) v) ?_)
  rw [PySem.W.osa_eq, refuse_eq]
  refine wpAny_bind (wpAny_bind (I.type.at (wpAny_bind (order.at ?_))))
  rw [hpass]
  exact wpAny_pure (wpAny_bind (I.type.at (wpAny_bind ((PySem.W.looks_findIn kin ha).at (wpAny_bind (none_.at h))))))
/-- the first field -/
theorem xset_new (kin : K.In hp) (hx : hp.get? x = some { cls := .ref C, data := .fields fv }) (hcd : PySem.W.clsIn K C = some cd) (hne : cd.mro.isEmpty = false) (hob : cd.mro.contains (.type "object") = true)
    (hpass : ∀ self, refuseLoop self "__setattr__" cd.mro = pure ()) (hh : cd.hasDict = true) (ha : PySem.W.findIn K (.ref C) name = some none)
    (hq : ∀ h' tk' dx, (∀ b o, b ≠ x → hp.get? b = some o → h'.get? b = some o) → hp.objs.size ≤ dx → dx ≠ x → h'.get? x = some { cls := .ref C, dict := some dx, data := .fields fv } →
      h'.Ns1 dx (fun y => if y = name then some v else none) → R (.ok (.ret .none)) ⟨h', g, d, tk', os⟩) :
    codeAny (model prog w) A (.call (.builtin "object.__setattr__") ⟨[.ref x, .str name tk, v], []⟩) R ⟨hp, g, d, t, os⟩ := by
  refine xset_pre (oo := none) kin ⟨hx, rfl, rfl, trivial⟩ hcd hne hob hpass ha ?_
  have look : PySem.W.Looks (model prog w) hp (classData C) cd := PySem.W.looks_clsIn kin hcd
  have xs : x ≠ hp.objs.size := Nat.ne_of_lt (Heap.lt_size hx)
  obtain ⟨c1, c2, c3, c4, c5, c6, c7, c8, c9, c10, c11⟩ := cd
  dsimp only at hh
  subst hh
  unfold storeInOwnDict ownDictForStores
  repeat (first | with_reducible refine HandSPX.store_in_new ?_ ?_ | with_reducible refine wpAny_loadPart_at hx ?_ | with_reducible refine look.at ?_ | wp_step)
  · exact ⟨_, #[], _, (Heap.get?_update_ne _ _ _ _ xs.symm).trans (Heap.get?_push_at rfl rfl), rfl, fun e he => absurd he (by simp), fun _ => rfl⟩
  · intro h' tk' ns same
    have there : (hp.push { cls := .type "dict", data := .dict #[] }).get? x = some { cls := .ref C, data := .fields fv } := Heap.get?_push_of_some _ hx
    exact hq h' tk' hp.objs.size (fun b o nb e => (same.2 b (Nat.ne_of_lt (Heap.lt_size e))).trans ((Heap.get?_update_ne _ _ _ _ nb).trans (Heap.get?_push_of_some _ e))) (Nat.le_refl _) xs.symm ((same.2 x xs).trans (Heap.get?_update_self _ there rfl)) ns
/-- a further one -/
theorem xset_old {dx : Addr} {m0 : Str → Option Value} {nl : List Str} (kin : K.In hp) (hx : hp.get? x = some { cls := .ref C, dict := some dx, data := .fields fv }) (hns : hp.Ns1 dx m0) (hw : Within m0 nl) (hz : nl.length ≤ 1000) (hcd : PySem.W.clsIn K C = some cd) (hne : cd.mro.isEmpty = false)
    (hob : cd.mro.contains (.type "object") = true) (hpass : ∀ self, refuseLoop self "__setattr__" cd.mro = pure ()) (hh : cd.hasDict = true) (ha : PySem.W.findIn K (.ref C) name = some none)
    (hq : ∀ h' tk', (∀ b o, b ≠ dx → hp.get? b = some o → h'.get? b = some o) → h'.Ns1 dx (fun y => if y = name then some v else m0 y) → R (.ok (.ret .none)) ⟨h', g, d, tk', os⟩) :
    codeAny (model prog w) A (.call (.builtin "object.__setattr__") ⟨[.ref x, .str name tk, v], []⟩) R ⟨hp, g, d, t, os⟩ := by
  obtain ⟨oD, _, _, there, _, _⟩ := hns.count hw
  refine xset_pre (oo := some oD) kin ⟨hx, rfl, rfl, there⟩ hcd hne hob hpass ha ?_
  have look : PySem.W.Looks (model prog w) hp (classData C) cd := PySem.W.looks_clsIn kin hcd
  obtain ⟨c1, c2, c3, c4, c5, c6, c7, c8, c9, c10, c11⟩ := cd
  dsimp only at hh
  subst hh
  unfold storeInOwnDict ownDictForStores
  repeat (first | with_reducible refine PySem.OEX.store_in_old hns hw hz ?_ | with_reducible refine wpAny_loadPart_at hx ?_ | with_reducible refine look.at ?_ | wp_step)
  intro h' tk' ns same
  exact hq h' tk' (fun b o nb e => (same.2 b nb).trans e) ns
end
/-! ## the same, of an error that is being made -/
section
variable {X : Cx} {pins : List (Addr × Obj)} {σ : L2.St} {H : Hp} {s : Shared} {a C dx : Addr} {f : Str} {y : V} {u : Value} {fs : List (Str × V)} {Q : Unit → Shared → Prop} {E : Value → Shared → Prop} {A : Around}
theorem xs_new (T : OexB X.K C) (I : Inv X pins σ H s) (e : H a = some (exo a C none)) (hno : PySem.W.findIn X.K (.ref C) f = some none) (ry : RelV y u)
    (h : ∀ dx s', H dx = none → dx ≠ a → Inv X pins σ (upd (upd H dx (exd dx [(f, y)])) a (exo a C (some dx))) s' → Q () s') : wpAny (model X.prog X.w) A (setAttr (.ref a) f u) Q E s := by
  obtain ⟨B, nI, iI, tl, nm, q, N, bs, bm, sn, sub, ab, col, dd, k0, k1, k2, k3, k5, hB, hC, hbm⟩ := T.cls
  have mro : refsB tl (.ref C :: bm) = true := hbm
  obtain ⟨t1, at_⟩ := exo_at I.hok e
  obtain ⟨hp, gn, dr, tk, os⟩ := s
  refine PySem.W.set_plain I.kIn (od := none) ⟨at_, rfl, rfl, trivial⟩ T.sa ?_
  refine xset_new (cd := { name := nm, bases := bs, mro := .ref C :: bm, ns := N, qualname := q, hasDict := true, slotNames := sn, subclasses := sub, abstract := ab, collection := col, hasDel := false }) I.kIn at_ (by unfold PySem.W.clsIn; rw [hC] <;> rfl) rfl
    ((refsB_has _ _ mro hB.ne).trans hB.obj) (fun self => hB.passes self _ mro) rfl hno fun h' tk' dx kept big ne hx ns => ?_
  have off : H dx = none := I.hok.fresh big
  have ndx : ∀ {b : Addr} {o : Obj}, hp.get? b = some o → b ≠ dx := fun {b o} z => Nat.ne_of_lt (Nat.lt_of_lt_of_le (Heap.lt_size z) big)
  have nea : ∀ {b : Addr}, H b = none → b ≠ a := fun {b} n z => by
    rw [z, e] at n
    cases n
  have U : Un X.fs [] H (upd (upd H dx (exd dx [(f, y)])) a (exo a C (some dx))) hp h' := ⟨fun b o z n _ _ => kept b o (nea n) z, fun b o z n _ _ => ⟨o.slots, kept b o (nea n) z⟩, fun b o z n _ => by rw [upd_ne (nea n), upd_ne (ndx z)]; exact n,
    fun b o z _ => by
      by_cases hb : b = a
      · exact ⟨_, by rw [hb]; exact hx⟩
      · exact ⟨o, kept b o hb z⟩,
    fun b xs z => by rw [upd_ne (at_ne e z exo_tup), upd_ne (ne_of_none z off)]; exact z, fun b o v z => by rw [upd_ne (at_ne e z exo_frz), upd_ne (ne_of_none z off)]; exact z,
    fun b ps z => ⟨#[], by rw [upd_ne (at_ne e z exo_tbl), upd_ne (ne_of_none z off), z]; simp⟩⟩
  refine h dx _ off ne (I.un (t' := tk') U fun b o z => ?_)
  by_cases hb : b = a
  · subst hb
    rw [upd_same] at z
    cases z
    exact exo_ok hx
  · rw [upd_ne hb] at z
    by_cases hd : b = dx
    · subst hd
      rw [upd_same] at z
      cases z
      exact exd_ok ns (relO_put (fs := []) ry fun _ => trivial)
    · rw [upd_ne hd] at z
      exact (I.hok b o z).stay (fun c v hc y => kept c v (hc.elim (fun q => q ▸ hb) fun q => at_ne e q exo_own) y)
        (fun c hc => by rw [upd_ne (at_ne e hc exo_own), upd_ne (ne_of_none hc off)]; exact hc) fun c xs hc => by rw [upd_ne (at_ne e hc exo_tup), upd_ne (ne_of_none hc off)]; exact hc
theorem xs_old (T : OexB X.K C) (I : Inv X pins σ H s) (e : H a = some (exo a C (some dx))) (ed : H dx = some (exd dx fs)) (hl : fs.length ≤ 900) (hno : PySem.W.findIn X.K (.ref C) f = some none) (ry : RelV y u)
    (h : ∀ s', Inv X pins σ (upd H dx (exd dx ((f, y) :: fs))) s' → Q () s') : wpAny (model X.prog X.w) A (setAttr (.ref a) f u) Q E s := by
  obtain ⟨B, nI, iI, tl, nm, q, N, bs, bm, sn, sub, ab, col, dd, k0, k1, k2, k3, k5, hB, hC, hbm⟩ := T.cls
  have mro : refsB tl (.ref C :: bm) = true := hbm
  obtain ⟨t1, at_⟩ := exo_at I.hok e
  obtain ⟨mA, ns, rel⟩ := exd_at I.hok ed
  have wi := within_of rel
  obtain ⟨hp, gn, dr, tk, os⟩ := s
  obtain ⟨oD, _, _, there, _, _⟩ := ns.count wi
  refine PySem.W.set_plain I.kIn (od := some oD) ⟨at_, rfl, rfl, there⟩ T.sa ?_
  refine xset_old (cd := { name := nm, bases := bs, mro := .ref C :: bm, ns := N, qualname := q, hasDict := true, slotNames := sn, subclasses := sub, abstract := ab, collection := col, hasDel := false }) I.kIn at_ ns wi (by rw [List.length_map]; omega)
    (by unfold PySem.W.clsIn; rw [hC] <;> rfl) rfl ((refsB_has _ _ mro hB.ne).trans hB.obj) (fun self => hB.passes self _ mro) rfl hno fun h' tk' kept ns' => ?_
  have some_ : ∃ o, h'.get? dx = some o := let ⟨o, _, _, z, _⟩ := ns'; ⟨o, z⟩
  exact h _ (I.write (t' := tk') (x := dx) (e := dx) (o := exd dx ((f, y) :: fs)) (by rw [ed]; trivial) (.inl rfl) kept some_ (exd_ok ns' (relO_put ry rel)))
end
/-- self.f = e as a statement -/
def tXs (K : PySem.W.Frag) (f : Str) (to te : TE) : TS := fun D σ H => te σ H fun y H1 => to σ H1 fun x H2 => ∃ a C : Addr, x = .ref a ∧ OexB K C ∧ PySem.W.findIn K (.ref C) f = some none ∧
  ((H2 a = some (exo a C none) ∧ ∀ dx, H2 dx = none → dx ≠ a → D.nx σ (upd (upd H2 dx (exd dx [(f, y)])) a (exo a C (some dx)))) ∨
    ∃ (dx : Addr) (fs : List (Str × V)), H2 a = some (exo a C (some dx)) ∧ H2 dx = some (exd dx fs) ∧ fs.length ≤ 900 ∧ D.nx σ (upd H2 dx (exd dx ((f, y) :: fs))))
theorem ps_xs {X : Cx} {o e : Expr} {to te : TE} {f : Str} {p' pos : Pos} (ho : PE X o to) (he : PE X e te) (hs : swapsWith e (some (.Attribute o f p')) pos.line X.env = pure false := by rfl) : PS X (.Assign [.Attribute o f p'] e pos) (tXs X.K f to te) := by
  refine ⟨fun pins s σ H D I h => plainObj_wpAny_Assign_Attribute (thn (he.run pins s σ H _ I h) fun v s1 ⟨y, H1, I1, r1, q1⟩ => thn (ho.run pins s1 σ H1 _ I1 q1) fun u s2 ⟨x, H2, I2, r2, a, C, ex, T, hno, q⟩ => ?_) hs⟩
  subst ex
  have r2 : u = Value.ref a := r2
  subst r2
  rcases q with ⟨ea, q⟩ | ⟨dx, fs, ea, ed, hl, q⟩
  · exact xs_new T I2 ea hno r1 fun dx s' n ne J => ⟨σ, _, J, q dx n ne⟩
  · exact xs_old T I2 ea ed hl hno r1 fun s' J => ⟨σ, _, J, q⟩
/-! ## __init__ of such a class: one field or two -/
def spI1 (K : PySem.W.Frag) (f : Str) : Sp := fun vs H Q _ => ∃ a C x, vs = [.ref a, x] ∧ OexB K C ∧ PySem.W.findIn K (.ref C) f = some none ∧ H a = some (exo a C none) ∧ ∀ dx, H dx = none → dx ≠ a → Q .non (upd (upd H dx (exd dx [(f, x)])) a (exo a C (some dx)))
def spI2 (K : PySem.W.Frag) (f g : Str) : Sp := fun vs H Q _ => ∃ a C x y, vs = [.ref a, x, y] ∧ OexB K C ∧ PySem.W.findIn K (.ref C) f = some none ∧ PySem.W.findIn K (.ref C) g = some none ∧ H a = some (exo a C none) ∧
  ∀ dx, H dx = none → dx ≠ a → Q .non (upd (upd (upd H dx (exd dx [(f, x)])) a (exo a C (some dx))) dx (exd dx [(g, y), (f, x)]))
section
variable {P : Program} {w : World} {K : PySem.W.Frag} {mg : Str → Option Value} {base : Heap}
theorem init1_ok {x qual self f : Str} {st : Stmt} {fa : Addr} {fd : FuncData} {k : Nat} {p1 p2 p3 p4 : Pos} (F : Fun K x qual st fa fd) (S : FnScope [self, f] [self, f] (defScope st)) (hb : defBody st = [.Assign [.Attribute (.Name self p1) f p2] (.Name f p3) p4])
    (v1 : Vis (defScope st) self) (v2 : Vis (defScope st) f) (d1 : (self == ("__debug__" : Str)) = false := by decide) (d2 : (f == ("__debug__" : Str)) = false := by decide) (d3 : (self == ("__classdict__" : Str)) = false := by decide) (d4 : (f == ("__classdict__" : Str)) = false := by decide) :
    FnG P w K mg base (k + 1) fa fd [self, f] (spI1 K f) := by
  refine funG F S (fun vs H Q E h => ?_) (fun cdv A outer s H vs Q E hr h => ?_)
  · obtain ⟨a, C, z, rfl, _⟩ := h
    rfl
  · obtain ⟨a, C, z, rfl, T, hno, ea, q⟩ := h
    rw [hb]
    refine ⟨_, pss_one (ps_xs (pe_var (i := 0) rfl v1 d1 d3) (pe_var (i := 1) rfl v2 d2 d4)), ?_⟩
    exact ⟨z, rfl, .ref a, rfl, a, C, rfl, T, hno, .inl ⟨ea, q⟩⟩
theorem init2_ok {x qual self f g : Str} {st : Stmt} {fa : Addr} {fd : FuncData} {k : Nat} {p1 p2 p3 p4 p5 p6 p7 p8 : Pos} (F : Fun K x qual st fa fd) (S : FnScope [self, f, g] [self, f, g] (defScope st))
    (hb : defBody st = [.Assign [.Attribute (.Name self p1) f p2] (.Name f p3) p4, .Assign [.Attribute (.Name self p5) g p6] (.Name g p7) p8])
    (v1 : Vis (defScope st) self) (v2 : Vis (defScope st) f) (v3 : Vis (defScope st) g) (d1 : (self == ("__debug__" : Str)) = false := by decide) (d2 : (f == ("__debug__" : Str)) = false := by decide) (d3 : (self == ("__classdict__" : Str)) = false := by decide) (d4 : (f == ("__classdict__" : Str)) = false := by decide)
    (d5 : (g == ("__debug__" : Str)) = false := by decide) (d6 : (g == ("__classdict__" : Str)) = false := by decide) : FnG P w K mg base (k + 1) fa fd [self, f, g] (spI2 K f g) := by
  refine funG F S (fun vs H Q E h => ?_) (fun cdv A outer s H vs Q E hr h => ?_)
  · obtain ⟨a, C, z, y, rfl, _⟩ := h
    rfl
  · obtain ⟨a, C, z, y, rfl, T, hno, hno2, ea, q⟩ := h
    rw [hb]
    refine ⟨_, pss_cons (ps_xs (pe_var (i := 0) rfl v1 d1 d3) (pe_var (i := 1) rfl v2 d2 d4)) (pss_one (ps_xs (pe_var (i := 0) rfl v1 d1 d3) (pe_var (i := 2) rfl v3 d5 d6))), ?_⟩
    refine ⟨z, rfl, .ref a, rfl, a, C, rfl, T, hno, .inl ⟨ea, fun dx off ne => ?_⟩⟩
    exact ⟨y, rfl, .ref a, rfl, a, C, rfl, T, hno2, .inr ⟨dx, [(f, z)], upd_same, by rw [upd_ne ne, upd_same], Nat.le_of_ble_eq_true rfl, q dx off ne⟩⟩
end
end DL

namespace DL
open PySem PySem.Spec PyProof.Rows L2
/-! # What is raised -/
abbrev Er := Str × List Str × List D
abbrev FX := DEnv → Sto → Option (Er × Sto)
abbrev XD := List D → Sto → Option (Er × Sto)
def ErrR (K : PySem.W.Frag) (ct : CT) (m : List Addr) (F : Hp) (er : Er) (cls : Value) (d : Option Addr) : Prop :=
  ∃ C vs, ct er.1 = some C ∧ cls = .ref C ∧ ((d = none ∧ er.2.1 = []) ∨ ∃ dx, d = some dx ∧ F dx = some (.xd (er.2.1.zip vs))) ∧ er.2.1.length = vs.length ∧ Reps K ct m F er.2.2 vs
def PostX (ct : CT) (K : PySem.W.Frag) (m : List Addr) (F H : Hp) (S' : Sto) (er : Er) (E : XK) : Prop := ∀ m' F' H' cls d, Ext m F H m' F' H' → Sim K ct m' F' S' H' → ErrR K ct m' F' er cls d → E cls d H'
theorem PostX.ext {ct : CT} {K : PySem.W.Frag} {m m1 : List Addr} {F F1 H H1 : Hp} {S' : Sto} {er : Er} {E : XK} (p : PostX ct K m F H S' er E) (e : Ext m F H m1 F1 H1) : PostX ct K m1 F1 H1 S' er E := fun m' F' H' c d x s r => p m' F' H' c d (e.trans x) s r
/-- the context lets such errors out -/
abbrev Lets (X : Cx) (E : XK) : Prop := Takes X fun cls d _ H => E cls d H
section
variable (ct : CT) (X : Cx) (E : XK)
def XE1 (e : Expr) (g : FX) : Prop := ∃ t, PE X e t ∧ ∀ m F S σ H env er S' Q, Sim X.K ct m F S H → EnvR X.K ct m F env σ → g env S = some (er, S') → PostX ct X.K m F H S' er E → t σ H Q
def XA1 (es : List Expr) (g : FX) : Prop := ∃ t, PA X es t ∧ ∀ m F S σ H env er S' Q, Sim X.K ct m F S H → EnvR X.K ct m F env σ → g env S = some (er, S') → PostX ct X.K m F H S' er E → t σ H Q
def XS1 (st : Stmt) (g : FX) : Prop := ∃ t, PS X st t ∧ ∀ m F S σ H env er S' D, Sim X.K ct m F S H → EnvR X.K ct m F env σ → g env S = some (er, S') → PostX ct X.K m F H S' er E → t D σ H
def XSs (sts : List Stmt) (g : FX) : Prop := ∃ t, PSs X sts t ∧ ∀ m F S σ H env er S' D, Sim X.K ct m F S H → EnvR X.K ct m F env σ → g env S = some (er, S') → PostX ct X.K m F H S' er E → t D σ H
end
/-! ## two readings of one thing -/
theorem pe_or {X : Cx} {e : Expr} {t u : TE} (h : PE X e t) (k : PE X e u) : PE X e fun σ H Q => t σ H Q ∨ u σ H Q := ⟨fun pins s σ H Q I q => q.elim (h.run pins s σ H Q I) (k.run pins s σ H Q I)⟩
theorem pa_or {X : Cx} {es : List Expr} {t u : TA} (h : PA X es t) (k : PA X es u) : PA X es fun σ H Q => t σ H Q ∨ u σ H Q := ⟨fun pos pins s σ H Q I q => q.elim (h.run pos pins s σ H Q I) (k.run pos pins s σ H Q I)⟩
theorem ps_or {X : Cx} {st : Stmt} {t u : TS} (h : PS X st t) (k : PS X st u) : PS X st fun D σ H => t D σ H ∨ u D σ H := ⟨fun pins s σ H D I q => q.elim (h.run pins s σ H D I) (k.run pins s σ H D I)⟩
theorem pss_or {X : Cx} {sts : List Stmt} {t u : TS} (h : PSs X sts t) (k : PSs X sts u) : PSs X sts fun D σ H => t D σ H ∨ u D σ H := ⟨fun pins s σ H D I q => q.elim (h.run pins s σ H D I) (k.run pins s σ H D I)⟩
theorem pe_no {X : Cx} {e : Expr} : PE X e fun _ _ _ => False := ⟨fun _ _ _ _ _ _ h => h.elim⟩
theorem pa_no {X : Cx} {es : List Expr} : PA X es fun _ _ _ => False := ⟨fun _ _ _ _ _ _ _ h => h.elim⟩
/-! ## promises of defs that raise -/
structure FnX (P : Program) (w : World) (K : PySem.W.Frag) (mg : Str → Option Value) (base : Heap) (k : Nat) (f : Addr) (fd : FuncData) (ps : List Str) (sp : List V → Hp → XK → Prop) : Prop where
  len : ∀ vs H E, sp vs H E → vs.length = ps.length
  run : ∀ (A : Around) (outer : List Env) (s : Shared) (H : Hp) (args : Args) (us : List Value) (vs : List V) (E : XK), RoomG k A → Env0 P w K mg base A outer s H →
    BindsTo s fd args (ps.zip us) → Vals vs us → sp vs H E → codeAny (model P w) A (.call (.ref f) args) (CR (L2.CX P w) outer P w H s (fun _ _ => False) E) s
theorem FnX.mono {P : Program} {w : World} {K : PySem.W.Frag} {mg : Str → Option Value} {base : Heap} {j k : Nat} {f : Addr} {fd : FuncData} {ps : List Str} {sp : List V → Hp → XK → Prop} (F : FnX P w K mg base j f fd ps sp) (h : j ≤ k) : FnX P w K mg base k f fd ps sp := ⟨F.len, fun A o s H ar us vs E r => F.run A o s H ar us vs E (r.mono h)⟩
def spX (K : PySem.W.Frag) (ct : CT) (n : Nat) (g : XD) : List V → Hp → XK → Prop := fun vs H E => vs.length = n ∧ ∃ m F S ds er S', Sim K ct m F S H ∧ Reps K ct m F ds vs ∧ g ds S = some (er, S') ∧ PostX ct K m F H S' er E
def runX (n : Nat) (g : FX) : XD := fun ds S => g (ds.map some ++ List.replicate (n - ds.length) none) S
section
variable {P : Program} {w : World} {K : PySem.W.Frag} {mg : Str → Option Value} {base : Heap} {ct : CT}
theorem start_env {N : List Str} {m : List Addr} {F : Hp} {ds : List D} {vs : List V} (reps : Reps K ct m F ds vs) : EnvR K ct m F (ds.map some ++ List.replicate (N.length - ds.length) none) (L2.start N vs) := by
  have hl2 := reps.length
  refine ⟨by simp [L2.start, hl2], fun i e he => ?_⟩
  by_cases hi : i < ds.length
  · rw [List.getElem?_append_left (by simpa using hi)] at he
    simp at he
    obtain ⟨v, q1, q2⟩ := reps.get (i := i) (d := e) (by simpa using he)
    refine ⟨v, ?_, q2⟩
    unfold L2.start
    rw [List.getElem?_append_left (by simpa [← hl2] using hi)]
    simp [q1]
  · rw [List.getElem?_append_right (by simpa using hi)] at he
    have := List.mem_of_getElem? he
    simp at this
theorem defX_ok {x qual : Str} {st : Stmt} {f : Addr} {fd : FuncData} {N ps : List Str} {k : Nat} {g : FX} (F : Fun K x qual st f fd) (S : FnScope N ps (defScope st))
    (hbody : ∀ (cdv : Value) (A : Around) (outer : List Env) (s : Shared) (H : Hp) (E : XK), RoomG k (A.deeper (envOfC qual (defScope st) s.heap.objs.size f cdv)) →
      XSs ct (cxOf (L2.CX P w) P w K mg base N qual (defScope st) f cdv A outer s H E) E (defBody st) g) : FnX P w K mg base (k + 1) f fd ps (spX K ct ps.length (runX N.length g)) := by
  obtain ⟨oc, od, kV, doc, pm, an, cdv, ctv, osl, rfl, lk, hcd⟩ := F.ex
  refine ⟨fun vs H E h => h.1, fun A outer s H ar us vs E hr e0 hb rv hsp => ?_⟩
  obtain ⟨hl, m, F', S0, ds, er, S', sim, reps, hg, post⟩ := hsp
  have old := fun b o e => (e0.bs b o e).1
  have kin : K.In s.heap := e0.mod.kin.keeps old
  refine codeAny_call_function hr.room.depth (kin _ _ lk) rfl S.co S.gen rfl (PySem.W.codeRec_of kin hcd) (hb _ _ _ _ (wpAny_newFunctionEnv_cells S.kind (fun y hy => ?_) fun env he s1 nw => ?_))
  · rcases S.par y.1 (List.of_mem_zip (b := y.2) hy).1 with q | q
    · exact .inl q
    · exact .inr ⟨q, PySem.W.cellsFrom_some _ _ _ (.inl q)⟩
  · subst he
    refine ⟨(e0.mod.nolimit.keeps old).keeps nw.toInCall.keep, codeAny_func ?_⟩
    obtain ⟨t, ht, hq⟩ := hbody cdv A outer s H E (hr.deeper _)
    refine wpAny_mono (ht.run [] s1 (start N vs) H { nx := fun _ _ => False, rt := fun _ _ => False } (inv_start S hr.room.hd e0 hl rv nw) (hq m F' S0 _ H _ er S' _ sim (start_env reps) hg post)) (fun fl s' z => ?_) fun _ _ z => z
    cases fl with
    | ret u => obtain ⟨v, _, G, J, ru, q⟩ := z; exact q.elim
    | next => obtain ⟨_, G, J, q⟩ := z; exact q.elim
    | brk => obtain ⟨_, _, _, q⟩ := z; exact q.elim
    | cont => obtain ⟨_, _, _, q⟩ := z; exact q.elim
end
/-! ## calls of them -/
section
variable {X : Cx} {k : Nat} {f C : Addr} {fd : FuncData} {ps : List Str} {sp : List V → Hp → XK → Prop} {E : XK} {x m : Str} {p pos apos : Pos} {e o : Expr} {es : List Expr} {ta : TE} {t tk : TA} {kws : List Keyword} {ks : List Str} {n : Nat} {g : List Value → List Value → List Value} {gV : List V → List V → List V} {dvs : List V} {ds : List Value}
theorem out_of {pins : List (Addr × Obj)} {σ : L2.St} {H : Hp} {s s' : Shared} {Q : VK} {r : Except Value Flow} (tk : Lets X E) (I : Inv X pins σ H s) (h : CR (L2.CX X.prog X.w) X.stack X.prog X.w H s (fun _ _ => False) E r s') : ∃ er, r = .error er ∧ X.xe er s' := by
  cases r with
  | error er => exact ⟨er, rfl, passes_call tk (fun _ _ _ _ z => z) pins σ H s er s' I h⟩
  | ok fl =>
    cases fl with
    | ret u => obtain ⟨_, _, _, _, _, _, _, q⟩ := h; exact q.elim
    | next => exact h.elim
    | brk => exact h.elim
    | cont => exact h.elim
theorem runXb {pins : List (Addr × Obj)} {σ : L2.St} {H : Hp} {s : Shared} {Q : VK} {ar : Args} {us : List Value} {vs : List V} (F : FnX X.prog X.w X.K X.mg X.base k f fd ps sp) (hr : RoomG k X.A) (tk : Lets X E) (I : Inv X pins σ H s)
    (hb : BindsTo s fd ar (ps.zip us)) (rv : Vals vs us) (h : sp vs H E) : wpAny (model X.prog X.w) X.A (call (.ref f) ar.pos ar.kw) (EP X pins σ Q) X.xe s := by
  refine wpAny_call (codeAny_mono (F.run X.A X.stack s H ar us vs E hr I.env0 hb rv h) fun r s' q => ?_)
  obtain ⟨er, rfl, z⟩ := out_of (Q := Q) tk I q
  exact z
theorem runXp {pins : List (Addr × Obj)} {σ : L2.St} {H : Hp} {s : Shared} {Q : VK} {us : List Value} {vs : List V} (F : FnX X.prog X.w X.K X.mg X.base k f fd ps sp) (hr : RoomG k X.A) (tk : Lets X E) (hb : Binds X.K fd ps ds) (hd : Vals dvs ds)
    (I : Inv X pins σ H s) (rv : Vals vs us) (h : sp (vs ++ dvs) H E) : wpAny (model X.prog X.w) X.A (call (.ref f) us) (EP X pins σ Q) X.xe s :=
  runXb (ar := ⟨us, []⟩) F hr tk I (hb s us I.kIn (by rw [← (rv.append hd).length]; exact F.len _ _ _ h)) (rv.append hd) h
theorem runXk {pins : List (Addr × Obj)} {σ : L2.St} {H : Hp} {s : Shared} {Q : VK} {us ws : List Value} {vs zs : List V} (F : FnX X.prog X.w X.K X.mg X.base k f fd ps sp) (hr : RoomG k X.A) (tk : Lets X E) (hb : KBn X.K fd ps n ks g gV)
    (I : Inv X pins σ H s) (rv : Vals vs us) (rz : Vals zs ws) (l1 : vs.length = n) (l2 : zs.length = ks.length) (h : sp (gV vs zs) H E) : wpAny (model X.prog X.w) X.A (call (.ref f) us (ks.zip ws)) (EP X pins σ Q) X.xe s :=
  runXb (ar := ⟨us, ks.zip ws⟩) F hr tk I (hb.to s us ws I.kIn (rv.length.symm.trans l1) (rz.length.symm.trans l2)) (hb.rel rv rz) h
theorem pe_callX (F : FnX X.prog X.w X.K X.mg X.base k f fd ps sp) (hr : RoomG k X.A) (tk : Lets X E) (hg : Gl X x) (hm : X.mg x = some (.ref f)) (hk : PySem.W.keepIn X.K (.ref f) = true) (hb : Binds X.K fd ps ds) (hd : Vals dvs ds)
    (ha : PA X (e :: es) t) (hdb : (x == ("__debug__" : Str)) = false := by decide) (hst : starEach (e :: es) X.env = (false, eval e X.env) :: starEach es X.env := by rfl) (hpl : (backTo pos (starEach es X.env)).any (·.1) = false := by rfl) :
    PE X (.Call (.Name x p) (e :: es) [] pos) (fun σ H _ => t σ H fun vs H1 => sp (vs ++ dvs) H1 E) :=
  ⟨fun pins s σ H Q I h => wpAny_Call_Name_kw (ld_glob I hg hm (PySem.W.callWith_K (h₀ := X.base) I.ok.mod.kin hk
    (thn (ha.run pos pins s σ H _ I h) fun us s1 ⟨vs, H1, I1, rv, q⟩ => ⟨I1.kIn, runXp F hr tk hb hd I1 rv q⟩) hst hpl) hdb)⟩
theorem pe_callXK (F : FnX X.prog X.w X.K X.mg X.base k f fd ps sp) (hr : RoomG k X.A) (lt : Lets X E) (hg : Gl X x) (hm : X.mg x = some (.ref f)) (hk : PySem.W.keepIn X.K (.ref f) = true) (hb : KBn X.K fd ps 0 ks g gV) (hkw : PK X kws tk)
    (hall : (backToKw pos (keywordEach kws X.env)).all (·.1.isSome) = true := by rfl) (hks : (backToKw pos (keywordEach kws X.env)).filterMap (·.1) = ks := by rfl) (hdb : (x == ("__debug__" : Str)) = false := by decide)
    (hpl : ((backTo pos (starEach [] X.env)).any (·.1) || (backToKw pos (keywordEach kws X.env)).any (·.1.isNone)) = false := by rfl) : PE X (.Call (.Name x p) [] kws pos) (fun σ H _ => tk σ H fun zs H2 => zs.length = ks.length ∧ sp (gV [] zs) H2 E) := by
  refine ⟨fun pins s σ H Q I h => wpAny_Call_Name_kw (ld_glob I hg hm (PySem.W.callWith_KW0 (h₀ := X.base) I.ok.mod.kin hk hall (thn (hkw.run pos pins s σ H _ I h) fun ws s2 ⟨zs, H2, I2, rz, lz, q2⟩ => ⟨I2.kIn, ?_⟩) hpl) hdb)⟩
  rw [hks]
  exact runXk (us := []) (vs := []) F hr lt hb I2 .nil rz rfl lz q2
theorem pe_methX {pl : Sem Bool} (he : PE X o ta) (c : Cls X.K C) (hm : Meth X.K C m f) (F : FnX X.prog X.w X.K X.mg X.base k f fd ps sp) (hr : RoomG k X.A) (tk : Lets X E) (hb : Binds X.K fd ps ds) (hd : Vals dvs ds) (ha : PA X (e :: es) t)
    (hst : starEach (e :: es) X.env = (false, eval e X.env) :: starEach es X.env := by rfl) (hpl : (backTo pos (starEach es X.env)).any (·.1) = false := by rfl)
    (ht : eval (.Call (.Attribute o m apos) (e :: es) [] pos) X.env = (eval o X.env >>= fun ov => standAt apos.atName >>= fun _ => holding [ov] (getMethod ov m pl) >>= fun q =>
      callWith pos q.1 q.2 (backTo pos (starEach (e :: es) X.env)) (backToKw pos (keywordEach [] X.env))) := by rfl) :
    PE X (.Call (.Attribute o m apos) (e :: es) [] pos) (fun σ H _ => ta σ H fun x H1 => ∃ a dx fs, x = .ref a ∧ H1 a = some (.ins C dx fs) ∧ fs.lookup m = none ∧ t σ H1 fun vs H2 => sp (x :: (vs ++ dvs)) H2 E) := by
  refine ⟨fun pins s σ H Q I h => PySem.W.methodCall_KW (pl := pl) (thn (he.run pins s σ H _ I h) fun u s1 ⟨y, H1, I1, ry, a, dx, fs, ex, ea, l, q⟩ => ?_) ht⟩
  subst ex
  have ry : u = Value.ref a := ry
  subst ry
  exact getmeth_ok I1 ea c hm l (PySem.W.callWith_K (first := [.ref a]) (h₀ := X.base) I.ok.mod.kin hm.kp (thn (ha.run pos pins s1 σ H1 _ I1 q)
    fun us s2 ⟨vs, H2, I2, rv, q2⟩ => ⟨I2.kIn, runXp (us := .ref a :: us) (vs := .ref a :: vs) F hr tk hb hd I2 (.cons rfl rv) q2⟩) hst hpl)
theorem pe_methXK {pl : Sem Bool} (he : PE X o ta) (c : Cls X.K C) (hm : Meth X.K C m f) (F : FnX X.prog X.w X.K X.mg X.base k f fd ps sp) (hr : RoomG k X.A) (lt : Lets X E) (hb : KBn X.K fd ps 1 ks g gV) (hkw : PK X kws tk)
    (hall : (backToKw pos (keywordEach kws X.env)).all (·.1.isSome) = true := by rfl) (hks : (backToKw pos (keywordEach kws X.env)).filterMap (·.1) = ks := by rfl)
    (hpl : ((backTo pos (starEach [] X.env)).any (·.1) || (backToKw pos (keywordEach kws X.env)).any (·.1.isNone)) = false := by rfl)
    (ht : eval (.Call (.Attribute o m apos) [] kws pos) X.env = (eval o X.env >>= fun ov => standAt apos.atName >>= fun _ => holding [ov] (getMethod ov m pl) >>= fun q =>
      callWith pos q.1 q.2 (backTo pos (starEach [] X.env)) (backToKw pos (keywordEach kws X.env))) := by rfl) : PE X (.Call (.Attribute o m apos) [] kws pos) (fun σ H _ => ta σ H fun x H1 => ∃ a dx fs, x = .ref a ∧ H1 a = some (.ins C dx fs) ∧ fs.lookup m = none ∧
        tk σ H1 fun zs H2 => zs.length = ks.length ∧ sp (gV [x] zs) H2 E) := by
  refine ⟨fun pins s σ H Q I h => PySem.W.methodCall_KW (pl := pl) (thn (he.run pins s σ H _ I h) fun u s1 ⟨y, H1, I1, ry, a, dx, fs, ex, ea, l, q⟩ => ?_) ht⟩
  subst ex
  have ry : u = Value.ref a := ry
  subst ry
  refine getmeth_ok I1 ea c hm l (PySem.W.callWith_KW0 (first := [.ref a]) (h₀ := X.base) I.ok.mod.kin hm.kp hall (thn (hkw.run pos pins s1 σ H1 _ I1 q) fun ws s2 ⟨zs, H2, I2, rz, lz, q2⟩ => ⟨I2.kIn, ?_⟩) hpl)
  rw [hks]
  exact runXk (us := [.ref a]) (vs := [.ref a]) F hr lt hb I2 (.cons rfl .nil) rz rfl lz q2
end
end DL

namespace DL
open PySem PySem.Spec PyProof.Rows L2
/-! ## raise C(..) -/
def tMkX (C : Addr) (sp : Sp) (ta : TA) : L2.St → Hp → XK → Prop := fun σ H Q => ta σ H fun vs H1 => vs.length ≤ 1000 ∧ ∀ a, H1 a = none → sp (.ref a :: vs) (upd H1 a (exo a C none))
  (fun v H2 => v = .non ∧ ∃ (d : Addr) (fs : List (Str × V)), H2 a = some (exo a C (some d)) ∧ H2 d = some (exd d fs) ∧ H1 d = none ∧ Q (.ref C) (some d) (upd (del H2 a) d (.xd fs))) (fun _ _ _ => False)
section
variable {X : Cx} {k : Nat} {x : Str} {C fI : Addr} {fd : FuncData} {ps : List Str} {sp : Sp} {e : Expr} {es : List Expr} {ta : TA} {p pos : Pos}
theorem mk_run {pins : List (Addr × Obj)} {σ : L2.St} {H1 : Hp} {s1 : Shared} {us : List Value} {vs : List V} {Q : Value → Shared → Prop} {Ev : Value → Shared → Prop} {RR : Addr → Hp → Prop} (T : OexB X.K C) (iC : PySem.W.findIn X.K (.ref C) "__init__" = some (some (.ref fI))) (tI : PySem.W.typeIn X.K (.ref fI) = some (.type "function"))
    (F1 : FnG X.prog X.w X.K X.mg X.base k fI fd ps sp) (hr : RoomG (k + 1) X.A) (hb : Binds X.K fd ps []) (I1 : Inv X pins σ H1 s1) (rv : Vals vs us) (hl : vs.length ≤ 1000)
    (hq : ∀ a, H1 a = none → sp (.ref a :: vs) (upd H1 a (exo a C none)) (fun v H2 => v = .non ∧ RR a H2) (fun _ _ _ => False))
    (fin : ∀ a H2 hp2 (s' : Shared), s1.heap.objs.size ≤ a → (∀ b o, s1.heap.get? b = some o → hp2.get? b = some o) → Un (frs X.stack) [] (upd H1 a (exo a C none)) H2 hp2 s'.heap → HOk X.prog X.w H2 s'.heap → s'.os = s1.os → AllBare s'.gens → RR a H2 → Q (.ref a) s') :
    wpAny (model X.prog X.w) X.A (call (.ref C) us) Q Ev s1 := by
  obtain ⟨B, nI, iI, tl, nm, q, N, bs, bm, sn, sub, ab, col, dd, k0, k1, k2, k3, k5, hB, hC, hbm⟩ := T.cls
  obtain ⟨hp, gn, dr, tk, os⟩ := s1
  have big : hp.objs.size ≤ hp.objs.size + 1 := Nat.le_succ _
  have call_ := hq (hp.objs.size + 1) (I1.hok.fresh big)
  have grow : ∀ b o, hp.get? b = some o → ((hp.push (PySem.W.kdv_tup us)).push (PySem.HandSPX.excO C hp.objs.size)).get? b = some o := fun b o z => Heap.get?_push_of_some _ (Heap.get?_push_of_some _ z)
  have new_ : ((hp.push (PySem.W.kdv_tup us)).push (PySem.HandSPX.excO C hp.objs.size)).get? (hp.objs.size + 1) = some (PySem.HandSPX.excO C hp.objs.size) := by heap_get
  have I2 : Inv X pins σ (upd H1 (hp.objs.size + 1) (exo (hp.objs.size + 1) C none)) ⟨(hp.push (PySem.W.kdv_tup us)).push (PySem.HandSPX.excO C hp.objs.size), gn, dr, tk, os⟩ := I1.laid (t' := tk) grow big (exo_ok new_)
  have r2 : Vals (V.ref (hp.objs.size + 1) :: vs) (Value.ref (hp.objs.size + 1) :: us) := .cons rfl rv
  have len2 : (Value.ref (hp.objs.size + 1) :: us).length = ps.length := by rw [← r2.length]; exact F1.len _ _ _ _ call_
  have fits : us.length ≤ sizeLine := by
    rw [← rv.length, sizeLine_eq]
    omega
  have bind_ := hb ⟨(hp.push (PySem.W.kdv_tup us)).push (PySem.HandSPX.excO C hp.objs.size), gn, dr, tk, os⟩ (Value.ref (hp.objs.size + 1) :: us) I2.kIn (by rw [List.append_nil]; exact len2)
  rw [List.append_nil] at bind_
  refine wpAny_call (PySem.HandSPX.call_own hB.facts (fun Y => refsB_has Y bm hbm hB.ne) (I1.kIn _ _ hC) (PySem.W.looks_findIn I1.kIn iC) (fun self => PySem.W.bind_fn I1.kIn self tI) fits
    (codeAny_mono (F1.run _ X.stack _ _ ⟨Value.ref (hp.objs.size + 1) :: us, []⟩ _ _ _ _ (hr.make C us []) (I2.env0.make C us []) bind_ r2 call_) fun r s' z => ?_))
  cases r with
  | error er => exact False.elim z
  | ok fl =>
    cases fl <;> first | exact False.elim z | skip
    obtain ⟨v, H2, os2, bare2, un2, hok2, ru, ev, q2⟩ := z
    subst ev
    exact ⟨ru, fin _ H2 _ s' big grow un2 hok2 os2 bare2 q2⟩
theorem pmk_X (T : OexB X.K C) (iC : PySem.W.findIn X.K (.ref C) "__init__" = some (some (.ref fI))) (tI : PySem.W.typeIn X.K (.ref fI) = some (.type "function"))
    (F1 : FnG X.prog X.w X.K X.mg X.base k fI fd ps sp) (hr : RoomG (k + 1) X.A) (hb : Binds X.K fd ps []) (hg : Gl X x) (hm : X.mg x = some (.ref C)) (ha : PA X (e :: es) ta) (hdb : (x == ("__debug__" : Str)) = false := by decide)
    (hst : starEach (e :: es) X.env = (false, eval e X.env) :: starEach es X.env := by rfl) (hpl : (backTo pos (starEach es X.env)).any (·.1) = false := by rfl) : PMk X (.Call (.Name x p) (e :: es) [] pos) (tMkX C sp ta) := by
  intro pins s σ H Q I h
  refine wpAny_Call_Name_kw (ld_glob I hg hm (PySem.W.callWith_K (h₀ := X.base) I.ok.mod.kin T.kC (thn (ha.run pos pins s σ H _ I h) fun us s1 ⟨vs, H1, I1, r1, hz, q1⟩ => ⟨I1.kIn, ?_⟩) hst hpl) hdb)
  obtain ⟨hp, gn, dr, tk, os⟩ := s1
  refine mk_run T iC tI F1 hr hb I1 r1 hz q1 fun a H2 hp2 s' big grow un2 hok2 os2 bare2 ⟨d, fs, ea, ed, hd1, q2⟩ => ?_
  obtain ⟨h2, g2, d2, t2, os'⟩ := s'
  exact mk_end (raises_own T.exC T.tyC) I1 big grow un2 hok2 os2 bare2 ea ed hd1 q2
end
theorem del_upd2 {H : Hp} {a d : Addr} {o u w : HO} (h : H a = none) (hd : d ≠ a) : upd (del (upd (upd H d o) a u) a) d w = upd H d w := by
  funext b
  by_cases hb : b = d
  · rw [hb, upd_same, upd_same]
  · rw [upd_ne hb, upd_ne hb]
    by_cases ha : b = a
    · rw [ha, del_same, h]
    · rw [del_ne ha, upd_ne ha, upd_ne hb]
theorem del_upd3 {H : Hp} {a d : Addr} {o u v w : HO} (h : H a = none) (hd : d ≠ a) : upd (del (upd (upd (upd H d o) a u) d v) a) d w = upd H d w := by
  funext b
  by_cases hb : b = d
  · rw [hb, upd_same, upd_same]
  · rw [upd_ne hb, upd_ne hb]
    by_cases ha : b = a
    · rw [ha, del_same, h]
    · rw [del_ne ha, upd_ne hb, upd_ne ha, upd_ne hb]
/-- what is known of a class of errors whose __init__ keeps its arguments -/
def Raiser (P : Program) (w : World) (K : PySem.W.Frag) (mg : Str → Option Value) (base : Heap) (ct : CT) (k : Nat) (c : Str) (fs : List Str) : Prop :=
  ∃ (C fI : Addr) (fd : FuncData) (ps : List Str), mg c = some (.ref C) ∧ ct c = some C ∧ OexB K C ∧ PySem.W.findIn K (.ref C) "__init__" = some (some (.ref fI)) ∧ PySem.W.typeIn K (.ref fI) = some (.type "function") ∧ Binds K fd ps [] ∧
    ((∃ f, fs = [f] ∧ PySem.W.findIn K (.ref C) f = some none ∧ FnG P w K mg base k fI fd ps (spI1 K f)) ∨ ∃ f g, fs = [g, f] ∧ PySem.W.findIn K (.ref C) f = some none ∧ PySem.W.findIn K (.ref C) g = some none ∧ FnG P w K mg base k fI fd ps (spI2 K f g))
theorem Raiser.mono {P : Program} {w : World} {K : PySem.W.Frag} {mg : Str → Option Value} {base : Heap} {ct : CT} {j k : Nat} {c : Str} {fs : List Str} (r : Raiser P w K mg base ct j c fs) (h : j ≤ k) : Raiser P w K mg base ct k c fs := by
  obtain ⟨C, fI, fd, ps, h1, h2, h3, h4, h5, h6, h7⟩ := r
  refine ⟨C, fI, fd, ps, h1, h2, h3, h4, h5, h6, ?_⟩
  rcases h7 with ⟨f, a, b, c⟩ | ⟨f, g, a, b, c, d⟩
  · exact .inl ⟨f, a, b, c.mono h⟩
  · exact .inr ⟨f, g, a, b, c, d.mono h⟩
def xRaise (c : Str) (fs : List Str) (fas : FA) : FX := fun env S => (fas env S).bind fun p => if p.1.length = fs.length then some ((c, fs, p.1.reverse), p.2) else none
section
variable {ct : CT} {X : Cx} {E : XK} {k : Nat} {c : Str} {fs : List Str} {e : Expr} {es : List Expr} {fas : FA} {p pos pos' : Pos}
theorem xs_raise (R : Raiser X.prog X.w X.K X.mg X.base ct k c fs) (hc : X.calm = true) (tk : Lets X E) (hr : RoomG (k + 1) X.A) (hg : Gl X c) (ha : SA ct X (e :: es) fas) (hdb : (c == ("__debug__" : Str)) = false := by decide)
    (hst : starEach (e :: es) X.env = (false, eval e X.env) :: starEach es X.env := by rfl) (hpl : (backTo pos (starEach es X.env)).any (·.1) = false := by rfl) : XS1 ct X E (.Raise (some (.Call (.Name c p) (e :: es) [] pos)) none pos') (xRaise c fs fas) := by
  obtain ⟨C, fI, fd, ps, h1, h2, h3, h4, h5, h6, h7⟩ := R
  obtain ⟨ta, pa, ra⟩ := ha
  rcases h7 with ⟨f, rfl, b1, b2⟩ | ⟨f, g, rfl, b1, b2, b3⟩
  · refine ⟨_, ps_raise hc tk (pmk_X h3 h4 h5 b2 hr h6 hg h1 pa hdb hst hpl), fun m F S σ H env er S' D s en h post => ?_⟩
    obtain ⟨⟨xs, S1⟩, q1, h⟩ := bind_some h
    dsimp only at h
    split at h
    case isFalse => cases h
    rename_i hl
    cases h
    refine ra m F S σ H env xs _ _ s en q1 fun m1 F1 vs H1 x1 s1 r1 => ?_
    match xs, hl, r1 with
    | [d], _, r1 =>
      obtain ⟨v, e1, e2⟩ := reps1 r1
      subst e1
      refine ⟨Nat.le_of_ble_eq_true rfl, fun a na => ⟨a, C, v, rfl, h3, b1, upd_same, fun dx ndx ne => ⟨rfl, dx, [(f, v)], upd_same, by rw [upd_ne ne, upd_same], by rw [upd_ne ne] at ndx; exact ndx, ?_⟩⟩⟩
      have ndx : H1 dx = none := by rw [upd_ne ne] at ndx; exact ndx
      have eq1 : upd (del (upd (upd (upd H1 a (exo a C none)) dx (exd dx [(f, v)])) a (exo a C (some dx))) a) dx (.xd [(f, v)]) = upd H1 dx (.xd [(f, v)]) := by
        funext b
        by_cases hb : b = dx
        · rw [hb, upd_same, upd_same]
        · rw [upd_ne hb, upd_ne hb]
          by_cases ha : b = a
          · rw [ha, del_same, na]
          · rw [del_ne ha, upd_ne ha, upd_ne hb, upd_ne ha]
      rw [eq1]
      obtain ⟨s2, x2⟩ := s1.frozen ndx (.xd [(f, v)])
      exact post m1 _ _ _ _ (x1.trans x2) s2 ⟨C, [v], h2, rfl, .inr ⟨dx, rfl, upd_same⟩, rfl, r1.mono x2⟩
  · refine ⟨_, ps_raise hc tk (pmk_X h3 h4 h5 b3 hr h6 hg h1 pa hdb hst hpl), fun m F S σ H env er S' D s en h post => ?_⟩
    obtain ⟨⟨xs, S1⟩, q1, h⟩ := bind_some h
    dsimp only at h
    split at h
    case isFalse => cases h
    rename_i hl
    cases h
    refine ra m F S σ H env xs _ _ s en q1 fun m1 F1 vs H1 x1 s1 r1 => ?_
    match xs, hl, r1 with
    | [d, d'], _, r1 =>
      obtain ⟨v, r', e1, e2, v', r'', e3, e4, e5⟩ := r1
      have e5 : r'' = [] := e5
      subst e5 e3 e1
      refine ⟨Nat.le_of_ble_eq_true rfl, fun a na => ⟨a, C, v, v', rfl, h3, b1, b2, upd_same, fun dx ndx ne => ⟨rfl, dx, [(g, v'), (f, v)], by rw [upd_ne (fun z => ne z.symm), upd_same], upd_same, by rw [upd_ne ne] at ndx; exact ndx, ?_⟩⟩⟩
      have ndx : H1 dx = none := by rw [upd_ne ne] at ndx; exact ndx
      have eq1 : upd (del (upd (upd (upd (upd H1 a (exo a C none)) dx (exd dx [(f, v)])) a (exo a C (some dx))) dx (exd dx [(g, v'), (f, v)])) a) dx (.xd [(g, v'), (f, v)]) = upd H1 dx (.xd [(g, v'), (f, v)]) := by
        funext b
        by_cases hb : b = dx
        · rw [hb, upd_same, upd_same]
        · rw [upd_ne hb, upd_ne hb]
          by_cases ha : b = a
          · rw [ha, del_same, na]
          · rw [del_ne ha, upd_ne hb, upd_ne ha, upd_ne hb, upd_ne ha]
      rw [eq1]
      obtain ⟨s2, x2⟩ := s1.frozen ndx (.xd [(g, v'), (f, v)])
      exact post m1 _ _ _ _ (x1.trans x2) s2 ⟨C, [v', v], h2, rfl, .inr ⟨dx, rfl, upd_same⟩, rfl, ⟨v', [v], rfl, e4.mono x2, v, [], rfl, e2.mono x2, rfl⟩⟩
end
end DL

namespace DL
open PySem PySem.Spec PyProof.Rows L2
/-! # Errors on their way -/
def xNo : FX := fun _ _ => none
def orX (a b : Option (Er × Sto)) : Option (Er × Sto) := match a with
  | some r => some r
  | none => b
theorem orX_some {a b : Option (Er × Sto)} {r : Er × Sto} (h : orX a b = some r) : a = some r ∨ b = some r := by
  cases a with
  | none => exact .inr h
  | some z => exact .inl h
section
variable {ct : CT} {X : Cx} {E : XK} {a b c e o : Expr} {es : List Expr} {fa fb fc f fo : FE} {fas : FA} {ga gb : FT} {pos apos p : Pos} {st : Stmt} {rest as bs : List Stmt} {f1 f2 : FS} {g g1 g2 : FX}
theorem xe_no : XE1 ct X E e xNo := ⟨_, pe_no, fun m F S σ H env er S' Q s en h post => by cases h⟩
theorem xs_no : XS1 ct X E st xNo := ⟨_, ps_never, fun m F S σ H env er S' Q s en h post => by cases h⟩
theorem xss_no {sts : List Stmt} : XSs ct X E sts xNo := ⟨_, pss_never, fun m F S σ H env er S' Q s en h post => by cases h⟩
/-! ## statements -/
def xSeq (f1 : FS) (g1 g2 : FX) : FX := fun env S => orX (g1 env S) ((f1 env S).bind fun p => match p.1 with
  | .nx env' => g2 env' p.2
  | _ => none)
theorem xss_cons (h1 : SS ct X st f1) (k1 : XS1 ct X E st g1) (k2 : XSs ct X E rest g2) : XSs ct X E (st :: rest) (xSeq f1 g1 g2) := by
  obtain ⟨ta, pa, ra⟩ := h1
  obtain ⟨tb, pb, rb⟩ := k1
  obtain ⟨tc, pc, rc⟩ := k2
  refine ⟨_, pss_cons (ps_or pa pb) pc, fun m F S σ H env er S' D s en h post => ?_⟩
  rcases orX_some h with h | h
  · exact .inr (rb m F S σ H env er S' _ s en h post)
  · obtain ⟨⟨x, S1⟩, h1, h⟩ := bind_some h
    cases x with
    | nx env1 => exact .inl (ra m F S σ H env _ S1 _ s en h1 fun m1 F1 σ1 H1 x1 s1 r1 => rc m1 F1 S1 σ1 H1 env1 er S' D s1 r1 h (post.ext x1))
    | rt d => cases h
    | bk env1 => cases h
    | ct env1 => cases h
theorem xss_one (k1 : XS1 ct X E st g1) : XSs ct X E [st] g1 := by
  obtain ⟨tb, pb, rb⟩ := k1
  exact ⟨_, pss_one pb, rb⟩
theorem xs_expr (k : XE1 ct X E e g) (hs : swapsWith e none pos.line X.env = pure false := by rfl) : XS1 ct X E (.Expr e pos) g := by
  obtain ⟨ta, pa, ra⟩ := k
  exact ⟨_, ps_expr pa hs, fun m F S σ H env er S' D s en h post => ra m F S σ H env er S' _ s en h post⟩
theorem xs_ret (k : XE1 ct X E e g) : XS1 ct X E (.Return (some e) pos) g := by
  obtain ⟨ta, pa, ra⟩ := k
  exact ⟨_, ps_ret pa, fun m F S σ H env er S' D s en h post => ra m F S σ H env er S' _ s en h post⟩
theorem xs_set {i : Nat} {x : Str} {pos' : Pos} (hN : X.N.Nodup) (hi : X.N[i]? = some x) (hx : Loc X.env.scope x) (k : XE1 ct X E e g) (hs : swapsWith e (some (.Name x pos')) pos.line X.env = pure false := by rfl) (hf : X.fn x = true ∨ X.env.scope.names.lookup x = some .local := by first | exact .inl rfl | exact .inr rfl | assumption) :
    XS1 ct X E (.Assign [.Name x pos'] e pos) g := by
  obtain ⟨ta, pa, ra⟩ := k
  exact ⟨_, ps_set hN hi hx pa hs hf, fun m F S σ H env er S' D s en h post => ra m F S σ H env er S' _ s en h post⟩
def xIf (t : FT) (g1 g2 : FX) : FX := fun env S => (t env S).bind fun p => if p.1 = true then g1 env p.2 else g2 env p.2
theorem xs_if (hc : ST ct X c ga) (k1 : XSs ct X E as g1) (k2 : XSs ct X E bs g2) : XS1 ct X E (.If c as bs pos) (xIf ga g1 g2) := by
  obtain ⟨tc, pc, rc⟩ := hc
  obtain ⟨ta, pa, ra⟩ := k1
  obtain ⟨tb, pb, rb⟩ := k2
  refine ⟨_, ps_if pc pa pb, fun m F S σ H env er S' D s en h post => ?_⟩
  obtain ⟨⟨x, S1⟩, h1, h⟩ := bind_some h
  refine rc m F S σ H env x S1 _ s en h1 fun m1 F1 H1 x1 s1 => ?_
  cases x with
  | true => exact iteT (ra m1 F1 S1 σ H1 env er S' _ s1 (en.mono x1) h (post.ext x1))
  | false => exact iteF (rb m1 F1 S1 σ H1 env er S' _ s1 (en.mono x1) h (post.ext x1))
/-! ## expressions -/
theorem xe_if (hc : ST ct X c ga) (k1 : XE1 ct X E a g1) (k2 : XE1 ct X E b g2) : XE1 ct X E (.IfExp c a b pos) (xIf ga g1 g2) := by
  obtain ⟨tc, pc, rc⟩ := hc
  obtain ⟨ta, pa, ra⟩ := k1
  obtain ⟨tb, pb, rb⟩ := k2
  refine ⟨_, pe_ifExp pc pa pb, fun m F S σ H env er S' Q s en h post => ?_⟩
  obtain ⟨⟨x, S1⟩, h1, h⟩ := bind_some h
  refine rc m F S σ H env x S1 _ s en h1 fun m1 F1 H1 x1 s1 => ?_
  cases x with
  | true => exact iteT (ra m1 F1 S1 σ H1 env er S' _ s1 (en.mono x1) h (post.ext x1))
  | false => exact iteF (rb m1 F1 S1 σ H1 env er S' _ s1 (en.mono x1) h (post.ext x1))
/-- an argument raises -/
def xCons (f : FE) (g gs : FX) : FX := fun env S => orX (g env S) ((f env S).bind fun p => gs env p.2)
theorem xa_nil : XA1 ct X E [] xNo := ⟨_, pa_nil, fun m F S σ H env er S' Q s en h post => by cases h⟩
theorem xa_cons (ha : SE ct X e f) (k1 : XE1 ct X E e g1) (k2 : XA1 ct X E es g2) (hs : starEach (e :: es) X.env = (false, eval e X.env) :: starEach es X.env := by rfl) : XA1 ct X E (e :: es) (xCons f g1 g2) := by
  obtain ⟨ta, pa, ra⟩ := ha
  obtain ⟨tb, pb, rb⟩ := k1
  obtain ⟨tc, pc, rc⟩ := k2
  refine ⟨_, pa_cons (pe_or pa pb) pc hs, fun m F S σ H env er S' Q s en h post => ?_⟩
  rcases orX_some h with h | h
  · exact .inr (rb m F S σ H env er S' _ s en h post)
  · obtain ⟨⟨x, S1⟩, h1, h⟩ := bind_some h
    exact .inl (ra m F S σ H env x S1 _ s en h1 fun m1 F1 v1 H1 x1 s1 r1 => rc m1 F1 S1 σ H1 env er S' _ s1 (en.mono x1) h (post.ext x1))
theorem xe_callTy {T : String} {x : Str} {r : List V → Hp → VK → Prop} (hc : CallR X (.type T) r) (hg : Gl X x) (hm : X.mg x = none) (hv : bootBuiltins x = some (.type T)) (k : XA1 ct X E (e :: es) g)
    (hn : x ≠ "__name__" := by decide) (hdb : (x == ("__debug__" : Str)) = false := by decide) (he : starEach (e :: es) X.env = (false, eval e X.env) :: starEach es X.env := by rfl) (hpl : (backTo pos (starEach es X.env)).any (·.1) = false := by rfl) :
    XE1 ct X E (.Call (.Name x p) (e :: es) [] pos) g := by
  obtain ⟨ta, pa, ra⟩ := k
  exact ⟨_, pe_callTy hc hg hm hv pa hn hdb he hpl, fun m F S σ H env er S' Q s en h post => ra m F S σ H env er S' _ s en h post⟩
end
/-! ## calls of what raises -/
section
variable {P : Program} {w : World} {K : PySem.W.Frag} {mg : Str → Option Value} {base : Heap} {ct : CT}
def CalleeX (P : Program) (w : World) (K : PySem.W.Frag) (mg : Str → Option Value) (base : Heap) (ct : CT) (k : Nat) (x : Str) (n : Nat) (g : XD) (kwb : KWB := []) : Prop :=
  ∃ (f : Addr) (fd : FuncData) (ps : List Str), mg x = some (.ref f) ∧ PySem.W.keepIn K (.ref f) = true ∧ (Binds K fd ps [] ∧ KwOk K fd ps 0 kwb) ∧ FnX P w K mg base k f fd ps (spX K ct n g)
theorem CalleeX.mono {j k n : Nat} {x : Str} {g : XD} {kwb : KWB} (c : CalleeX P w K mg base ct j x n g kwb) (h : j ≤ k) : CalleeX P w K mg base ct k x n g kwb := by
  obtain ⟨f, fd, ps, h1, h2, h3, h4⟩ := c
  exact ⟨f, fd, ps, h1, h2, h3, h4.mono h⟩
theorem calleeX_of {x : Str} {st : Stmt} {N ps : List Str} {k : Nat} {g : FX} {kwb : KWB} (d : DefAt K mg x st ps kwb) (S : FnScope N ps (defScope st))
    (hbody : ∀ (f : Addr) (cdv : Value) (A : Around) (outer : List Env) (s : Shared) (H : Hp) (E : XK), RoomG k (A.deeper (envOfC x (defScope st) s.heap.objs.size f cdv)) →
      XSs ct (cxOf (L2.CX P w) P w K mg base N x (defScope st) f cdv A outer s H E) E (defBody st) g) : CalleeX P w K mg base ct (k + 1) x ps.length (runX N.length g) kwb := by
  obtain ⟨f, fd, F, h1, h3⟩ := d
  exact ⟨f, fd, ps, h1, F.kp, h3, defX_ok F S (hbody f)⟩
def CalleeMX (P : Program) (w : World) (K : PySem.W.Frag) (mg : Str → Option Value) (base : Heap) (ct : CT) (k : Nat) (C : Addr) (x : Str) (n : Nat) (g : XD) (kwb : KWB := []) : Prop :=
  ∃ (f : Addr) (fd : FuncData) (ps : List Str), Meth K C x f ∧ (Binds K fd ps [] ∧ KwOk K fd ps 1 kwb) ∧ FnX P w K mg base k f fd ps (spX K ct n g)
theorem CalleeMX.mono {C : Addr} {j k n : Nat} {x : Str} {g : XD} {kwb : KWB} (c : CalleeMX P w K mg base ct j C x n g kwb) (h : j ≤ k) : CalleeMX P w K mg base ct k C x n g kwb := by
  obtain ⟨f, fd, ps, h1, h3, h4⟩ := c
  exact ⟨f, fd, ps, h1, h3, h4.mono h⟩
theorem calleeMX_of {C : Addr} {x qual : Str} {st : Stmt} {N ps : List Str} {k : Nat} {g : FX} {kwb : KWB} (d : MethAt K C x qual st ps kwb) (S : FnScope N ps (defScope st))
    (hbody : ∀ (f : Addr) (cdv : Value) (A : Around) (outer : List Env) (s : Shared) (H : Hp) (E : XK), RoomG k (A.deeper (envOfC qual (defScope st) s.heap.objs.size f cdv)) →
      XSs ct (cxOf (L2.CX P w) P w K mg base N qual (defScope st) f cdv A outer s H E) E (defBody st) g) : CalleeMX P w K mg base ct (k + 1) C x ps.length (runX N.length g) kwb := by
  obtain ⟨f, fd, F, h1, h3⟩ := d
  exact ⟨f, fd, ps, h1, h3, defX_ok F S (hbody f)⟩
end
/-- the context of a def's body lets out what is wished -/
theorem lets_def {P : Program} {w : World} {K : PySem.W.Frag} {mg : Str → Option Value} {base : Heap} {N : List Str} {qual : Str} {scope : Scope} {f : Addr} {cdv : Value} {A : Around} {outer : List Env} {s : Shared} {H : Hp} {E : XK} : Lets (cxOf (L2.CX P w) P w K mg base N qual scope f cdv A outer s H E) E := takes_of rfl rfl rfl rfl
theorem passes_def {P : Program} {w : World} {K : PySem.W.Frag} {mg : Str → Option Value} {base : Heap} {N : List Str} {qual : Str} {scope : Scope} {f : Addr} {cdv : Value} {A : Around} {outer : List Env} {s : Shared} {H : Hp} {E : XK} :
    PassesOwn (model P w) (cxOf (L2.CX P w) P w K mg base N qual scope f cdv A outer s H E).A (cxOf (L2.CX P w) P w K mg base N qual scope f cdv A outer s H E).env (cxOf (L2.CX P w) P w K mg base N qual scope f cdv A outer s H E).xe := passes_of (X := cxOf (L2.CX P w) P w K mg base N qual scope f cdv A outer s H E) rfl
section
variable {ct : CT} {X : Cx} {E : XK} {C : Addr} {c x : Str} {e o : Expr} {es : List Expr} {fo : FE} {fas : FA} {kws : List Keyword} {pos apos p : Pos} {k n : Nat} {g : XD} {kwb : KWB} {ks : List Str} {idx : List Nat}
def xCall (g : XD) (fas : FA) : FX := fun env S => (fas env S).bind fun p => g p.1 p.2
theorem xe_fn (M : CalleeX X.prog X.w X.K X.mg X.base ct k x n g kwb) (hr : RoomG k X.A) (tk : Lets X E) (hg : Gl X x) (ha : SA ct X (e :: es) fas) (hn : ∀ env S ds S', fas env S = some (ds, S') → ds.length = n) (hdb : (x == ("__debug__" : Str)) = false := by decide)
    (he : starEach (e :: es) X.env = (false, eval e X.env) :: starEach es X.env := by rfl) (hpl : (backTo pos (starEach es X.env)).any (·.1) = false := by rfl) : XE1 ct X E (.Call (.Name x p) (e :: es) [] pos) (xCall g fas) := by
  obtain ⟨f, fd, ps, h1, h2, h3, h4⟩ := M
  obtain ⟨tb, pb, rb⟩ := ha
  refine ⟨_, pe_callX h4 hr tk hg h1 h2 h3.1 .nil pb hdb he hpl, fun m F S σ H env er S' Q s en h post => ?_⟩
  obtain ⟨⟨xs, S1⟩, q1, h⟩ := bind_some h
  refine rb m F S σ H env xs S1 _ s en q1 fun m1 F1 vs H1 x1 s1 r1 => ?_
  rw [List.append_nil]
  exact ⟨by rw [← r1.length]; exact hn _ _ _ _ q1, m1, F1, S1, xs, er, S', s1, r1, h, post.ext x1⟩
def xCallK (g : XD) (idx : List Nat) (fks : FA) : FX := fun env S => (fks env S).bind fun r => g (kwG idx [] r.1) r.2
theorem xe_fnK (M : CalleeX X.prog X.w X.K X.mg X.base ct k x n g kwb) (hmem : (ks, idx) ∈ kwb) (hr : RoomG k X.A) (tk : Lets X E) (hg : Gl X x) (ha : SK ct X kws fas) (hn : ∀ env S ds S', fas env S = some (ds, S') → ds.length = ks.length)
    (hlen : ∀ zs : List V, zs.length = ks.length → (kwG idx [] zs).length = n) (hall : (backToKw pos (keywordEach kws X.env)).all (·.1.isSome) = true := by rfl) (hks : (backToKw pos (keywordEach kws X.env)).filterMap (·.1) = ks := by rfl) (hdb : (x == ("__debug__" : Str)) = false := by decide)
    (hpl : ((backTo pos (starEach [] X.env)).any (·.1) || (backToKw pos (keywordEach kws X.env)).any (·.1.isNone)) = false := by rfl) : XE1 ct X E (.Call (.Name x p) [] kws pos) (xCallK g idx fas) := by
  obtain ⟨f, fd, ps, h1, h2, bi, fn⟩ := M
  obtain ⟨tb, pb, rb⟩ := ha
  refine ⟨_, pe_callXK fn hr tk hg h1 h2 (bi.2 _ hmem) pb hall hks hdb hpl, fun m F S σ H env er S' Q s en h post => ?_⟩
  obtain ⟨⟨xs, S2⟩, h3, h⟩ := bind_some h
  refine rb m F S σ H env xs S2 _ s en h3 fun m2 F2 us H2 x2 s2 r2 => ?_
  have hl : us.length = ks.length := by rw [← r2.length, hn _ _ _ _ h3]
  exact ⟨hl, hlen us hl, m2, F2, S2, kwG idx [] xs, er, S', s2, Reps.kwG rfl r2, h, post.ext x2⟩
def xMeth (c x : Str) (g : XD) (fo : FE) (fas : FA) : FX := fun env S => (fo env S).bind fun p => (insOf c p.1 p.2).bind fun q => if hasF q.1 x = false then (fas env p.2).bind fun r => g (p.1 :: r.1) r.2 else none
theorem xe_meth {pl : Sem Bool} (kc : Klass X.K ct c C) (M : CalleeMX X.prog X.w X.K X.mg X.base ct k C x (n + 1) g kwb) (hr : RoomG k X.A) (tk : Lets X E) (ho : SE ct X o fo) (ha : SA ct X (e :: es) fas) (hn : ∀ env S ds S', fas env S = some (ds, S') → ds.length = n)
    (hst : starEach (e :: es) X.env = (false, eval e X.env) :: starEach es X.env := by rfl) (hpl : (backTo pos (starEach es X.env)).any (·.1) = false := by rfl)
    (ht : eval (.Call (.Attribute o x apos) (e :: es) [] pos) X.env = (eval o X.env >>= fun ov => standAt apos.atName >>= fun _ => holding [ov] (getMethod ov x pl) >>= fun q =>
      callWith pos q.1 q.2 (backTo pos (starEach (e :: es) X.env)) (backToKw pos (keywordEach [] X.env))) := by rfl) : XE1 ct X E (.Call (.Attribute o x apos) (e :: es) [] pos) (xMeth c x g fo fas) := by
  obtain ⟨f, fd, ps, me, bi, fn⟩ := M
  obtain ⟨ta, pa, ra⟩ := ho
  obtain ⟨tb, pb, rb⟩ := ha
  refine ⟨_, pe_methX pa kc.cls me fn hr tk bi.1 .nil pb hst hpl ht, fun m F S σ H env er S' Q s en h post => ?_⟩
  obtain ⟨⟨z, S1⟩, h1, h⟩ := bind_some h
  obtain ⟨⟨fs, ds⟩, h2, h⟩ := bind_some h
  dsimp only at h
  split at h
  case isFalse => cases h
  rename_i hh
  obtain ⟨⟨xs, S2⟩, h3, h⟩ := bind_some h
  refine ra m F S σ H env z S1 _ s en h1 fun m1 F1 v1 H1 x1 s1 r1 => ?_
  obtain ⟨a, dx, vs, e1, e2, e3, e4⟩ := insOf_rep kc s1 r1 h2
  refine ⟨a, dx, _, e1, e2, hasF_none hh, ?_⟩
  refine rb m1 F1 S1 σ H1 env xs S2 _ s1 (en.mono x1) h3 fun m2 F2 us H2 x2 s2 r2 => ?_
  rw [List.append_nil]
  exact ⟨by rw [List.length_cons, ← r2.length, hn _ _ _ _ h3], m2, F2, S2, z :: xs, er, S', s2, ⟨v1, us, rfl, r1.mono x2, r2⟩, h, post.ext (x1.trans x2)⟩
def xMethK (c x : Str) (g : XD) (idx : List Nat) (fo : FE) (fks : FA) : FX := fun env S => (fo env S).bind fun p => (insOf c p.1 p.2).bind fun q => if hasF q.1 x = false then (fks env p.2).bind fun r => g (kwG idx [p.1] r.1) r.2 else none
theorem xe_methK {pl : Sem Bool} (kc : Klass X.K ct c C) (M : CalleeMX X.prog X.w X.K X.mg X.base ct k C x n g kwb) (hmem : (ks, idx) ∈ kwb) (hr : RoomG k X.A) (tk : Lets X E) (ho : SE ct X o fo) (ha : SK ct X kws fas) (hn : ∀ env S ds S', fas env S = some (ds, S') → ds.length = ks.length)
    (hlen : ∀ (v : V) (zs : List V), zs.length = ks.length → (kwG idx [v] zs).length = n) (hall : (backToKw pos (keywordEach kws X.env)).all (·.1.isSome) = true := by rfl) (hks : (backToKw pos (keywordEach kws X.env)).filterMap (·.1) = ks := by rfl)
    (hpl : ((backTo pos (starEach [] X.env)).any (·.1) || (backToKw pos (keywordEach kws X.env)).any (·.1.isNone)) = false := by rfl)
    (ht : eval (.Call (.Attribute o x apos) [] kws pos) X.env = (eval o X.env >>= fun ov => standAt apos.atName >>= fun _ => holding [ov] (getMethod ov x pl) >>= fun q =>
      callWith pos q.1 q.2 (backTo pos (starEach [] X.env)) (backToKw pos (keywordEach kws X.env))) := by rfl) : XE1 ct X E (.Call (.Attribute o x apos) [] kws pos) (xMethK c x g idx fo fas) := by
  obtain ⟨f, fd, ps, me, bi, fn⟩ := M
  obtain ⟨ta, pa, ra⟩ := ho
  obtain ⟨tb, pb, rb⟩ := ha
  refine ⟨_, pe_methXK pa kc.cls me fn hr tk (bi.2 _ hmem) pb hall hks hpl ht, fun m F S σ H env er S' Q s en h post => ?_⟩
  obtain ⟨⟨z, S1⟩, h1, h⟩ := bind_some h
  obtain ⟨⟨fs, ds⟩, h2, h⟩ := bind_some h
  dsimp only at h
  split at h
  case isFalse => cases h
  rename_i hh
  obtain ⟨⟨xs, S2⟩, h3, h⟩ := bind_some h
  refine ra m F S σ H env z S1 _ s en h1 fun m1 F1 v1 H1 x1 s1 r1 => ?_
  obtain ⟨a, dx, vs, e1, e2, e3, e4⟩ := insOf_rep kc s1 r1 h2
  refine ⟨a, dx, _, e1, e2, hasF_none hh, ?_⟩
  refine rb m1 F1 S1 σ H1 env xs S2 _ s1 (en.mono x1) h3 fun m2 F2 us H2 x2 s2 r2 => ?_
  have hl : us.length = ks.length := by rw [← r2.length, hn _ _ _ _ h3]
  exact ⟨hl, hlen v1 us hl, m2, F2, S2, kwG idx [z] xs, er, S', s2, Reps.kwG (Reps.mk1 (r1.mono x2)) r2, h, post.ext (x1.trans x2)⟩
end
/-! ## steps -/
section
variable {env : DEnv} {S : Sto} {P : Er → Sto → Prop} {t : FT} {g g1 g2 : FX} {f1 : FS}
theorem wx_If : R (xIf t g1 g2 env S) P ↔ R (t env S) fun b S1 => (b = true → R (g1 env S1) P) ∧ (b = false → R (g2 env S1) P) := by
  unfold xIf
  simp only [R_bind]
  refine ⟨fun ⟨b, S1, e, q⟩ => ⟨b, S1, e, ?_⟩, fun ⟨b, S1, e, q⟩ => ⟨b, S1, e, ?_⟩⟩
  · cases b with
    | false => exact ⟨fun z => (by cases z), fun _ => (by simpa using q)⟩
    | true => exact ⟨fun _ => (by simpa using q), fun z => (by cases z)⟩
  · cases b
    · simpa using q.2 rfl
    · simpa using q.1 rfl
theorem wx_seqR {env' : DEnv} {S1 : Sto} (h : f1 env S = some (.nx env', S1)) (hn : g1 env S = none) : R (xSeq f1 g1 g2 env S) P ↔ R (g2 env' S1) P := by
  unfold xSeq orX
  rw [hn, h]
  rfl
theorem wx_seqL (h : R (g1 env S) P) : R (xSeq f1 g1 g2 env S) P := by
  obtain ⟨a, S1, e, q⟩ := h
  refine ⟨a, S1, ?_, q⟩
  unfold xSeq orX
  rw [e]
theorem wx_seqN : R (xSeq f1 xNo g2 env S) P ↔ R (f1 env S) fun fl S1 => match fl with
  | .nx env' => R (g2 env' S1) P
  | _ => False := by
  show R ((f1 env S).bind _) P ↔ _
  simp only [R_bind]
  refine ⟨fun ⟨b, S1, e, q⟩ => ⟨b, S1, e, ?_⟩, fun ⟨b, S1, e, q⟩ => ⟨b, S1, e, ?_⟩⟩
  · cases b <;> first | exact q | exact (R_none.mp q)
  · cases b <;> first | exact q | exact q.elim
theorem wx_Call {g : XD} {fas : FA} : R (xCall g fas env S) P ↔ R (fas env S) fun ds S1 => R (g ds S1) P := by unfold xCall; simp only [R_bind]
theorem wx_Raise {c : Str} {fs : List Str} {fas : FA} : R (xRaise c fs fas env S) P ↔ R (fas env S) fun ds S1 => ds.length = fs.length ∧ P (c, fs, ds.reverse) S1 := by
  unfold xRaise
  simp only [R_bind]
  refine ⟨fun ⟨b, S1, e, q⟩ => ⟨b, S1, e, ?_⟩, fun ⟨b, S1, e, q⟩ => ⟨b, S1, e, ?_⟩⟩
  · dsimp only at q ⊢
    by_cases h : b.length = fs.length
    · rw [if_pos h] at q
      exact ⟨h, R_some.mp q⟩
    · rw [if_neg h] at q
      exact (R_none.mp q).elim
  · dsimp only at q ⊢
    rw [if_pos q.1]
    exact R_some.mpr q.2
theorem wx_Run {n : Nat} {ds : List D} : R (runX n g ds S) P ↔ R (g (ds.map some ++ List.replicate (n - ds.length) none) S) P := Iff.rfl
end
end DL

namespace DL
open PySem PySem.Spec PyProof.Rows L2
/-! # Errors at hand: isinstance, fields -/
section
open PySem.W PySem.Calls
variable {prog : Program} {w : World} {A : Around} {Ev : Value → Shared → Prop} {s : Shared} {K : PySem.W.Frag} {x D : Addr} {ox : Obj} {od : Option Obj}
theorem ex_class {Q : Option Value → Shared → Prop} (C : ExcC K D) (kin : K.In s.heap) (I : PySem.W.InstAt s.heap x ox D od) (h : Q (some (.ref D)) { s with toks := s.toks + 1 }) : wpAny (model prog w) A (getAttr? (.ref x) "__class__") Q Ev s := by
  have isC : (clsIn K D).isSome = true := by
    obtain ⟨cd, hc, _⟩ := any_some C.hd
    rw [hc]
    rfl
  have found : findObj K D od "__class__" = some (.bind (.builtin "getset_descriptor.__get__") (.builtin "object.__class__")) := by
    cases od with
    | none => exact findObj_dataN isC C.ha C.hn C.ht
    | some o => exact findObj_data isC C.ha C.hn C.ht
  obtain ⟨hp, gn, dr, tk, os⟩ := s
  have ty := I.type (M := model prog w)
  have exc_ : Looks (model prog w) hp (isInstance (.ref x) (.type "BaseException")) true := ty.andThen (looks_subIn kin C.hs)
  have other : (onTheHeap (Value.ref D) && Value.builtin "BaseException.__getattribute__" == Value.builtin "object.__getattribute__") = false := by
    rw [show (Value.builtin "BaseException.__getattribute__" == Value.builtin "object.__getattribute__") = false from by decide +kernel]
    rfl
  unfold getAttr? getAttrBy? getAttrBy
  refine wpAny_bind (wpAny_mkText (wpAny_bind (wpAny_attempt (wpAny_holding (wpAny_bind (ty.at (wpAny_bind ((looks_findIn kin C.hg).at ?_))))))))
  show wpAny _ _ (if (onTheHeap (Value.ref D) && Value.builtin "BaseException.__getattribute__" == Value.builtin "object.__getattribute__") = true then _ else _) _ _ _
  rw [other, if_neg Bool.false_ne_true]
  unfold getAttrByItsOwn hookBefore
  refine wpAny_bind ?_
  rw [if_pos (show onTheHeap (Value.ref D) = true from rfl)]
  refine (looks_findIn kin C.hk).at (wpAny_bind (wpAny_attempt (wpAny_holding ?_)))
  unfold callGetattribute
  rw [show (false && onTheHeap (Value.builtin "BaseException.__getattribute__")) = false from rfl, if_neg Bool.false_ne_true]
  unfold boundAndCalled
  rw [PySem.F.excAttr_ValueError.ga.bind (.ref x)]
  refine wpAny_bind (wpAny_pure ?_)
  show wpAny _ _ (call (.builtin "BaseException.__getattribute__") [.ref x, .str "__class__" tk]) _ _ _
  refine wpAny_call (codeAny_call_builtin PySem.F.excAttr_ValueError.ga.plain PySem.F.entry_bexc_ga ?_)
  refine @check_slot (model prog w) _ _ ⟨hp, gn, dr, tk + 1, os⟩ "BaseException.__getattribute__" "BaseException" "__getattribute__" (.ref x) [.str "__class__" tk] [] _ (by decide +kernel) (by decide +kernel) exc_ (PySem.F.args_bexc_ga (.ref x) (.str "__class__" tk)) ?_
  unfold Builtin.«object.__getattribute__»
  refine wpAny_bind (wpAny_of_eq (a := ((Value.ref x : Value), [Value.str "__class__" tk])) (by first | rfl | (simp only [slotArgs]; rfl)) ?_)
  refine wpAny_bind (wpAny_pure (wpAny_bind (ty.at (wpAny_bind ((looks_find kin I found).at ?_)))))
  show wpAny _ _ (holding [Value.builtin "object.__class__"] (call (.builtin "getset_descriptor.__get__") [.builtin "object.__class__", .ref x, .ref D]) >>= ret) _ _ _
  refine wpAny_bind (wpAny_holding (wpAny_call (class_get (s := ⟨hp, gn, dr, tk + 1, os⟩) kin I C.hm (wpAny_pure ?_))))
  show wpAny _ _ (handedOut (.ref D)) _ _ _
  rw [handedOut_of (v := .ref D) rfl]
  first
    | exact wpAny_pure (wpAny_pure h)
    | exact wpAny_pure h
    | exact wpAny_pure (wpAny_bind (wpAny_pure (wpAny_pure h)))
theorem ex_kit (C : ExcC K D) : KitX K (.ref x) (.ref D) (fun h => ∃ ox od, PySem.W.InstAt h x ox D od) where
  ty := fun _ _ _ ⟨_, _, I⟩ => I.type
  it := fun _ _ kin _ => by
    obtain ⟨cd, hc, _⟩ := any_some C.hd
    unfold clsIn at hc
    split at hc
    · rename_i _ _ _ _ lk
      intro A' Q' E' s' k q
      unfold isType loadHead
      exact wpAny_bind (wpAny_loadPart (k _ _ (kin _ _ lk)) (wpAny_pure q))
    · cases hc
  ne := fun h tp dd its n sl kin htp => by
    obtain ⟨cd, hc, _⟩ := any_some C.hd
    refine Bool.eq_false_iff.mpr fun q => ?_
    have e : D = tp := Value.ref.inj (beq_iff_eq.mp q)
    rw [← e] at htp
    unfold clsIn at hc
    split at hc
    · rename_i _ _ _ _ lk
      have z := (kin _ _ lk).symm.trans htp
      cases z
    · cases hc
  ca := fun kin ⟨_, _, I⟩ k => ex_class C kin I k
end
/-- an error as it stands -/
def ExAt (H : Hp) (a D : Addr) (dx : Option Addr) : Prop := H a = some (exk a D dx) ∧ (dx = none ∨ ∃ d fs, dx = some d ∧ H d = some (.xd fs))
theorem exk_at {P : Program} {w : World} {H : Hp} {h : Heap} {a D : Addr} {dx : Option Addr} (hok : HOk P w H h) (e : ExAt H a D dx) : ∃ ox od, PySem.W.InstAt h a ox D od := by
  have x : ObjOk P w H h a (.ext fun h => ∃ o vs, h.get? a = some o ∧ o.cls = .ref D ∧ o.dict = dx ∧ o.data = .fields vs) := hok a _ e.1
  obtain ⟨⟨o, vs, h1, h2, h3, h4⟩, _⟩ := x
  have no : PySem.W.notCls o = true := by unfold PySem.W.notCls; rw [h4]
  rcases e.2 with z | ⟨d, fs, z, hd⟩
  · exact ⟨o, none, h1, h2, no, by rw [h3, z]; trivial⟩
  · have y : ObjOk P w H h d (.xd fs) := hok d _ hd
    obtain ⟨mA, ⟨od, _, _, q, _⟩, _⟩ := y
    exact ⟨o, some od, h1, h2, no, by rw [h3, z]; exact q⟩
/-- isinstance of an error at hand -/
def rIsX (K : PySem.W.Frag) : List V → Hp → VK → Prop := fun xs H Q => ∃ (a D : Addr) (dx : Option Addr) (c : V) (cv : Value) (b : Bool), xs = [.ref a, c] ∧ ExAt H a D dx ∧ ExcC K D ∧ (∀ u, RelV c u → u = cv) ∧ PySem.W.kitOne K (.ref D) cv = some b ∧ Q (.bl b) H
theorem call_isX {X : Cx} : CallR X (.builtin "isinstance") (rIsX X.K) := by
  intro pins s σ H xs us Q I r h
  obtain ⟨a, D, dx, c, cv, b, rfl, ea, C, hcv, e, q⟩ := h
  cases r with
  | cons rx rr =>
    cases rr with
    | cons rt rr =>
      cases rr
      cases rx
      have ec := hcv _ rt
      subst ec
      exact PySem.W.kia_one (ex_kit C) I.kIn (exk_at I.hok ea) e (fun z => nomatch z) fun tk => ⟨.bl b, H, I.kept (t' := tk) fun _ _ z => z, rfl, q⟩
/-- e.f -/
def tXfk (K : PySem.W.Frag) (f : Str) (te : TE) : TE := fun σ H Q => te σ H fun x H1 => ∃ (a D d : Addr) (fs : List (Str × V)) (v : V), x = .ref a ∧ H1 a = some (exk a D (some d)) ∧ H1 d = some (.xd fs) ∧ XfC K D ∧ PySem.W.findIn K (.ref D) f = some none ∧ fs.lookup f = some v ∧ Q v H1
theorem pe_xfk {X : Cx} {e : Expr} {te : TE} {pos : Pos} {f : Str} (he : PE X e te) (hb : attributeBase e f X.env (eval e X.env) = eval e X.env := by rfl) : PE X (.Attribute e f pos) (tXfk X.K f te) := by
  refine ⟨fun pins s σ H Q I h => attr_of hb (thn (he.run pins s σ H _ I h) fun u s1 ⟨x, H1, I1, rx, a, D, d, fs, v, ex, ea, ed, T, hno, l, q⟩ => ?_)⟩
  subst ex
  have rx : u = Value.ref a := rx
  subst rx
  have x1 : ObjOk X.prog X.w H1 s1.heap a (.ext fun h => ∃ o vs, h.get? a = some o ∧ o.cls = .ref D ∧ o.dict = some d ∧ o.data = .fields vs) := I1.hok a _ ea
  obtain ⟨⟨o, vs, h1, h2, h3, h4⟩, _⟩ := x1
  have x2 : ObjOk X.prog X.w H1 s1.heap d (.xd fs) := I1.hok d _ ed
  obtain ⟨mA, hns, hr⟩ := x2
  obtain ⟨od, ho, hl⟩ := lookIn_ns hns
  obtain ⟨u2, hu, ru⟩ := RelO.some_of (v := v) (o := mA f) (by rw [← l]; exact hr f)
  have J : PySem.W.InstAt s1.heap a o D (some od) := ⟨h1, h2, by unfold PySem.W.notCls; rw [h4], by rw [h3]; exact ho⟩
  exact HandSPX.exc_get I1.kIn J T.ga T.gg T.exC (PySem.W.findObj_own T.hdC hno rfl (by rw [hl, hu])) (handed_of ru) ⟨v, H1, I1.tok _, ru, q⟩
end DL

namespace DL
open PySem PySem.Spec PyProof.Rows L2
/-! # Data rules for errors at hand -/
/-- to which of the errors' classes in tab the class named x belongs -/
def IsTab (K : PySem.W.Frag) (mg : Str → Option Value) (ct : CT) (x : Str) (tab : List (Str × Bool)) : Prop := ∃ D, mg x = some (.ref D) ∧ ∀ p ∈ tab, ∃ C, ct p.1 = some C ∧ ExcC K C ∧ PySem.W.kitOne K (.ref C) (.ref D) = some p.2
def fIsX (tab : List (Str × Bool)) (fe : FE) : FE := fun env S => (fe env S).bind fun p => match p.1 with
  | .exc c _ _ => (tab.lookup c).map fun b => (.bl b, p.2)
  | _ => none
theorem lookup_mem' {α : Type} {c : Str} {b : α} : ∀ {l : List (Str × α)}, l.lookup c = some b → (c, b) ∈ l
  | (k, v) :: r, h => by
    unfold List.lookup at h
    by_cases e : c == k
    · rw [e] at h
      cases h
      rw [beq_iff_eq.mp e]
      exact List.mem_cons_self ..
    · have e' : (c == k) = false := by simpa using e
      rw [e'] at h
      exact List.mem_cons_of_mem _ (lookup_mem' h)
section
variable {ct : CT} {X : Cx} {c x f : Str} {a b e o k : Expr} {fe fo fa fb : FE} {fas : FA} {pos apos cpos p q : Pos} {n : Nat} {env : DEnv} {S : Sto} {P : D → Sto → Prop} {tab : List (Str × Bool)}
theorem exAt_rep {m : List Addr} {F H : Hp} {S : Sto} {c : Str} {fs : List Str} {ds : List D} {v : V} (s : Sim X.K ct m F S H) (r : Rep X.K ct m F (.exc c fs ds) v) : ∃ a C dx, v = .ref a ∧ ct c = some C ∧ ExAt H a C dx := by
  obtain ⟨a, C, dx, vs, e1, e2, e3, e4, e5, e6⟩ := r
  refine ⟨a, C, dx, e1, e2, s.same _ _ e3, ?_⟩
  rcases e4 with ⟨z, _⟩ | ⟨d, z, zd⟩
  · exact .inl z
  · exact .inr ⟨d, _, z, s.same _ _ zd⟩
theorem se_isX (T : IsTab X.K X.mg ct x tab) (hg : Gl X "isinstance") (hm : X.mg "isinstance" = none) (he : SE ct X e fe) (hg2 : Gl X x) (hd2 : (x == ("__debug__" : Str)) = false := by decide)
    (hs : starEach [e, .Name x q] X.env = (false, eval e X.env) :: starEach [.Name x q] X.env := by rfl) (hs2 : starEach [.Name x q] X.env = (false, eval (.Name x q) X.env) :: starEach [] X.env := by rfl)
    (hpl : (backTo pos (starEach [.Name x q] X.env)).any (·.1) = false := by rfl) : SE ct X (.Call (.Name "isinstance" p) [e, .Name x q] [] pos) (fIsX tab fe) := by
  obtain ⟨D, hm2, all⟩ := T
  obtain ⟨ta, pa, ra⟩ := he
  refine ⟨_, pe_callB (id := "isinstance") call_isX hg hm (by decide +kernel) (pa_cons pa (pa_cons (pe_glob (v := .ref D) hg2 hm2 rfl hd2) pa_nil hs2) hs) (by decide) (by decide) hs hpl, fun m F S σ H env d S' Q s en h p => ?_⟩
  obtain ⟨⟨z, S1⟩, h1, h⟩ := bind_some h
  cases z with
  | exc c fs ds =>
    obtain ⟨b, h2, h3⟩ := map_some (show (tab.lookup c).map _ = _ from h)
    cases h3
    refine ra m F S σ H env _ S1 _ s en h1 fun m1 F1 v1 H1 x1 s1 r1 => ?_
    obtain ⟨a, C, dx, e1, e2, e3⟩ := exAt_rep s1 r1
    obtain ⟨C', q1, q2, q3⟩ := all _ (lookup_mem' h2)
    rw [e2] at q1
    cases q1
    exact ⟨a, C, dx, .ref D, .ref D, b, by rw [e1], e3, q2, fun u r => r, q3, (p.ext x1).now s1 rfl⟩
  | _ => cases h
/-- the field f of an error -/
def XfTab (K : PySem.W.Frag) (ct : CT) (f : Str) (cs : List Str) : Prop := ∀ c ∈ cs, ∃ C, ct c = some C ∧ XfC K C ∧ PySem.W.findIn K (.ref C) f = some none
def fXf (cs : List Str) (f : Str) (fe : FE) : FE := fun env S => (fe env S).bind fun p => match p.1 with
  | .exc c fs ds => if c ∈ cs ∧ fs.length = ds.length then (getF fs ds f).map fun d => (d, p.2) else none
  | _ => none
theorem se_xf {cs : List Str} (T : XfTab X.K ct f cs) (he : SE ct X e fe) (hb : attributeBase e f X.env (eval e X.env) = eval e X.env := by rfl) : SE ct X (.Attribute e f pos) (fXf cs f fe) := by
  obtain ⟨ta, pa, ra⟩ := he
  refine ⟨_, pe_xfk pa hb, fun m F S σ H env d S' Q s en h p => ?_⟩
  obtain ⟨⟨z, S1⟩, h1, h⟩ := bind_some h
  cases z with
  | exc c fs ds =>
    dsimp only at h
    split at h
    case isFalse => cases h
    rename_i hc
    obtain ⟨y, h2, h3⟩ := map_some h
    cases h3
    refine ra m F S σ H env _ _ _ s en h1 fun m1 F1 v1 H1 x1 s1 r1 => ?_
    obtain ⟨a, C, dx, vs, e1, e2, e3, e4, e5, e6⟩ := r1
    obtain ⟨C', q1, q2, q3⟩ := T c hc.1
    rw [e2] at q1
    cases q1
    obtain ⟨v, q4, q5⟩ := getF_rep e6 h2
    rcases e4 with ⟨_, z⟩ | ⟨dd, z, zd⟩
    · subst z
      cases h2
    · subst z
      exact ⟨a, C, dd, _, v, e1, s1.same _ _ e3, s1.same _ _ zd, q2, q3, q4, (p.ext x1).now s1 q5⟩
  | _ => cases h
/-! ## xs.count(v), xs.index(v) of flat items -/
def rCntF (K : PySem.W.Frag) : V → List V → Hp → VK → Prop := fun x xs H Q => ∃ (l : Addr) (ys : List V) (y : V), x = .ref l ∧ xs = [y] ∧ SqL K H l ys ∧ flatV y = true ∧ ys.all flatV = true ∧ Q (.int (ys.countP fun z => eqV z y : Nat)) H
theorem countP_eqU {y : V} : ∀ {ys : List V} {us : List Value}, Vals ys us → ys.all flatV = true → us.countP (eqU y) = ys.countP fun z => eqV z y
  | _, _, .nil, _ => rfl
  | _, _, .cons r t, f => by
    simp only [List.all_cons, Bool.and_eq_true] at f
    rw [List.countP_cons, List.countP_cons, countP_eqU t f.2, eqU_of r f.1]
theorem mt_countF : MtR X "list.count" (rCntF X.K) := by
  intro pins s σ H x xs v us Q I rx rxs h
  obtain ⟨l, ys, y, rfl, rfl, hs, fy, fys, q⟩ := h
  cases rx
  obtain ⟨u, rfl, ru⟩ := vals1 rxs
  obtain ⟨its, rv, ⟨⟨cls, dd, data, sl⟩, k, ho, hc, hdn, hd⟩, hlen⟩ := I.list hs
  simp only at hc hd
  subst hc hd
  refine call_meets PySem.F.slot_list_count ⟨_, ho, rfl⟩ PySem.F.entry_list_count (PySem.F.args_list_count_2 _ _) (SeqAt.list_countAt l its.toArray k dd sl u (eqU y)) ⟨ho, fun z hz => mem_eqAt ru fy rv fys z (by simpa using hz), ?_⟩
  refine ⟨.int (ys.countP fun z => eqV z y : Nat), H, I.tok _, ⟨s.toks, ?_⟩, q⟩
  show Value.int ((its.toArray.toList.countP (eqU y) : Nat) : Int) s.toks = _
  rw [show its.toArray.toList = its from rfl, countP_eqU rv fys]
def fCount (fo fe : FE) : FE := fun env S => (fo env S).bind fun p => match p.1 with
  | .lst ds => (fe env p.2).bind fun q => if flatD q.1 = true ∧ ds.all flatD = true then some (.int (ds.countP fun z => eqF z q.1 : Nat), q.2) else none
  | _ => none
theorem countP_vOf {y : D} (hy : flatD y = true) : ∀ {ds : List D}, ds.all flatD = true → (ds.map vOf).countP (fun z => eqV z (vOf y)) = ds.countP fun z => eqF z y
  | [], _ => rfl
  | d :: ds, h => by
    simp only [List.all_cons, Bool.and_eq_true] at h
    rw [List.map_cons, List.countP_cons, List.countP_cons, countP_vOf hy h.2, eqV_eqF h.1 hy]
theorem se_count (ho : SE ct X o fo) (he : SE ct X e fe) (hbase : attributeBase o "count" X.env (eval o X.env) = eval o X.env := by rfl)
    (hfew : ((backTo cpos (starEach [e] X.env)).all (fun x => !x.1) && (backToKw cpos (keywordEach [] X.env)).all (fun x => x.1.isSome) && decide (([e] : List Expr).length + ([] : List Keyword).length + (if ([] : List Keyword).isEmpty then 0 else 1) < 30)) = true := by rfl)
    (hline : (apos.endLine == cpos.line) = true := by rfl) (hs : starEach [e] X.env = (false, eval e X.env) :: starEach [] X.env := by rfl) (hplain : (backTo cpos (starEach [] X.env)).any (·.1) = false := by rfl) : SE ct X (.Call (.Attribute o "count" apos) [e] [] cpos) (fCount fo fe) := by
  obtain ⟨ta, pa, ra⟩ := ho
  obtain ⟨tb, pb, rb⟩ := he
  refine ⟨_, pe_bm PySem.F.plainAttrs_list PySem.F.slot_list_count PySem.F.type_list_count mt_countF pa (pa_cons pb pa_nil hs) hbase hfew hline hs hplain, fun m F S σ H env d S' Q s en h p => ?_⟩
  obtain ⟨⟨z, S1⟩, h1, h⟩ := bind_some h
  cases z with
  | lst ds =>
    obtain ⟨⟨y, S2⟩, h2, h⟩ := bind_some h
    dsimp only at h
    split at h
    case isFalse => cases h
    rename_i hf
    cases h
    refine ra m F S σ H env _ S1 _ s en h1 fun m1 F1 v1 H1 x1 s1 r1 => ?_
    obtain ⟨w, vs, e1, e2, e3⟩ := r1
    subst e1
    refine ⟨.inl ⟨rfl, _, SqL.of (s1.same _ _ e2)⟩, ?_⟩
    refine rb m1 F1 S1 σ H1 env y _ _ s1 (en.mono x1) h2 fun m2 F2 v2 H2 x2 s2 r2 => ?_
    obtain ⟨q1, q2⟩ := r2.flat hf.1
    obtain ⟨q3, q4⟩ := e3.flat hf.2
    refine ⟨w, vs, v2, rfl, rfl, SqL.of (s2.same _ _ (x2.same _ _ e2)), q2, q4, ?_⟩
    rw [q1, q3, countP_vOf hf.1 hf.2]
    exact (p.ext (x1.trans x2)).now s2 rfl
  | _ => cases h
def fIndex (fo fe : FE) : FE := fun env S => (fo env S).bind fun p => match p.1 with
  | .lst ds => (fe env p.2).bind fun q => if flatD q.1 = true ∧ ds.all flatD = true then (ds.findIdx? fun z => eqF z q.1).map fun j => (.int (j : Nat), q.2) else none
  | _ => none
theorem se_index (ho : SE ct X o fo) (he : SE ct X e fe) (hbase : attributeBase o "index" X.env (eval o X.env) = eval o X.env := by rfl)
    (hfew : ((backTo cpos (starEach [e] X.env)).all (fun x => !x.1) && (backToKw cpos (keywordEach [] X.env)).all (fun x => x.1.isSome) && decide (([e] : List Expr).length + ([] : List Keyword).length + (if ([] : List Keyword).isEmpty then 0 else 1) < 30)) = true := by rfl)
    (hline : (apos.endLine == cpos.line) = true := by rfl) (hs : starEach [e] X.env = (false, eval e X.env) :: starEach [] X.env := by rfl) (hplain : (backTo cpos (starEach [] X.env)).any (·.1) = false := by rfl) : SE ct X (.Call (.Attribute o "index" apos) [e] [] cpos) (fIndex fo fe) := by
  obtain ⟨ta, pa, ra⟩ := ho
  obtain ⟨tb, pb, rb⟩ := he
  refine ⟨_, pe_bm PySem.F.plainAttrs_list PySem.F.slot_list_index PySem.F.type_list_index mt_index pa (pa_cons pb pa_nil hs) hbase hfew hline hs hplain, fun m F S σ H env d S' Q s en h p => ?_⟩
  obtain ⟨⟨z, S1⟩, h1, h⟩ := bind_some h
  cases z with
  | lst ds =>
    obtain ⟨⟨y, S2⟩, h2, h⟩ := bind_some h
    dsimp only at h
    split at h
    case isFalse => cases h
    rename_i hf
    obtain ⟨j, h3, h4⟩ := map_some h
    cases h4
    refine ra m F S σ H env _ S1 _ s en h1 fun m1 F1 v1 H1 x1 s1 r1 => ?_
    obtain ⟨w, vs, e1, e2, e3⟩ := r1
    subst e1
    refine ⟨.inl ⟨rfl, _, SqL.of (s1.same _ _ e2)⟩, ?_⟩
    refine rb m1 F1 S1 σ H1 env y _ _ s1 (en.mono x1) h2 fun m2 F2 v2 H2 x2 s2 r2 => ?_
    obtain ⟨q1, q2⟩ := r2.flat hf.1
    obtain ⟨q3, q4⟩ := e3.flat hf.2
    obtain ⟨hj, hyes, hno⟩ := List.findIdx?_eq_some_iff_getElem.mp h3
    have fl : ∀ (i : Nat) (hi : i < ds.length), eqV (vOf ds[i]) v2 = eqF ds[i] y := fun i hi => by
      rw [q1]
      exact eqV_eqF (List.all_eq_true.mp hf.2 _ (List.getElem_mem hi)) hf.1
    refine ⟨w, vs, v2, j, vOf ds[j], rfl, rfl, SqL.of (s2.same _ _ (x2.same _ _ e2)), q2, q4, by rw [q3]; simp [hj], by rw [fl j hj]; exact hyes, fun i z' hi hz => ?_, (p.ext (x1.trans x2)).now s2 rfl⟩
    have hil : i < ds.length := Nat.lt_trans hi hj
    rw [q3, List.getElem?_map, List.getElem?_eq_getElem hil] at hz
    cases hz
    rw [fl i hil]
    have := hno i hi
    simpa using this
  | _ => cases h
end
/-! # Defs that may be called while an error is being handled -/
structure RoomQ (k : Nat) (A : Around) : Prop where
  dp : A.depth + 3 * k + 5 < recursionLimit
  un : A.units + 16 * k + 200 < cLine
  gd : A.guards = some []
theorem RoomQ.mono {j k : Nat} {A : Around} (r : RoomQ k A) (h : j ≤ k) : RoomQ j A := ⟨by have := r.dp; omega, by have := r.un; omega, r.gd⟩
theorem RoomQ.deeper {k : Nat} {A : Around} (r : RoomQ (k + 1) A) (env : Env) : RoomQ k (A.deeper env) := ⟨by have := r.dp; show A.depth + 1 + 3 * k + 5 < _; omega, by have := r.un; show A.units + 3 + 16 * k + 200 < _; omega, r.gd⟩
theorem RoomQ.units {k : Nat} {A : Around} (r : RoomQ k A) : A.units + 64 < cLine := by have := r.un; omega
theorem RoomG.q {k : Nat} {A : Around} (r : RoomG k A) : RoomQ k A := ⟨r.room.dp, r.room.un, r.gd⟩
theorem RoomQ.mark {k : Nat} {A : Around} (r : RoomQ k A) (o : Option Value) : RoomQ k (A.mark o) := ⟨r.dp, r.un, r.gd⟩
structure FnQ (P : Program) (w : World) (K : PySem.W.Frag) (mg : Str → Option Value) (base : Heap) (k : Nat) (f : Addr) (fd : FuncData) (ps : List Str) (sp : Sp) : Prop where
  len : ∀ vs H Q E, sp vs H Q E → vs.length = ps.length
  run : ∀ (A : Around) (outer : List Env) (s : Shared) (H : Hp) (args : Args) (us : List Value) (vs : List V) (Q : VK) (E : XK), RoomQ k A → Env0 P w K mg base A outer s H →
    BindsTo s fd args (ps.zip us) → Vals vs us → sp vs H Q E → codeAny (model P w) A (.call (.ref f) args) (CR CX0 outer P w H s Q E) s
abbrev cxQ (P : Program) (w : World) (K : PySem.W.Frag) (mg : Str → Option Value) (base : Heap) (N : List Str) (qual : Str) (scope : Scope) (f : Addr) (cd : Value) (A : Around) (outer : List Env) (s : Shared) (H : Hp) (E : XK) : Cx :=
  { (cxOf CX0 P w K mg base N qual scope f cd A outer s H E).nox with calm := false }
theorem inv_startQ {P : Program} {w : World} {K : PySem.W.Frag} {mg : Str → Option Value} {base : Heap} {N ps : List Str} {qual : Str} {scope : Scope} {f : Addr} {cd : Value} {A : Around} {outer : List Env} {s s1 : Shared} {H : Hp} {E : XK} {us : List Value} {vs : List V}
    (S : FnScope N ps scope) (e0 : Env0 P w K mg base A outer s H) (hl : vs.length = ps.length) (r : Vals vs us)
    (x : InCallC s s.heap.objs.size (bindL (envOfC qual scope s.heap.objs.size f cd).kindOf (ps.zip us) fun _ => none) (cellsFrom (s.heap.objs.size + 1) scope.names []) (bindC (envOfC qual scope s.heap.objs.size f cd).kindOf (ps.zip us) fun _ => none) s1) :
    Inv (cxQ P w K mg base N qual scope f cd A outer s H E) [] (start N vs) H s1 := by
  have e1 : Env0 P w K mg base { A with handled := none } outer s H := ⟨e0.frames, e0.mod, e0.bs, e0.bsz, e0.funs, e0.frf, e0.hok, e0.bare⟩
  have I : Inv (cxOf CX0 P w K mg base N qual scope f cd { A with handled := none } outer s H E) [] (start N vs) H s1 := inv_start S rfl e1 hl r x
  exact ⟨⟨I.ok.mod, I.ok.kind, I.ok.glob, I.ok.blt, I.ok.above, I.ok.inj, I.ok.has, I.ok.cab, fun z => (nomatch (show false = true from z)), Around.frames_deeper e0.frames, I.ok.stk, I.ok.exf, I.ok.bs, I.ok.bsz, I.ok.noex, I.ok.exfs, I.ok.funs, I.ok.frf⟩,
    I.os, I.bare, I.base, I.loc, I.cell, I.free, I.freeC, I.pin, I.hok, I.len⟩
section
variable {P : Program} {w : World} {K : PySem.W.Frag} {mg : Str → Option Value} {base : Heap} {ct : CT}
theorem defQ_ok {x qual : Str} {st : Stmt} {f : Addr} {fd : FuncData} {N ps : List Str} {k : Nat} {g : FS} (F : Fun K x qual st f fd) (S : FnScope N ps (defScope st))
    (hbody : ∀ (cdv : Value) (A : Around) (outer : List Env) (s : Shared) (H : Hp) (E : XK), RoomQ k (A.deeper (envOfC qual (defScope st) s.heap.objs.size f cdv)) →
      SSs ct (cxQ P w K mg base N qual (defScope st) f cdv A outer s H E) (defBody st) g) : FnQ P w K mg base (k + 1) f fd ps (spD K ct ps.length (runD N.length g)) := by
  obtain ⟨oc, od, kV, doc, pm, an, cdv, ctv, osl, rfl, lk, hcd⟩ := F.ex
  refine ⟨fun vs H Q E h => h.1, fun A outer s H ar us vs Q E hr e0 hb rv hsp => ?_⟩
  obtain ⟨hl, m, F', S0, ds, d, S', sim, reps, hg, post⟩ := hsp
  have old := fun b o e => (e0.bs b o e).1
  have kin : K.In s.heap := e0.mod.kin.keeps old
  refine codeAny_call_function (by have := hr.dp; omega) (kin _ _ lk) rfl S.co S.gen rfl (PySem.W.codeRec_of kin hcd) (hb _ _ _ _ (wpAny_newFunctionEnv_cells S.kind (fun y hy => ?_) fun env he s1 nw => ?_))
  · rcases S.par y.1 (List.of_mem_zip (b := y.2) hy).1 with q | q
    · exact .inl q
    · exact .inr ⟨q, PySem.W.cellsFrom_some _ _ _ (.inl q)⟩
  · subst he
    refine ⟨(e0.mod.nolimit.keeps old).keeps nw.toInCall.keep, codeAny_func ?_⟩
    obtain ⟨t, ht, hq⟩ := hbody cdv A outer s H E (hr.deeper _)
    obtain ⟨⟨fl, S1⟩, h1, h2⟩ := bind_some hg
    refine wpAny_mono (ht.run [] s1 (start N vs) H { nx := fun _ H' => Q .non H', rt := Q } (inv_startQ S e0 hl rv nw) (hq m F' S0 _ H _ fl S1 _ sim (start_env reps) h1 ?_)) (fun fl s' z => ?_) fun _ _ z => (False.elim z)
    · cases fl with
      | rt d1 => cases h2; exact fun m' F1 v H' x1 s1 r1 => post m' F1 v H' x1 s1 r1
      | nx env1 => cases h2; exact fun m' F1 σ1 H' x1 s1 r1 => post m' F1 .non H' x1 s1 rfl
      | bk env1 => cases h2
      | ct env1 => cases h2
    · cases fl with
      | ret u => obtain ⟨v, _, G, J, ru, q⟩ := z; exact ⟨v, G, J.os, J.bare, J.base, J.hok, ru, q⟩
      | next => obtain ⟨_, G, J, q⟩ := z; exact ⟨.non, G, J.os, J.bare, J.base, J.hok, rfl, q⟩
      | brk => obtain ⟨_, _, _, q⟩ := z; exact q.elim
      | cont => obtain ⟨_, _, _, q⟩ := z; exact q.elim
def CalleeQ (P : Program) (w : World) (K : PySem.W.Frag) (mg : Str → Option Value) (base : Heap) (ct : CT) (k : Nat) (x : Str) (n : Nat) (g : FD) : Prop :=
  ∃ (f : Addr) (fd : FuncData) (ps : List Str), mg x = some (.ref f) ∧ PySem.W.keepIn K (.ref f) = true ∧ Binds K fd ps [] ∧ FnQ P w K mg base k f fd ps (spD K ct n g)
theorem calleeQ_of {x : Str} {st : Stmt} {N ps : List Str} {k : Nat} {g : FS} {kwb : KWB} (d : DefAt K mg x st ps kwb) (S : FnScope N ps (defScope st))
    (hbody : ∀ (f : Addr) (cdv : Value) (A : Around) (outer : List Env) (s : Shared) (H : Hp) (E : XK), RoomQ k (A.deeper (envOfC x (defScope st) s.heap.objs.size f cdv)) →
      SSs ct (cxQ P w K mg base N x (defScope st) f cdv A outer s H E) (defBody st) g) : CalleeQ P w K mg base ct (k + 1) x ps.length (runD N.length g) := by
  obtain ⟨f, fd, F, h1, h3⟩ := d
  exact ⟨f, fd, ps, h1, F.kp, h3.1, defQ_ok F S (hbody f)⟩
end
section
variable {ct : CT} {X : Cx} {e : Expr} {es : List Expr} {fas : FA} {x : Str} {p pos : Pos} {k n : Nat} {g : FD}
theorem se_fnQ (M : CalleeQ X.prog X.w X.K X.mg X.base ct k x n g) (hr : RoomQ k X.A) (hg : Gl X x) (ha : SA ct X (e :: es) fas) (hn : ∀ env S ds S', fas env S = some (ds, S') → ds.length = n) (hdb : (x == ("__debug__" : Str)) = false := by decide)
    (hst : starEach (e :: es) X.env = (false, eval e X.env) :: starEach es X.env := by rfl) (hpl : (backTo pos (starEach es X.env)).any (·.1) = false := by rfl) : SE ct X (.Call (.Name x p) (e :: es) [] pos) (fCall g fas) := by
  obtain ⟨f, fd, ps, hm, hk, hb, fn⟩ := M
  obtain ⟨ta, pa, ra⟩ := ha
  refine ⟨fun σ H Q => ta σ H fun vs H1 => spD X.K ct n g vs H1 Q (fun _ _ _ => False), ⟨fun pins s σ H Q I h => wpAny_Call_Name_kw (ld_glob I hg hm (PySem.W.callWith_K (h₀ := X.base) I.ok.mod.kin hk (thn (pa.run pos pins s σ H _ I h) fun us s1 ⟨vs, H1, I1, rv, q⟩ => ⟨I1.kIn, ?_⟩) hst hpl) hdb)⟩, fun m F S σ H env d S' Q s en h p => ?_⟩
  · have bi := hb s1 us I1.kIn (by rw [List.append_nil, ← rv.length]; exact fn.len _ _ _ _ q)
    rw [List.append_nil] at bi
    refine wpAny_call (codeAny_mono (fn.run X.A X.stack s1 H1 ⟨us, []⟩ us vs Q _ hr I1.env0 bi rv q) fun r s' z => ?_)
    obtain ⟨u, rfl, y⟩ := behind I1 z
    exact y
  · obtain ⟨⟨xs, S1⟩, h1, h⟩ := bind_some h
    exact ra m F S σ H env xs S1 _ s en h1 fun m1 F1 vs H1 x1 s1 r1 => ⟨by rw [← r1.length]; exact hn _ _ _ _ h1, m1, F1, S1, xs, d, S', s1, r1, h, p.ext x1⟩
theorem op_eqQ {k : Nat} (hr : RoomQ k X.A) : OpR X (compareOp .Eq) (rEqAll X.K) := op_eq.or (op_eqD hr.units)
theorem op_neQ {k : Nat} (hr : RoomQ k X.A) : OpR X (compareOp .NotEq) (rNeAll X.K) := op_ne.or (op_neD hr.units)
end
end DL

namespace DL
open PySem PySem.Spec PyProof.Rows L2
/-! # try: .. except (A, B) as n: .. -/
/-- the context of the suite: the error stands tracked -/
abbrev Hot (X : Cx) (a : Addr) : Cx := { X with A := X.A.mark (some (.ref a)), calm := false, xe := fun _ _ => False }
section
variable {X : Cx} {pins : List (Addr × Obj)} {σ : L2.St} {H : Hp} {sI s' : Shared} {B : Heap} {s : Shared}
theorem hot_ok (ok : X.Ok) (a : Addr) : (Hot X a).Ok :=
  ⟨ok.mod, ok.kind, ok.glob, ok.blt, ok.above, ok.inj, ok.has, ok.cab, fun z => (nomatch (show false = true from z)), ok.frames, ok.stk, ok.exf, ok.bs, ok.bsz, ok.noex, ok.exfs, ok.funs, ok.frf⟩
theorem inv_hot (I : Inv X pins σ H s) (a : Addr) : Inv (Hot X a) pins σ H s := ⟨hot_ok I.ok a, I.os, I.bare, I.base, I.loc, I.cell, I.free, I.freeC, I.pin, I.hok, I.len⟩
theorem inv_unhot {a : Addr} (I : Inv (Hot X a) pins σ H s) (ok : X.Ok) : Inv X pins σ H s := ⟨ok, I.os, I.bare, I.base, I.loc, I.cell, I.free, I.freeC, I.pin, I.hok, I.len⟩
/-- back on the ground, the error tracked -/
theorem inv_caught (I : Inv X pins σ H sI) (nb : ∀ b o, sI.heap.get? b = some o → b ∉ frs X.stack → B.get? b = some o) (st : B.StaysIn s'.heap) (up : sI.heap.UpToSlots s'.heap) (os : s'.os = sI.os) (ag : AllBare s'.gens)
    {a C : Addr} {d : Option Addr} {o : Obj} {vs : Array Value} (hn : sI.heap.get? a = none) (na : H a = none) (ha : s'.heap.get? a = some o) (hc : o.cls = .ref C) (hd : o.dict = d) (hv : o.data = .fields vs) : Inv X pins σ (upd H a (exk a C d)) s' := by
  have fr : ∀ b ∈ frs X.stack, ∀ o, sI.heap.get? b = some o → ∃ sl, s'.heap.get? b = some { o with slots := sl } := fun b hb o e => by
    obtain ⟨_, o', e', nf⟩ := I.stack.mem hb
    rw [e] at e'
    cases e'
    exact up b o e nf
  have ne : ∀ {b : Addr} {o : Obj}, sI.heap.get? b = some o → b ≠ a := fun {b o} e z => by
    rw [z, hn] at e
    cases e
  have grounded := (I.inGround nb).kept st
  have J := I.call (ch := []) (h' := s'.heap) (g' := s'.gens) (t' := s'.toks) (d' := s'.drawn) (H' := upd H a (exk a C d))
    ⟨fun b o e _ hb _ => st b o (nb b o e hb), fun b o e _ hb _ => fr b hb o e, fun b o e n _ => by rw [upd_ne (ne e)]; exact n, fun b o e _ => by
      by_cases hb : b ∈ frs X.stack
      · obtain ⟨sl, q⟩ := fr b hb o e
        exact ⟨_, q⟩
      · exact ⟨o, st b o (nb b o e hb)⟩, fun b xs e => by rw [upd_ne (ne_of_none e na)]; exact e, fun b o u e => by rw [upd_ne (ne_of_none e na)]; exact e, fun b ps e => ⟨#[], by rw [upd_ne (ne_of_none e na), e]; simp⟩⟩
    (fun b u e => by
      by_cases hb : b = a
      · subst hb
        rw [upd_same] at e
        cases e
        exact ⟨⟨o, vs, ha, hc, hd, hv⟩, ⟨o, ha⟩, fun h1 h2 ⟨o, vs, z1, z2⟩ k => ⟨o, vs, k _ z1, z2⟩⟩
      · rw [upd_ne hb] at e
        exact (grounded b u e).stay (fun _ _ _ q => q) (fun c q => by rw [upd_ne (ne_of_none q na)]; exact q) fun c xs q => by rw [upd_ne (ne_of_none q na)]; exact q) ag (fun _ z => nomatch z)
  obtain ⟨a1, a2, a3, a4, a5⟩ := s'
  have e5 : a5 = sI.os := os
  subst e5
  exact J
end
theorem flyZ_keeps {base h h' : Heap} {l : List Env} {e : Addr} {Z : Obj → Prop} (fl : HandSPX.FlyingZ base l e Z h) (k : ∀ b o, h.get? b = some o → h'.get? b = some o) : HandSPX.FlyingZ base l e Z h' := by
  obtain ⟨h1, h2, h3, oe, vs, T, oT, ts, a1, a2, a3, a4, a5, a6, a7, a8⟩ := fl
  exact ⟨fun b o q => k b o (h1 b o q), h2, Heap.FunFrames.of_keeps (fun b o q _ => ⟨o, k b o q, rfl⟩) h3, oe, vs, T, oT, ts, k _ _ a1, a2, a3, a4, a5, a6, k _ _ a7, a8⟩
def wT (K : PySem.W.Frag) (c1 c2 : Addr) (i : Nat) (ts : Addr → TS) (D : Ends) : WX := fun cls d σ H => ∃ C, cls = .ref C ∧ PySem.W.exmAny K (.ref C) [.ref c1, .ref c2] = some true ∧
  ∀ a, H a = none → ts a { nx := fun σ' H' => D.nx (σ'.set i none) H', rt := D.rt, bk := fun σ' H' => D.bk (σ'.set i none) H', ct := fun σ' H' => D.ct (σ'.set i none) H' } (σ.set i (some (.ref a))) (upd H a (exk a C d))
section
variable {X : Cx} {x1 x2 n : Str} {c1 c2 : Addr} {i : Nat} {body suite : List Stmt} {b₀ : Stmt} {p1 p2 tp pos pos' : Pos} {kk : Nat} {tb : WX → TS} {ts : Addr → TS}
theorem ps_tryT (hs : X.stack = X.env :: X.outer) (hf : X.env.frame = some X.env.locals) (hN : X.N.Nodup) (hi : X.N[i]? = some n) (hln : X.env.kindOf n = some .local) (g1 : Gl X x1) (m1 : X.mg x1 = some (.ref c1)) (g2 : Gl X x2) (m2 : X.mg x2 = some (.ref c2))
    (d1 : (x1 == ("__debug__" : Str)) = false) (d2 : (x2 == ("__debug__" : Str)) = false)
    (hb : ∀ (W : WX) (pn : List (Addr × Obj)) (xe : Value → Shared → Prop), Takes (X.tr pn xe) W → PassesOwn (model X.prog X.w) X.A X.env xe → PSs (X.tr pn xe) body (tb W))
    (hsu : ∀ a : Addr, PSs (Hot X a) (b₀ :: suite) (ts a)) :
    PS X (.Try body [.ExceptHandler (some (.Tuple [.Name x1 p1, .Name x2 p2] kk tp)) (some n) (b₀ :: suite) pos'] [] [] pos) (fun D σ H => tb (wT X.K c1 c2 i ts D) D σ H) := by
  refine ⟨fun pins s σ H D I h => ?_⟩
  have ok := I.ok
  have frames : X.A.frames = some (X.env :: X.outer) := by rw [ok.frames, hs]
  refine wpAny_Try_except (wpAny_mono ((hb (wT X.K c1 c2 i ts D) (X.pn ++ pins) (fun e s₁ => wpAny (model X.prog X.w) X.A (noteFrame e X.env) (fun _ s₂ => wpAny (model X.prog X.w) X.A (setFlight e none) (fun _ s₃ =>
    wpAny (model X.prog X.w) X.A (handleBy e X.env [.ExceptHandler (some (.Tuple [.Name x1 p1, .Name x2 p2] kk tp)) (some n) (b₀ :: suite) pos']) (SP X pins D) X.xe s₃) X.xe s₂) X.xe s₁) (fun u s' xx => ?_) PassesOwn.looking).run [] s σ H D (I.toTry _) h) (fun f s1 q => ?_) fun e s1 q => q)
  · obtain ⟨a, B, sI, pins', σ', H', cls, d, rfl, J', nb, up, sky, na, os, ag, C, rfl, hit, go⟩ := xx
    have J : Inv X pins σ' H' sI := J'.ofTry ok
    rw [show (X.tr (X.pn ++ pins) _).stack = X.env :: X.outer from hs] at sky nb
    have nbX : ∀ b o, sI.heap.get? b = some o → b ∉ frs X.stack → B.get? b = some o := by rw [hs]; exact nb
    refine Sky.land Zc.steady frames hf sky fun h3 fl3 up3 => ?_
    obtain ⟨o3, v3, at3, z3, dt3⟩ := fl3.there
    have nfr : a ∉ frs (X.env :: X.outer) := fun hm => by
      obtain ⟨_, o', e', nf⟩ := fl3.2.2.1.mem hm
      rw [at3] at e'
      cases e'
      exact nf _ dt3
    have noI : sI.heap.get? a = none := by
      cases q : sI.heap.get? a with
      | none => rfl
      | some o =>
        have := nb a o q nfr
        rw [fl3.2.1] at this
        cases this
    have J3 : Inv X pins σ' (upd H' a (exk a C d)) { s' with heap := h3 } := inv_caught (s' := { s' with heap := h3 }) J nbX fl3.1 (up.trans up3) os ag noI na at3 z3.1 z3.2 dt3
    have hot3 := inv_hot J3 a
    refine wpAny_handleBy_cons (codeAny_handlers_test (wpAny_Tuple (wpAny_items_cons (ld_glob (X := Hot X a) hot3 g1 m1 (wpAny_items_cons (ld_glob (X := Hot X a) hot3 g2 m2 (wpAny_items_nil ⟨by size_fits, ?_⟩) d2)) d1)))) (by intro q; cases q)
    have kept : ∀ q o, h3.get? q = some o → (h3.push { cls := .type "tuple", data := .seq [Value.ref c1, Value.ref c2].toArray }).get? q = some o := fun _ _ z => Heap.get?_push_of_some _ z
    have LT : PySem.W.Looks (model X.prog X.w) h3 (typeOf (.ref a)) (.ref C) := fun A Q E s k q => wpAny_typeOf_ref (k _ _ at3) (by rw [z3.1]; exact q)
    refine (PySem.W.exm_tup2 (J3.kIn.keeps kept) (LT.keeps kept) (Heap.get?_push_size h3 rfl) hit).here ?_
    refine codeAny_handlers_suite_as (HandSPX.lands_againZ (flyZ_keeps fl3 kept) fun h4 fl4 up4 => ?_)
    obtain ⟨o4, v4, at4, z4, dt4⟩ := fl4.there
    have J4 : Inv X pins σ' (upd H' a (exk a C d)) { s' with heap := h4 } := inv_caught (s' := { s' with heap := h4 }) J nbX fl4.1 (((up.trans up3).trans (Heap.UpToSlots.of_keeps kept)).trans up4) os ag noI na at4 z4.1 z4.2 dt4
    refine store_ok (X := Hot X a) (v := .ref a) (inv_hot J4 a) hN hi (.inl hln) rfl (fun s5 S5 => ?_) (.inr hln)
    refine wpAny_mono ((hsu a).run pins s5 _ _ _ S5 (go a na)) (fun f s6 q => ?_) (fun _ _ z => False.elim z)
    have leave : ∀ {σ6 : L2.St} {H6 : Hp} {Q : Shared → Prop}, Inv (Hot X a) pins σ6 H6 s6 → (∀ s7, Inv X pins (σ6.set i none) H6 s7 → Q s7) →
        wpAny (model X.prog X.w) X.A (do bindName X.env n .none; unbindBehindTheSuite X.env n pos') (fun _ s7 => Q s7) X.xe s6 := fun {σ6 H6 Q} S6 hq => gone_ok (inv_unhot S6 ok) hN hi hln hq
    cases f with
    | next =>
      obtain ⟨σ6, H6, S6, q6⟩ := q
      exact leave S6 fun s7 J7 => ⟨_, _, J7, q6⟩
    | brk =>
      obtain ⟨σ6, H6, S6, q6⟩ := q
      exact leave S6 fun s7 J7 => ⟨_, _, J7, q6⟩
    | cont =>
      obtain ⟨σ6, H6, S6, q6⟩ := q
      exact leave S6 fun s7 J7 => ⟨_, _, J7, q6⟩
    | ret u =>
      obtain ⟨v6, σ6, H6, S6, r6, q6⟩ := q
      exact leave S6 fun s7 J7 => ⟨_, _, _, J7, r6, q6⟩
  · cases f with
    | next =>
      obtain ⟨σ', H', J', z⟩ := q
      exact wpAny_execs_nil ⟨σ', H', J'.ofTry ok, z⟩
    | brk =>
      obtain ⟨σ', H', J', z⟩ := q
      exact ⟨σ', H', J'.ofTry ok, z⟩
    | cont =>
      obtain ⟨σ', H', J', z⟩ := q
      exact ⟨σ', H', J'.ofTry ok, z⟩
    | ret u =>
      obtain ⟨v, σ', H', J', r, z⟩ := q
      exact ⟨v, σ', H', J'.ofTry ok, r, z⟩
end
end DL

namespace DL
open PySem PySem.Spec PyProof.Rows L2
/-! # lambda: .. handed to a def that tells what it does -/
section
variable {X : Cx} {pins : List (Addr × Obj)} {σ : L2.St} {H : Hp} {s : Shared}
theorem lam_made {c P : Addr} {ps : Array Value} {params : Arguments} {body : Expr} {scope : Scope} {pos : Pos} {E : Value → Shared → Prop} {Q : Value → Shared → Prop} (I : Inv X pins σ H s) (TB : LamX.TabB X.base X.mg c P) (hcode : X.env.code = .ref c)
    (hP : H P = some (.tbl ps)) (tr : TriplesOk ps.toList) (ha : ∀ (pos : Pos) (cv : Value), codeAmong pos ps.toList = some cv → ∃ c, cv = .ref c ∧ H c = some (LamX.CodeO c (X.env.qual ++ "<lambda>")))
    (hdef : defaultsOf params X.env = ([], [])) (hfree : ∀ y ∈ scope.names, y.2 = .free → ∃ c, X.env.cells.lookup y.1 = some c)
    (h : ∀ (f c' : Addr) (pm ctv : Value) (H1 : Hp) (s' : Shared), Inv X pins σ H1 s' → (H1 = H ∧ (∃ pos : Pos, codeAmong pos ps.toList = some (.ref c')) ∨ ∃ more : Array Value, H c' = none ∧ H1 = upd (upd H P (.tbl (ps ++ more))) c' (LamX.CodeO c' (X.env.qual ++ "<lambda>")) ∧
        TriplesOk (ps ++ more).toList ∧ ∀ (pos : Pos) (cv : Value), codeAmong pos (ps ++ more).toList = some cv → codeAmong pos ps.toList = some cv ∨ cv = .ref c') →
      s'.heap.get? f = some (PySem.W.kla_obj "<lambda>" (X.env.qual ++ "<lambda>") params body scope (cloFrom X.env.cells scope.names []) pm c' ctv) → H1 f = none → f ∉ frs X.stack → Q (.ref f) s') :
    wpAny (model X.prog X.w) X.A (eval (.Lambda params body scope pos) X.env) Q E s := by
  refine PySem.W.kla_eval hdef ?_
  have bm : s.heap.BuiltinsAt X.mg P := TB.bm.keeps I.bk
  have tab : s.heap.get? P = some { cls := .none, data := .fields ps } := I.hok P _ hP
  have nofr : ∀ f, s.heap.objs.size ≤ f → f ∉ frs X.stack := fun f hf z => by
    rcases List.mem_cons.mp (I.stkSub _ z) with e | e
    · have := I.lt
      rw [← e] at this
      exact absurd (Nat.lt_of_lt_of_le this hf) (Nat.lt_irrefl _)
    · exact I.nofs hf e
  cases hc : codeAmong pos ps.toList with
  | none =>
    refine PySem.W.kla_makeFunction (mg := X.mg) (c := c) (P := P) (ps := ps) (closure_ok hfree) I.ok.glob (I.mod.glob.keeps I.bk) hcode (TB.code.keeps I.bk) tab tr hc TB.gP bm fun c' ctv h' tk kept hge hlt rec_ tab' => ?_
    obtain ⟨c2, oc, vs, t, e2, at_, hd, hv⟩ := rec_
    cases e2
    have big : s.heap.objs.size ≤ h'.objs.size := Nat.le_trans hge (Nat.le_of_lt hlt)
    have off : H c' = none := I.hok.fresh hge
    have J := LamX.inv_table (t' := tk) (more := #[rawInt pos.line, rawInt pos.col, .ref c']) (h' := h'.push (PySem.W.kla_obj "<lambda>" (X.env.qual ++ "<lambda>") params body scope (cloFrom X.env.cells scope.names []) ((X.mg "__name__").getD .none) c' ctv)) I hP
      (fun b o hb e => Heap.get?_push_of_some _ (kept b o hb e)) (Heap.get?_push_of_some _ tab') hge ⟨oc, vs, t, Heap.get?_push_of_some _ at_, hd, hv⟩
    have toL : (ps ++ #[rawInt pos.line, rawInt pos.col, .ref c']).toList = ps.toList ++ [rawInt pos.line, rawInt pos.col, .ref c'] := by simp
    refine h h'.objs.size c' ((X.mg "__name__").getD .none) ctv _ _ J (.inr ⟨_, off, rfl, by rw [toL]; exact PySem.TriplesOk_snoc _ _ _ _ tr, fun p' cv hcv => ?_⟩) (Heap.get?_push_size _ rfl) ?_ (nofr _ big)
    · rw [toL] at hcv
      exact LamX.among_app _ tr hcv
    · rw [upd_ne (Nat.ne_of_gt hlt), upd_ne (Nat.ne_of_gt (Nat.lt_of_lt_of_le (Heap.lt_size tab) big))]
      exact I.hok.fresh big
  | some cv =>
    obtain ⟨c', e, hco⟩ := ha pos cv hc
    subst e
    refine PySem.W.kla_makeFunctionHit (mg := X.mg) (c := c) (P := P) (ps := ps) (closure_ok hfree) I.ok.glob (I.mod.glob.keeps I.bk) hcode (TB.code.keeps I.bk) tab tr hc bm fun ctv h' tk kept big => ?_
    have J : Inv X pins σ H { s with heap := h'.push (PySem.W.kla_obj "<lambda>" (X.env.qual ++ "<lambda>") params body scope (cloFrom X.env.cells scope.names []) ((X.mg "__name__").getD .none) c' ctv), toks := tk } := I.kept fun b o e => Heap.get?_push_of_some _ (kept b o e)
    exact h h'.objs.size c' ((X.mg "__name__").getD .none) ctv H _ J (.inl ⟨rfl, pos, hc⟩) (Heap.get?_push_size _ rfl) (I.hok.fresh big) (nofr _ big)
/-- the same, at data: the table's cell stays what it is -/
theorem lam_data {ct : CT} {c P : Addr} {m : List Addr} {F : Hp} {S : Sto} {j : Nat} {params : Arguments} {body : Expr} {scope : Scope} {pos : Pos} {E : Value → Shared → Prop} {Q : Value → Shared → Prop} (I : Inv X pins σ H s) (TB : LamX.TabB X.base X.mg c P) (hcode : X.env.code = .ref c)
    (sim : Sim X.K ct m F S H) (hj : S[j]? = some (.tab (X.env.qual ++ "<lambda>"))) (hct : ct (X.env.qual ++ "<lambda>") = some P)
    (hdef : defaultsOf params X.env = ([], [])) (hfree : ∀ y ∈ scope.names, y.2 = .free → ∃ c, X.env.cells.lookup y.1 = some c)
    (h : ∀ (f c' : Addr) (pm ctv : Value) (F1 H1 : Hp) (s' : Shared), Inv X pins σ H1 s' → Sim X.K ct m F1 S H1 → Ext m F H m F1 H1 → H1 c' = some (LamX.CodeO c' (X.env.qual ++ "<lambda>")) → F1 c' = some (LamX.CodeO c' (X.env.qual ++ "<lambda>")) →
      s'.heap.get? f = some (PySem.W.kla_obj "<lambda>" (X.env.qual ++ "<lambda>") params body scope (cloFrom X.env.cells scope.names []) pm c' ctv) → H1 f = none → f ∉ frs X.stack → Q (.ref f) s') :
    wpAny (model X.prog X.w) X.A (eval (.Lambda params body scope pos) X.env) Q E s := by
  have hjl : j < m.length := by
    rw [sim.len]
    exact (List.getElem?_eq_some_iff.mp hj).1
  have hmj : m[j]? = some m[j] := List.getElem?_eq_getElem hjl
  have eP := sim.tab j m[j] _ _ hmj hj rfl
  rw [hct] at eP
  cases eP
  obtain ⟨ps, h1, h2, h3⟩ := sim.cell j _ _ hmj hj
  have hm : m[j] ∈ m := List.getElem_mem hjl
  refine lam_made I TB hcode h1 h2 (fun pos cv hc => let ⟨c, z1, z2⟩ := h3 pos cv hc; ⟨c, z1, sim.same _ _ z2⟩) hdef hfree fun f c' pm ctv H1 s' J cases_ hf nf fr => ?_
  rcases cases_ with ⟨rfl, pos', hh⟩ | ⟨more, off, rfl, tr, am⟩
  · obtain ⟨c2, z1, z2⟩ := h3 pos' _ hh
    cases z1
    exact h f c' pm ctv F H1 s' J sim (Ext.refl _ _ _) (sim.same _ _ z2) z2 hf nf fr
  · have ne : c' ≠ m[j] := fun e => by
      rw [e, h1] at off
      cases off
    obtain ⟨s2, x2⟩ := sim.frozen off (LamX.CodeO c' (X.env.qual ++ "<lambda>"))
    obtain ⟨s3, x3⟩ := s2.change hmj (o := .tbl (ps ++ more)) (c := .tab (X.env.qual ++ "<lambda>")) ⟨_, rfl, tr, fun p' cv hc => by
      rcases am p' cv hc with z | z
      · obtain ⟨c2, z1, z2⟩ := h3 p' cv z
        exact ⟨c2, z1, x2.same _ _ z2⟩
      · exact ⟨c', z, upd_same⟩⟩ (fun q hq => by cases hq; exact hct)
    have eS : S.set j (.tab (X.env.qual ++ "<lambda>")) = S := by
      apply List.ext_getElem?
      intro i
      by_cases hi : j = i
      · subst hi
        rw [List.getElem?_set_self (List.getElem?_eq_some_iff.mp hj).1, hj]
      · rw [List.getElem?_set_ne hi]
    have eH : upd (upd H c' (LamX.CodeO c' (X.env.qual ++ "<lambda>"))) m[j] (.tbl (ps ++ more)) = upd (upd H m[j] (.tbl (ps ++ more))) c' (LamX.CodeO c' (X.env.qual ++ "<lambda>")) := by
      funext b
      by_cases hb : b = m[j]
      · rw [hb, upd_same, upd_ne (fun e => ne e.symm), upd_same]
      · rw [upd_ne hb]
        by_cases hc : b = c'
        · rw [hc, upd_same, upd_same]
        · rw [upd_ne hc, upd_ne hc, upd_ne hb]
    rw [eS, eH] at s3
    rw [eH] at x3
    exact h f c' pm ctv _ _ s' J s3 (x2.trans x3) upd_same upd_same hf nf fr
end
/-! ## act(), in the def that got the lambda -/
section
variable {X : Cx} {pins : List (Addr × Obj)} {σ : L2.St} {H1 : Hp} {s1 : Shared} {ct : CT}
theorem act_run {Ng : List Str} {tn : Str} {sg : Scope} {g f c' : Addr} {cdg pm ctv : Value} {params : Arguments} {body : Expr} {scope : Scope} {k i : Nat} {a : Str} {pn : List (Addr × Obj)} {xe : Value → Shared → Prop} {W : WX} {p1 p2 : Pos} {fv : FE} {fx : FX} {env : DEnv}
    (I : Inv X pins σ H1 s1) (L : LamX.LamS X.env.scope scope) (hf : s1.heap.get? f = some (PySem.W.kla_obj "<lambda>" (X.env.qual ++ "<lambda>") params body scope (cloFrom X.env.cells scope.names []) pm c' ctv)) (hfn : H1 f = none) (hfr : f ∉ frs X.stack)
    (hbind : bindArgs (PySem.W.kla_fn "<lambda>" (X.env.qual ++ "<lambda>") params body scope (cloFrom X.env.cells scope.names []) pm (.ref c') ctv) ⟨[], []⟩ = pure [])
    (tk : Takes ((cxOf CX0 X.prog X.w X.K X.mg X.base Ng tn sg g cdg X.A X.stack s1 H1 fun _ _ _ => False).nox.tr pn xe) W) (hr : RoomG (k + 1) (X.A.deeper (envOfC tn sg s1.heap.objs.size g cdg)))
    (hv : ∀ (A : Around) (outer : List Env) (s : Shared) (H : Hp) (E : XK), RoomG k (A.deeper (LamX.lamEnv X scope s.heap.objs.size f c')) → SE ct (LamX.lamCx X A outer s H E scope f c') body fv)
    (hx : ∀ (A : Around) (outer : List Env) (s : Shared) (H : Hp) (E : XK), RoomG k (A.deeper (LamX.lamEnv X scope s.heap.objs.size f c')) → XE1 ct (LamX.lamCx X A outer s H E scope f c') E body fx)
    (hN : Ng[i]? = some a) (hva : Vis sg a) (hd : (a == ("__debug__" : Str)) = false) (hcd : (a == ("__classdict__" : Str)) = false) :
    PE ((cxOf CX0 X.prog X.w X.K X.mg X.base Ng tn sg g cdg X.A X.stack s1 H1 fun _ _ _ => False).nox.tr pn xe) (.Call (.Name a p1) [] [] p2)
      (fun σZ HZ Q => σZ[i]? = some (some (.ref f)) ∧ ∃ m F S, Sim X.K ct m F S HZ ∧ EnvR X.K ct m F env σ ∧ F c' = some (LamX.CodeO c' (X.env.qual ++ "<lambda>")) ∧
        ((∃ d S', fv env S = some (d, S') ∧ PostE ct X.K m F HZ S' d Q) ∨ ∃ er S', fx env S = some (er, S') ∧ PostX ct X.K m F HZ S' er fun cls d H' => W cls d σZ H')) := by
  refine ⟨fun pinsZ sZ σZ HZ Q IZ h => ?_⟩
  obtain ⟨hs, m, F, S, sim, en, hc, ht⟩ := h
  refine wpAny_Call_Name_kw (thn ((pe_var (pos := p1) (i := i) hN hva hd hcd).run pinsZ sZ σZ HZ (fun v H2 => v = .ref f ∧ H2 = HZ) IZ ⟨.ref f, hs, rfl, rfl⟩) fun u s2 ⟨v, H2, I2, r2, ev, eH⟩ => ?_)
  subst ev
  rw [eH] at I2
  have r2 : u = Value.ref f := r2
  subst r2
  have fun_ : s2.heap.get? f = some (PySem.W.kla_obj "<lambda>" (X.env.qual ++ "<lambda>") params body scope (cloFrom X.env.cells scope.names []) pm c' ctv) := I2.base.keep f _ hf hfn hfr (fun z => nomatch (show f ∈ ([] : List Addr) from z))
  have un : Un (frs X.stack) [] H1 HZ s1.heap s2.heap := I2.base
  obtain ⟨⟨oc, vs, t, hoc, hdc, hvc⟩, _, _⟩ := I2.hok c' _ (sim.same _ _ hc)
  refine PySem.W.callWith_F0 ⟨_, _, _, _, fun_⟩ ?_
  have main : codeAny (model X.prog X.w) (X.A.deeper (envOfC tn sg s1.heap.objs.size g cdg)) (.call (.ref f) ⟨[], []⟩) (CR (L2.CX X.prog X.w) (envOfC tn sg s1.heap.objs.size g cdg :: X.stack) X.prog X.w HZ s2 Q fun cls d H' => W cls d σZ H') s2 := by
    refine PySem.W.kla_callFunE hr.room.depth fun_ rfl L.co L.gen rfl ⟨c', oc, vs, t, rfl, hoc, hdc, hvc⟩ ?_
    rw [hbind]
    refine wpAny_pure (wpAny_newFunctionEnv (fun y hy => (L.own y hy).2) (fun y hy => absurd hy (by simp)) (fun h₁ hns hsb => ⟨I2.nolimit.fresh _ hsb, ?_⟩) L.kind)
    show codeAny _ _ (.expr body (LamX.lamEnv X scope s2.heap.objs.size f c')) _ _
    have kp : ∀ b o, s2.heap.get? b = some o → h₁.get? b = some o := fun b o e => hsb.extBut b o (Nat.ne_of_lt (Heap.lt_size e)) (Heap.get?_push_of_some _ e)
    have J := LamX.lam_start2 (E := fun cls d H' => W cls d σZ H') (f := f) (c' := c') (tk := s2.toks + ([] : List (Str × Value)).length) I L I2.env0 hr.room.hd un hns kp
    have both : ∃ tb, PE (LamX.lamCx X (X.A.deeper (envOfC tn sg s1.heap.objs.size g cdg)) (envOfC tn sg s1.heap.objs.size g cdg :: X.stack) s2 HZ (fun cls d H' => W cls d σZ H') scope f c') body tb ∧ tb σ HZ Q := by
      rcases ht with ⟨d, S', h1, post⟩ | ⟨er, S', h1, post⟩
      · obtain ⟨tb, pe, rb⟩ := hv _ (envOfC tn sg s1.heap.objs.size g cdg :: X.stack) s2 HZ (fun cls d H' => W cls d σZ H') (hr.deeper _)
        exact ⟨tb, pe, rb m F S σ HZ env d S' Q sim en h1 post⟩
      · obtain ⟨tb, pe, rb⟩ := hx _ (envOfC tn sg s1.heap.objs.size g cdg :: X.stack) s2 HZ (fun cls d H' => W cls d σZ H') (hr.deeper _)
        exact ⟨tb, pe, rb m F S σ HZ env er S' Q sim en h1 post⟩
    obtain ⟨tb, pe, htb⟩ := both
    refine PySem.W.kla_codeExpr (wpAny_mono (pe.run [] _ _ HZ Q J htb) (fun v s' hq => ?_) fun e s' hq => hq)
    obtain ⟨w', H', J', rv, q⟩ := hq
    exact ⟨w', H', J'.os, J'.bare, J'.base, J'.hok, rv, q⟩
  refine wpAny_call (codeAny_mono main fun r s' q => ?_)
  cases r with
  | error e => exact tk e s' (XE.of_call I2 (fun _ _ _ z => z) q)
  | ok fl =>
    cases fl with
    | ret u => exact I2.after q
    | next => exact False.elim q
    | brk => exact False.elim q
    | cont => exact False.elim q
end
end DL

namespace DL
open PySem PySem.Spec PyProof.Rows L2
abbrev NgT : List Str := ["_law_act", "_law_gave", "_law_e", "_law_word"]
structure TShape (sg : Scope) (bg : List Stmt) : Prop where
  body : ∃ (p1 p2 p3 p4 q1 q2 q3 r1 r2 r3 r4 r5 r6 r7 r8 r9 r10 r11 r12 r13 r14 u1 u2 u3 u4 : Pos) (k1 k2 k3 j : Nat), bg = [.Try [.Assign [.Name "_law_gave" p1] (.Call (.Name "_law_act" p2) [] [] p3) p4]
    [.ExceptHandler (some (.Tuple [.Name "WrongValue" q1, .Name "NoAnswer" q2] k1 q3)) (some "_law_e") [.Assign [.Name "_law_word" r1] (.Call (.Name "_law_sort" r2) [.Name "_law_e" r3] [] r4) r5,
      .Return (some (.Tuple [.Name "_law_word" r6, .Call (.Name "_law_attribute" r7) [.Name "_law_e" r8, .Name "_law_word" r9] [] r10] k2 r11)) r12] r13] [] [] r14, .Return (some (.Tuple [.Constant (.str "returned") j u1, .Name "_law_gave" u2] k3 u3)) u4]
  n0 : sg.names.lookup ("_law_act" : Str) = some .local
  n1 : sg.names.lookup ("_law_gave" : Str) = some .local
  n2 : sg.names.lookup ("_law_e" : Str) = some .local
  n3 : sg.names.lookup ("_law_word" : Str) = some .local
  g0 : sg.names.lookup ("_law_sort" : Str) = some .globalImplicit
  g1 : sg.names.lookup ("_law_attribute" : Str) = some .globalImplicit
  g2 : sg.names.lookup ("WrongValue" : Str) = some .globalImplicit
  g3 : sg.names.lookup ("NoAnswer" : Str) = some .globalImplicit
  sc : FnScope NgT ["_law_act"] sg
def ErrTab (K : PySem.W.Frag) (mg : Str → Option Value) (ct : CT) (c1 c2 : Addr) (cs : List Str) : Prop := ∀ c ∈ cs, ∃ C, ct c = some C ∧ PySem.W.exmAny K (.ref C) [.ref c1, .ref c2] = some true
def ToldOk (P : Program) (w : World) (K : PySem.W.Frag) (mg : Str → Option Value) (base : Heap) (ct : CT) (k : Nat) (tn : Str) (cs : List Str) (gs ga : FD) : Prop :=
  ∃ (st : Stmt) (g : Addr) (fd : FuncData) (c1 c2 : Addr), Fun K tn tn st g fd ∧ mg tn = some (.ref g) ∧ Binds K fd ["_law_act"] [] ∧ TShape (defScope st) (defBody st) ∧ mg "WrongValue" = some (.ref c1) ∧ mg "NoAnswer" = some (.ref c2) ∧ ErrTab K mg ct c1 c2 cs ∧
    CalleeQ P w K mg base ct k "_law_sort" 1 gs ∧ CalleeQ P w K mg base ct k "_law_attribute" 2 ga
def fTold (j : Nat) (q : Str) (cs : List Str) (fv : FE) (fx : FX) (gs ga : FD) : FE := fun env S => match S[j]? with
  | some (.tab q') => if q' = q then (match fv env S with
      | some r => some (.tup [.str "returned", r.1], r.2)
      | none => (fx env S).bind fun r => if r.1.1 ∈ cs then (gs [.exc r.1.1 r.1.2.1 r.1.2.2] r.2).bind fun u => (ga [.exc r.1.1 r.1.2.1 r.1.2.2, u.1] u.2).bind fun t => some (.tup [u.1, t.1], t.2) else none) else none
  | _ => none
def fSuite (gs ga : FD) : FS := sSeq (sAsg (fCall gs (fCons (fVar 2) fNil)) (gN 3)) (sRet (fTup (fCons (fVar 3) (fCons (fCall ga (fCons (fVar 2) (fCons (fVar 3) fNil))) fNil))))
section
variable {ct : CT} {X : Cx} {k : Nat} {tn : Str} {cs : List Str} {gs ga : FD} {fv : FE} {fx : FX} {j : Nat} {params : Arguments} {body : Expr} {scope : Scope} {p lpos pos : Pos} {c P : Addr}
theorem se_told (T : ToldOk X.prog X.w X.K X.mg X.base ct k tn cs gs ga) (hr : RoomG (k + 2) X.A) (hg : Gl X tn) (TB : LamX.TabB X.base X.mg c P) (hcode : X.env.code = .ref c) (hct : ct (X.env.qual ++ "<lambda>") = some P) (L : LamX.LamS X.env.scope scope)
    (hdef : defaultsOf params X.env = ([], [])) (hbind : ∀ (q : Str) (cl : List (Str × Addr)) (pm cv ctv : Value), bindArgs (PySem.W.kla_fn "<lambda>" q params body scope cl pm cv ctv) ⟨[], []⟩ = pure [])
    (hv : ∀ (A : Around) (outer : List Env) (s : Shared) (H : Hp) (E : XK) (f c' : Addr), RoomG k (A.deeper (LamX.lamEnv X scope s.heap.objs.size f c')) → SE ct (LamX.lamCx X A outer s H E scope f c') body fv)
    (hx : ∀ (A : Around) (outer : List Env) (s : Shared) (H : Hp) (E : XK) (f c' : Addr), RoomG k (A.deeper (LamX.lamEnv X scope s.heap.objs.size f c')) → XE1 ct (LamX.lamCx X A outer s H E scope f c') E body fx) (hdb : (tn == ("__debug__" : Str)) = false := by decide) :
    SE ct X (.Call (.Name tn p) [.Lambda params body scope lpos] [] pos) (fTold j (X.env.qual ++ "<lambda>") cs fv fx gs ga) := by
  obtain ⟨st, g, fd, c1, c2, FF, hm, hb, sh, mw, mn, et, M1, M2⟩ := T
  refine ⟨fun σ H Q => ∃ m F S env d S', Sim X.K ct m F S H ∧ EnvR X.K ct m F env σ ∧ fTold j (X.env.qual ++ "<lambda>") cs fv fx gs ga env S = some (d, S') ∧ PostE ct X.K m F H S' d Q, ⟨fun pins s σ H Q I h => ?_⟩, fun m F S σ H env d S' Q s en h p => ⟨m, F, S, env, d, S', s, en, h, p⟩⟩
  obtain ⟨m, F, S, env, d, S', sim, en, ht, post⟩ := h
  have hj : S[j]? = some (.tab (X.env.qual ++ "<lambda>")) ∧ (match fv env S with
      | some r => some (D.tup [.str "returned", r.1], r.2)
      | none => (fx env S).bind fun r => if r.1.1 ∈ cs then (gs [.exc r.1.1 r.1.2.1 r.1.2.2] r.2).bind fun u => (ga [.exc r.1.1 r.1.2.1 r.1.2.2, u.1] u.2).bind fun t => some (.tup [u.1, t.1], t.2) else none) = some (d, S') := by
    unfold fTold at ht
    split at ht
    · rename_i q' e
      split at ht
      · rename_i e2
        subst e2
        exact ⟨e, ht⟩
      · cases ht
    · cases ht
  obtain ⟨hj, ht⟩ := hj
  have kp := FF.kp
  obtain ⟨oc, od, kV, doc, pmg, an, cdv, ctg, osl, rfl, lk, hcd⟩ := FF.ex
  refine wpAny_Call_Name_kw (ld_glob I hg hm (PySem.W.callWith_K (h₀ := X.base) I.ok.mod.kin kp ?_ (by rfl) (by rfl)) hdb)
  show wpAny _ _ (spliced ((false, eval (.Lambda params body scope lpos) X.env) :: backTo pos (starEach [] X.env))) _ _ s
  refine Calls.spliced_cons (lam_data I TB hcode sim hj hct hdef (L.has I.ok) fun f c' pm ctv F1 H1 s1 I1 sim1 x1 hco hcf hf hfn hfr => Calls.spliced_nil ⟨I1.kIn, ?_⟩)
  have en1 : EnvR X.K ct m F1 env σ := en.mono x1
  have post1 : PostE ct X.K m F1 H1 S' d Q := post.ext x1
  have gd : X.A.guards = some [] := hr.gd
  have main : codeAny (model X.prog X.w) X.A (.call (.ref g) ⟨[.ref f], []⟩) (CR CX0 X.stack X.prog X.w H1 s1 Q fun _ _ _ => False) s1 := by
    refine LamX.run_ofS (N := NgT) (ps := ["_law_act"]) (us := [.ref f]) (vs := [.ref f]) lk hcd sh.sc hr.room I1.env0 (hb s1 [.ref f] I1.kIn rfl) (.cons rfl .nil) rfl fun hr' => ?_
    have hrg : RoomG (k + 1) (X.A.deeper (envOfC tn (defScope st) s1.heap.objs.size g cdv)) := ⟨hr', gd⟩
    obtain ⟨p1, p2, p3, p4, q1, q2, q3, r1, r2, r3, r4, r5, r6, r7, r8, r9, r10, r11, r12, r13, r14, u1, u2, u3, u4, k1, k2, k3, jj, eb⟩ := sh.body
    rw [eb]
    have suite : ∀ a : Addr, SSs ct (Hot (cxOf CX0 X.prog X.w X.K X.mg X.base NgT tn (defScope st) g cdv X.A X.stack s1 H1 fun _ _ _ => False).nox a) [.Assign [.Name "_law_word" r1] (.Call (.Name "_law_sort" r2) [.Name "_law_e" r3] [] r4) r5,
        .Return (some (.Tuple [.Name "_law_word" r6, .Call (.Name "_law_attribute" r7) [.Name "_law_e" r8, .Name "_law_word" r9] [] r10] k2 r11)) r12] (fSuite gs ga) := fun a => by
      have rq : RoomQ k (Hot (cxOf CX0 X.prog X.w X.K X.mg X.base NgT tn (defScope st) g cdv X.A X.stack s1 H1 fun _ _ _ => False).nox a).A := ((hrg.q).mono (Nat.le_succ k)).mark _
      refine sss_cons (ss_set sh.sc.nd (i := 3) rfl (.inl sh.n3) (se_fnQ M1 rq sh.g0 (sa_cons (se_var 2 rfl (.inl sh.n2)) sa_nil) (fCons_len fun _ _ _ _ => fNil_len)) (by rfl) (.inr sh.n3)) (sss_one (ss_ret (se_tup (sa_cons (se_var 3 rfl (.inl sh.n3)) (sa_cons (se_fnQ M2 rq sh.g1 (sa_cons (se_var 2 rfl (.inl sh.n2)) (sa_cons (se_var 3 rfl (.inl sh.n3)) sa_nil)) (fCons_len (fCons_len fun _ _ _ _ => fNil_len))) sa_nil)))))
    let ts : Addr → TS := fun a => Classical.choose (suite a)
    have tsP := fun a => Classical.choose_spec (suite a)
    have hvis : Vis (defScope st) "_law_act" := .inl sh.n0
    have act := fun (W : WX) (pn : List (Addr × Obj)) (xe : Value → Shared → Prop) (tk : Takes ((cxOf CX0 X.prog X.w X.K X.mg X.base NgT tn (defScope st) g cdv X.A X.stack s1 H1 fun _ _ _ => False).nox.tr pn xe) W) =>
      act_run (env := env) (i := 0) (p1 := p2) (p2 := p3) I1 L hf hfn hfr (hbind _ _ _ _ _) tk hrg (fun A o s H E => hv A o s H E f c') (fun A o s H E => hx A o s H E f c') rfl hvis (by decide) (by decide)
    have tr := ps_tryT (X := (cxOf CX0 X.prog X.w X.K X.mg X.base NgT tn (defScope st) g cdv X.A X.stack s1 H1 fun _ _ _ => False).nox) (i := 2) (n := "_law_e") (p1 := q1) (p2 := q2) (tp := q3) (kk := k1) (pos := r14) (pos' := r13) rfl rfl sh.sc.nd rfl sh.n2 sh.g2 mw sh.g3 mn (by decide) (by decide)
      (fun W pn xe tk _ => pss_one (ps_set (pos := p4) (pos' := p1) sh.sc.nd (i := 1) rfl (.inl sh.n1) (act W pn xe tk) (by rfl) (.inr sh.n1))) (ts := ts) (fun a => (tsP a).1)
    have ret := sss_one (ss_ret (ct := ct) (pos := u4) (se_tup (X := (cxOf CX0 X.prog X.w X.K X.mg X.base NgT tn (defScope st) g cdv X.A X.stack s1 H1 fun _ _ _ => False).nox) (k := k3) (pos := u3) (sa_cons (se_str (i := "returned") (j := jj) (pos := u1)) (sa_cons (se_var 1 (x := "_law_gave") (pos := u2) rfl (.inl sh.n1)) sa_nil))))
    obtain ⟨tret, pret, rret⟩ := ret
    refine ⟨_, (pss_cons tr pret).nox, ?_⟩
    have en0 : EnvR X.K ct m F1 [none, none, none, none] (L2.start NgT [.ref f]) := ⟨rfl, fun i d hi => by
      match i, hi with
      | 0, hi => cases hi
      | 1, hi => cases hi
      | 2, hi => cases hi
      | 3, hi => cases hi
      | _ + 4, hi => cases hi⟩
    refine ⟨rfl, m, F1, S, sim1, en1, hcf, ?_⟩
    cases ev : fv env S with
    | some r =>
      obtain ⟨d1, S1⟩ := r
      rw [ev] at ht
      cases ht
      refine .inl ⟨d1, _, rfl, fun m2 F2 v2 H2 x2 s2 r2 => ?_⟩
      exact rret m2 F2 _ _ H2 _ (.rt (.tup [.str "returned", d1])) _ _ s2 ((en0.mono x2).set 1 r2) rfl fun m3 F3 v3 H3 x3 s3 r3 => post1 m3 F3 v3 H3 (x2.trans x3) s3 r3
    | none =>
      rw [ev] at ht
      obtain ⟨⟨er, S1⟩, h1, ht⟩ := bind_some ht
      dsimp only at ht
      split at ht
      case isFalse => cases ht
      rename_i hcs
      obtain ⟨⟨w1, S2⟩, h2, ht⟩ := bind_some ht
      obtain ⟨⟨w2, S3⟩, h3, ht⟩ := bind_some ht
      cases ht
      refine .inr ⟨er, S1, h1, fun m2 F2 H2 cls dd x2 s2 r2 => ?_⟩
      obtain ⟨C, vs, e1, e2, e3, e4, e5⟩ := r2
      obtain ⟨C', z1, z2⟩ := et _ hcs
      rw [e1] at z1
      cases z1
      refine ⟨C, e2, z2, fun a na => ?_⟩
      obtain ⟨s3, x3⟩ := s2.frozen na (exk a C dd)
      refine (tsP a).2 m2 _ S1 _ _ [none, none, some (.exc er.1 er.2.1 er.2.2), none] (.rt (.tup [w1, w2])) _ _ s3 (((en0.mono x2).mono x3).set 2 ?_) ?_ fun m4 F4 v4 H4 x4 s4 r4 => post1 m4 F4 v4 H4 ((x2.trans x3).trans x4) s4 r4
      · refine ⟨a, C, dd, vs, rfl, e1, upd_same, ?_, e4, e5.mono x3⟩
        rcases e3 with z | ⟨dx, z, zd⟩
        · exact .inl z
        · exact .inr ⟨dx, z, x3.same _ _ zd⟩
      · show (sSeq _ _) _ _ = _
        simp only [fSuite, sSeq, sAsg, sRet, fCall, fCons, fNil, fVar, fTup, gN, List.getElem?_cons_zero, List.getElem?_cons_succ, Option.bind_some, h2, Option.map_some, List.set_cons_succ, List.set_cons_zero, h3]
        rfl
  refine wpAny_call (codeAny_mono main fun r s2 q => ?_)
  obtain ⟨u, rfl, z⟩ := behind I1 q
  exact z
end
end DL

namespace DL
open PySem PySem.Spec PyProof.Rows L2
/-! # Defs that make lambdas, and the law's end with their tables -/
def DefAtC (K : PySem.W.Frag) (mg : Str → Option Value) (x : Str) (st : Stmt) (ps : List Str) (c : Addr) (kwb : KWB := []) : Prop := ∃ (f : Addr) (fd : FuncData), Fun K x x st f fd ∧ mg x = some (.ref f) ∧ Binds K fd ps [] ∧ KwOk K fd ps 0 kwb ∧ fd.code = .ref c
section
variable {P : Program} {w : World} {K : PySem.W.Frag} {mg : Str → Option Value} {base : Heap} {ct : CT}
theorem def_okC {x qual : Str} {st : Stmt} {f c : Addr} {fd : FuncData} {N ps : List Str} {k : Nat} {g : FS} (F : Fun K x qual st f fd) (hc : fd.code = .ref c) (S : FnScope N ps (defScope st))
    (hbody : ∀ (A : Around) (outer : List Env) (s : Shared) (H : Hp) (E : XK), RoomG k (A.deeper (envOfC qual (defScope st) s.heap.objs.size f (.ref c))) →
      SSs ct (cxOf CX0 P w K mg base N qual (defScope st) f (.ref c) A outer s H E).nox (defBody st) g) : FnG P w K mg base (k + 1) f fd ps (spD K ct ps.length (runD N.length g)) := by
  obtain ⟨oc, od, kV, doc, pm, an, cdv, ctv, osl, rfl, lk, hcd⟩ := F.ex
  have hc : cdv = .ref c := hc
  subst hc
  refine fnG_of lk hcd S (fun vs H Q E h => h.1) (fun A outer s H vs Q E hr h => ?_)
  obtain ⟨hl, m, F', S0, ds, d, S', sim, reps, hg, post⟩ := h
  obtain ⟨t, pt, rt⟩ := hbody A outer s H E hr
  refine ⟨t, pt, ?_⟩
  obtain ⟨⟨fl, S1⟩, h1, h2⟩ := bind_some hg
  refine rt m F' S0 _ H _ fl S1 _ sim (start_env reps) h1 ?_
  cases fl with
  | rt d1 => cases h2; exact fun m' F1 v H' x1 s1 r1 => post m' F1 v H' x1 s1 r1
  | nx env1 => cases h2; exact fun m' F1 σ1 H' x1 s1 r1 => post m' F1 .non H' x1 s1 rfl
  | bk env1 => cases h2
  | ct env1 => cases h2
theorem calleeC_of {x : Str} {st : Stmt} {c : Addr} {N ps : List Str} {k : Nat} {g : FS} {kwb : KWB} (d : DefAtC K mg x st ps c kwb) (S : FnScope N ps (defScope st))
    (hbody : ∀ (f : Addr) (A : Around) (outer : List Env) (s : Shared) (H : Hp) (E : XK), RoomG k (A.deeper (envOfC x (defScope st) s.heap.objs.size f (.ref c))) →
      SSs ct (cxOf CX0 P w K mg base N x (defScope st) f (.ref c) A outer s H E).nox (defBody st) g) : Callee P w K mg base ct (k + 1) x ps.length (runD N.length g) kwb := by
  obtain ⟨f, fd, F, h1, h3, h4, h5⟩ := d
  exact ⟨f, fd, ps, h1, F.kp, ⟨h3, h4⟩, def_okC F h5 S (hbody f)⟩
/-! ## the end -/
variable {mb : Str → Option Value} {k : Nat} {fa a : Addr} {fd : FuncData} {x : Str} {sp : Sp} {s : Shared} {vs : List Value} {ns : List Int}
theorem lawT_core {G : Hp} {ts : List Addr} {cs : List (Addr × Addr)} (kin : K.In s.heap) (nsg : s.heap.Ns mainGlobals mg) (nsb : s.heap.Ns builtinsNs mb) (boot : ∀ y : Str, y ≠ "__name__" → mb y = bootBuiltins y) (lim : s.heap.NoLimit) (gn : s.gens = #[])
    (hcs : ∀ p ∈ cs, p.2 ∈ ts ∧ PySem.W.CodeHd s.heap p.1 p.2) (hts : ∀ b ∈ ts, ∃ p ∈ cs, p.2 = b) (tab : ∀ b ∈ ts, s.heap.get? b = some { cls := .none, data := .fields #[] }) (noK : ∀ b ∈ ts, K.lookup b = none)
    (hbm : ∃ (bm : Addr) (ob : Obj), mg "__builtins__" = some (.ref bm) ∧ bm ≠ builtinsNs ∧ s.heap.get? bm = some ob ∧ ob.cls = .type "module" ∧ ob.dict = some builtinsNs ∧ ob.data = .plain)
    (ha : s.heap.get? a = some { cls := .type "list", data := .seq vs.toArray }) (hr : Room k callerA) (F : ∀ base : Heap, K.In base → base.Ns mainGlobals mg → (∀ p ∈ cs, LamX.TabB base mg p.1 p.2) → FnG P w K mg base k fa fd [x] sp) (bind : ∀ (z : Shared) (u : Value), BindsTo z fd ⟨[u], []⟩ [(x, u)])
    (only : ∀ b, G b = none ∨ (b ∈ ts ∧ G b = some (.tbl #[])) ∨ ∃ o xs, G b = some (.frz o (.lst xs))) (hok : HOk P w G s.heap) (at_ : ∀ b, G b ≠ none → b = a ∨ b ∈ ts) (nk : G a ≠ none → K.lookup a = none) (hsp : sp [.ref a] G (fun v _ => v = .bl true) fun _ _ _ => False) :
    codeAny (model P w) callerA (.call (.ref fa) ⟨[.ref a], []⟩) (fun r z => r = .ok (.ret (.bool true)) ∧ OldK s.heap z.heap ∧ z.os = s.os ∧ AllBare z.gens) s := by
  have free : ∀ {b : Addr} {o : Obj}, s.heap.get? b = some o → (∀ us n, o.data ≠ .seq us n) → o.data ≠ .fields #[] → G b = none := fun {b o} e h1 h2 => by
    cases q : G b with
    | none => rfl
    | some _ =>
      rcases at_ b (by rw [q]; simp) with z | z
      · subst z
        rw [ha] at e
        cases e
        exact (h1 _ _ rfl).elim
      · rw [tab b z] at e
        cases e
        exact (h2 rfl).elim
  have nsd : ∀ {b : Addr} {m : Str → Option Value}, s.heap.Ns b m → (hidT s.heap G).Ns b m := fun {b m} ⟨o, es, ep, e, d, r⟩ => ⟨o, es, ep, hidT_get e (free e (fun us n z => by rw [d] at z; cases z) fun z => by rw [d] at z; cases z), d, r⟩
  have kb : K.In (hidT s.heap G) := fun b o e => hidT_get (kin b o e) (by
    cases q : G b with
    | none => rfl
    | some _ =>
      rcases at_ b (by rw [q]; simp) with z | z
      · subst z
        rw [nk (by rw [q]; simp)] at e
        cases e
      · rw [noK b z] at e
        cases e)
  have tabs : ∀ p ∈ cs, LamX.TabB (hidT s.heap G) mg p.1 p.2 := fun p hp => by
    obtain ⟨hp2, cd⟩ := hcs p hp
    refine ⟨?_, ?_, fun z => ?_⟩
    · obtain ⟨o, us, file, tf, flags, tg, inF, text, tt, e1, r1, r2, r3, rest⟩ := cd
      exact ⟨o, us, file, tf, flags, tg, inF, text, tt, hidT_get e1 (free e1 (fun us n z => by rw [r2] at z; cases z) fun z => by
        rw [r2] at z
        cases z
        simp at r3), r1, r2, r3, rest⟩
    · obtain ⟨bm, ob, b1, b2, b3, b4, b5, b6⟩ := hbm
      refine ⟨bm, ob, b1, b2, fun q => ?_, fun q => ?_, hidT_get b3 (free b3 (fun us n z => by rw [b6] at z; cases z) fun z => by rw [b6] at z; cases z), b4, b5, b6⟩
      · obtain ⟨o, es, ep, e, hd, _⟩ := nsg
        rw [q, e] at b3
        cases b3
        rw [hd] at b6
        cases b6
      · rw [q, tab _ hp2] at b3
        cases b3
        cases b6
    · obtain ⟨o, es, ep, e, hd, _⟩ := nsg
      rw [z, tab _ hp2] at e
      cases e
      cases hd
  obtain ⟨mc, l1, l2⟩ := lim
  have none0 : ∀ b : Addr, b ∈ frs [] → False := fun b h => by cases h
  refine codeAny_mono ((F _ kb (nsd nsg) tabs).run callerA [] s G ⟨[.ref a], []⟩ [.ref a] [.ref a] _ _ ⟨hr, rfl⟩ ⟨rfl, ⟨kb, nsd nsg, ⟨mb, nsd nsb, boot⟩, ⟨mc, nsd l1, l2⟩⟩, fun b o e => of_hidT e, Nat.le_of_eq (hidT_size _ _), trivial, fun b h => (none0 b h).elim, hok, .of_eq gn⟩
    (bind s (.ref a)) (.cons rfl .nil) hsp) fun r z h => ?_
  cases r with
  | error er => exact False.elim h
  | ok fl =>
    cases fl <;> first | exact False.elim h | skip
    rename_i u
    obtain ⟨v, G', os, bare, un, hok', ru, q⟩ := h
    have q : v = .bl true := q
    subst q
    have ru : u = Value.bool true := ru
    subst ru
    have stays : ∀ b o, b ∉ ts → s.heap.get? b = some o → z.heap.get? b = some o := fun b o nt e => by
      rcases only b with y | ⟨y, _⟩ | ⟨ob, xs, y⟩
      · exact un.keep b o e y (none0 b) (fun h => by cases h)
      · exact absurd y nt
      · have e1 := (hok b _ y).1
        rw [e] at e1
        cases e1
        exact (hok' b _ (un.frzs b _ _ y)).1
    have grown : ∀ b ∈ ts, ∃ more : Array Value, z.heap.get? b = some { cls := .none, data := .fields more } := fun b hb => by
      rcases only b with y | ⟨_, y⟩ | ⟨ob, xs, y⟩
      · obtain ⟨p, hp, rfl⟩ := hts b hb
        exact ⟨_, un.keep p.2 _ (tab _ hb) y (none0 _) (fun h => by cases h)⟩
      · obtain ⟨more, y'⟩ := un.tbls b #[] y
        exact ⟨_, hok' b _ y'⟩
      · have e1 := (hok b _ y).1
        rw [tab b hb] at e1
        cases e1
        exact ⟨_, (hok' b _ (un.frzs b _ _ y)).1⟩
    refine ⟨rfl, ⟨fun b o e => ?_, fun b o e => ?_⟩, os, bare⟩
    · by_cases hb : b ∈ ts
      · obtain ⟨p, hp, rfl⟩ := hts b hb
        obtain ⟨more, hm⟩ := grown _ hb
        rw [tab _ hb] at e
        cases e
        exact .inr (.inl ⟨((hcs p hp).2.tab (tab _ hb)).isCodeTable, rfl, #[], more, rfl, by rw [Array.empty_append]; exact hm⟩)
      · exact .inl (stays b o hb e)
    · by_cases hb : b ∈ ts
      · obtain ⟨more, hm⟩ := grown b hb
        exact ⟨_, hm⟩
      · exact ⟨o, stays b o hb e⟩
end
section
variable {P : Program} {w : World} {K : PySem.W.Frag} {mg mb : Str → Option Value} {base : Heap} {ct : CT} {k : Nat} {fa a : Addr} {fd : FuncData} {x : Str} {s : Shared} {vs : List Value} {ns : List Int}
def spScrT (K : PySem.W.Frag) (ts : List Addr) : Sp := fun vs H Q _ => ∃ (a : Addr) (ns : List Int), vs = [.ref a] ∧ SqL K H a (ns.map V.int) ∧ ns.length ≤ 63 ∧ (∀ b ∈ ts, H b = some (.tbl #[])) ∧ ∀ H', Q (.bl true) H'
theorem lawT {cs : List (Addr × Addr)} (kin : K.In s.heap) (nsg : s.heap.Ns mainGlobals mg) (nsb : s.heap.Ns builtinsNs mb) (boot : ∀ y : Str, y ≠ "__name__" → mb y = bootBuiltins y) (lim : s.heap.NoLimit) (gn : s.gens = #[])
    (hcs : ∀ p ∈ cs, PySem.W.CodeHd s.heap p.1 p.2) (tab : ∀ p ∈ cs, s.heap.get? p.2 = some { cls := .none, data := .fields #[] }) (noK : ∀ p ∈ cs, K.lookup p.2 = none)
    (hbm : ∃ (bm : Addr) (ob : Obj), mg "__builtins__" = some (.ref bm) ∧ bm ≠ builtinsNs ∧ s.heap.get? bm = some ob ∧ ob.cls = .type "module" ∧ ob.dict = some builtinsNs ∧ ob.data = .plain)
    (ha : s.heap.get? a = some { cls := .type "list", data := .seq vs.toArray }) (hi : IntsAre vs ns) (hl : ns.length ≤ 63) (hr : Room k callerA)
    (F : ∀ base : Heap, K.In base → base.Ns mainGlobals mg → (∀ p ∈ cs, LamX.TabB base mg p.1 p.2) → FnG P w K mg base k fa fd [x] (spScrT K (cs.map (·.2)))) (bind : ∀ (z : Shared) (u : Value), BindsTo z fd ⟨[u], []⟩ [(x, u)]) :
    codeAny (model P w) callerA (.call (.ref fa) ⟨[.ref a], []⟩) (fun r z => r = .ok (.ret (.bool true)) ∧ OldK s.heap z.heap ∧ z.os = s.os ∧ AllBare z.gens) s := by
  have inT : ∀ p ∈ cs, p.2 ∈ cs.map (·.2) := fun p hp => List.mem_map.mpr ⟨p, hp, rfl⟩
  have ofT : ∀ b ∈ cs.map (·.2), ∃ p ∈ cs, p.2 = b := fun b hb => List.mem_map.mp hb
  have tabT : ∀ b ∈ cs.map (·.2), s.heap.get? b = some { cls := .none, data := .fields #[] } := fun b hb => by
    obtain ⟨p, hp, rfl⟩ := ofT b hb
    exact tab p hp
  have noT : ∀ b ∈ cs.map (·.2), K.lookup b = none := fun b hb => by
    obtain ⟨p, hp, rfl⟩ := ofT b hb
    exact noK p hp
  have aT : a ∉ cs.map (·.2) := fun z => by
    have q := tabT a z
    rw [ha] at q
    cases congrArg Obj.data (Option.some.inj q)
  have line : ns.length ≤ sizeLine := Nat.le_trans hl (by decide)
  cases hk : K.lookup a with
  | some o =>
    have e := kin a o hk
    rw [ha] at e
    cases e
    refine lawT_core (G := fun b => if b ∈ cs.map (·.2) then some (.tbl #[]) else none) (ts := cs.map (·.2)) kin nsg nsb boot lim gn (fun p hp => ⟨inT p hp, hcs p hp⟩) ofT tabT noT hbm ha hr F bind (fun b => ?_) (fun b u y => ?_) (fun b y => ?_) (fun y => absurd (if_neg aT) y)
      ⟨a, ns, rfl, .inr ⟨_, vs.toArray, _, hk, rfl, rfl, rfl, by rw [List.size_toArray, hi.length]; exact line, by simpa using vals_ints hi⟩, hl, fun b hb => if_pos hb, fun _ => rfl⟩
    · by_cases hb : b ∈ cs.map (·.2)
      · exact .inr (.inl ⟨hb, if_pos hb⟩)
      · exact .inl (if_neg hb)
    · by_cases hb : b ∈ cs.map (·.2)
      · have y2 := (if_pos hb).symm.trans y
        cases y2
        exact tabT b hb
      · cases (if_neg hb).symm.trans y
    · by_cases hb : b ∈ cs.map (·.2)
      · exact .inr hb
      · exact absurd (if_neg hb) y
  | none =>
    have ne : ∀ b ∈ cs.map (·.2), b ≠ a := fun b hb z => aT (z ▸ hb)
    refine lawT_core (G := fun b => if b = a then some (.frz { cls := .type "list", data := .seq vs.toArray } (.lst (ns.map V.int))) else if b ∈ cs.map (·.2) then some (.tbl #[]) else none) (ts := cs.map (·.2)) kin nsg nsb boot lim gn (fun p hp => ⟨inT p hp, hcs p hp⟩) ofT tabT noT hbm ha hr F bind
      (fun b => ?_) (fun b u y => ?_) (fun b y => ?_) (fun _ => hk) ⟨a, ns, rfl, .inl (.inr ⟨_, if_pos rfl⟩), hl, fun b hb => (if_neg (ne b hb)).trans (if_pos hb), fun _ => rfl⟩
    · by_cases h1 : b = a
      · exact .inr (.inr ⟨_, _, if_pos h1⟩)
      · by_cases h2 : b ∈ cs.map (·.2)
        · exact .inr (.inl ⟨h2, (if_neg h1).trans (if_pos h2)⟩)
        · exact .inl ((if_neg h1).trans (if_neg h2))
    · by_cases h1 : b = a
      · subst h1
        have y2 := (if_pos rfl).symm.trans y
        cases y2
        exact ⟨ha, by rw [List.length_map]; exact line, vs, _, vals_ints hi, ha⟩
      · by_cases h2 : b ∈ cs.map (·.2)
        · have y2 := ((if_neg h1).trans (if_pos h2)).symm.trans y
          cases y2
          exact tabT b h2
        · cases ((if_neg h1).trans (if_neg h2)).symm.trans y
    · by_cases h1 : b = a
      · exact .inl h1
      · by_cases h2 : b ∈ cs.map (·.2)
        · exact .inr h2
        · exact absurd ((if_neg h1).trans (if_neg h2)) y
theorem law_scrT {g : FD} {qs : List (Str × Addr)} (hq : ∀ p ∈ qs, ct p.1 = some p.2) (nd : (qs.map (·.2)).Nodup) (G : FnG P w K mg base k fa fd [x] (spD K ct 1 g)) (h : ∀ ns : List Int, ns.length ≤ 63 → ∃ S', g [.scr ns] (qs.map fun p => .tab p.1) = some (.bl true, S')) :
    FnG P w K mg base k fa fd [x] (spScrT K (qs.map (·.2))) := by
  refine G.imp fun vs H Q E hs => ?_
  obtain ⟨a, ns, rfl, hS, hl, ht, q⟩ := hs
  obtain ⟨S', h⟩ := h ns hl
  have at_ : ∀ (i : Nat) (b : Addr), (qs.map (·.2))[i]? = some b → H b = some (.tbl #[]) := fun i b hb => ht b (List.mem_of_getElem? hb)
  have keep : ∀ {b : Addr} {o : HO}, H b = some o → (∀ ps, o ≠ .tbl ps) → (if b ∈ qs.map (·.2) then none else H b) = some o := fun {b o} e n => by
    rw [if_neg]
    · exact e
    · intro hm
      rw [ht b hm] at e
      exact n _ (Option.some.inj e).symm
  have hS2 : SqL K (fun b => if b ∈ qs.map (·.2) then none else H b) a (ns.map V.int) := by
    rcases hS with (z | ⟨o, z⟩) | z
    · exact .inl (.inl (keep z fun ps e => by cases e))
    · exact .inl (.inr ⟨o, keep z fun ps e => by cases e⟩)
    · exact .inr z
  refine ⟨rfl, qs.map (·.2), fun b => if b ∈ qs.map (·.2) then none else H b, qs.map fun p => .tab p.1, [.scr ns], .bl true, S', ⟨fun b o e => ?_, by simp, nd, fun b hb => if_pos hb, fun i b c h1 h2 => ?_, fun i b c y h1 h2 h3 => ?_⟩, ⟨_, _, rfl, ⟨a, rfl, hS2⟩, rfl⟩, h, fun m' F' v H' _ _ r => ?_⟩
  · by_cases hb : b ∈ qs.map (·.2)
    · have e : (if b ∈ qs.map (·.2) then none else H b) = some o := e
      rw [if_pos hb] at e
      cases e
    · have e : (if b ∈ qs.map (·.2) then none else H b) = some o := e
      rw [if_neg hb] at e
      exact e
  · rw [List.getElem?_map] at h2
    obtain ⟨p, z1, z2⟩ := map_some h2
    subst z2
    exact ⟨#[], at_ i b h1, trivial, fun pos cv hc => by
      have z : codeAmong pos [] = some cv := hc
      simp [codeAmong] at z⟩
  · rw [List.getElem?_map] at h1 h2
    obtain ⟨p, z1, z2⟩ := map_some h2
    rw [z1] at h1
    cases h1
    subst z2
    cases h3
    exact hq p (List.mem_of_getElem? z1)
  · have r : v = .bl true := r
    rw [r]
    exact q H'
end
theorem walkGT {l : PySem.W.OpenLaw} {k : Nat} {q : Program} {loose : List Str} {XP : (Str → Option Value) → Heap → Prop} {YP : World → Heap → Prop} {d : DefRec} {K : Params → PySem.W.Frag} {x : Str}
    (hn : l.most = some 63) (hdf : d.params.defaults = []) (hr : Room k callerA) (hY : ∀ (w : World) (h : Heap), YP w h → (K w.params).In h)
    (F : ∀ (w : World) (mg : Str → Option Value) (fa : Addr) (h : Heap), YP w h → (K w.params).In h → h.Ns mainGlobals mg → mg d.name = some (.ref fa) →
      ∃ (fd : FuncData) (cs : List (Addr × Addr)), (∀ p ∈ cs, PySem.W.CodeHd h p.1 p.2) ∧ (∀ p ∈ cs, h.get? p.2 = some { cls := .none, data := .fields #[] }) ∧ (∀ p ∈ cs, (K w.params).lookup p.2 = none) ∧ (∀ (z : Shared) (u : Value), BindsTo z fd ⟨[u], []⟩ [(x, u)]) ∧
        ∀ base : Heap, (K w.params).In base → base.Ns mainGlobals mg → (∀ p ∈ cs, LamX.TabB base mg p.1 p.2) → FnG l.prog w (K w.params) mg base k fa fd [x] (spScrT (K w.params) (cs.map (·.2)))) :
    PySem.W.WalkO q loose XP YP l.row.toRowW d [] (fun f vs => PySem.call f vs) := by
  refine Att.attach_call hn hdf fun w s₀ s₁ mg mb fa o pm cd doc a vs ns G Y ho hd hcd hmg hobj hints hlen hg => ?_
  obtain ⟨fd, cs, h1, h2, h3, hb, hF⟩ := F w mg fa _ Y (hY w _ Y) G.T.g hmg
  exact lawT (hY w _ Y) G.T.g G.T.b G.T.builtins G.T.nolimit hg h1 h2 h3 G.T.bmain hobj hints hlen hr hF hb
end DL

namespace DL
open PySem PySem.Spec PyProof.Rows L2
/-! # What the head tells of the errors' classes -/
abbrev tlVE : List Value := [.type "ValueError", .type "Exception", .type "BaseException", .type "object"]
abbrev tlAE : List Value := [.type "ArithmeticError", .type "Exception", .type "BaseException", .type "object"]
def exB (K : PySem.W.Frag) (C : Addr) (tl : List Value) (newId : String) : Bool := match K.lookup C with
  | some ⟨.type "type", _, .cls cd, sl⟩ => (match cd.mro, sl.toList with
    | .ref C' :: bm, [_, _, _, _, some (.builtin n), _] => C' == C && n == newId && !cd.hasDel && refsB tl bm && cd.hasDict
    | _, _ => false)
  | _ => false
theorem exB_cls {K : PySem.W.Frag} {C : Addr} {tl : List Value} {newId : String} (h : exB K C tl newId = true) : ∃ nm q N bs bm sn sub ab col dd k0 k1 k2 k3 k5, K.lookup C = some (excClassObj nm q C N bs bm true sn sub ab col dd k0 k1 k2 k3 k5 newId) ∧ refsB tl bm = true := by
  unfold exB at h
  split at h
  case h_2 => cases h
  rename_i dd cd sl lk
  split at h
  case h_2 => cases h
  rename_i C' bm k0 k1 k2 k3 n k5 hm hs
  simp only [Bool.and_eq_true, beq_iff_eq, Bool.not_eq_true'] at h
  obtain ⟨⟨⟨⟨e1, e2⟩, e3⟩, e4⟩, e5⟩ := h
  obtain ⟨nm, bs, mro, N, q, hd, sn, sub, ab, col, del⟩ := cd
  dsimp only at hm e3 e5
  subst hm e3 e5 e1 e2
  have es : sl = #[k0, k1, k2, k3, some (.builtin n), k5] := by
    obtain ⟨l⟩ := sl
    simp only at hs
    rw [hs]
  subst es
  exact ⟨nm, q, N, bs, bm, sn, sub, ab, col, dd, k0, k1, k2, k3, k5, lk, e4⟩
structure ExAll (K : PySem.W.Frag) (C : Addr) (fs : List Str) (c1 c2 : Addr) (row : List (Addr × Bool)) : Prop where
  oex : OexB K C
  ex : ExcC K C
  xf : XfC K C
  no : ∀ f ∈ fs, PySem.W.findIn K (.ref C) f = some none
  hit : PySem.W.exmAny K (.ref C) [.ref c1, .ref c2] = some true
  kit : ∀ p ∈ row, PySem.W.kitOne K (.ref C) (.ref p.1) = some p.2
def exAllB (K : PySem.W.Frag) (C : Addr) (ve : Bool) (fs : List Str) (c1 c2 : Addr) (row : List (Addr × Bool)) : Bool :=
  (if ve then exB K C tlVE "ValueError.__new__" else exB K C tlAE "ArithmeticError.__new__") && decide (PySem.W.findIn K (.ref C) "__setattr__" = some (some (.builtin "object.__setattr__"))) && decide (PySem.W.subIn K (.ref C) (.type "BaseException") = some true) &&
  decide (PySem.W.typeIn K (.ref C) = some (.type "type")) && PySem.W.keepIn K (.ref C) && decide (PySem.W.findIn K (.ref C) "__getattribute__" = some (some (.builtin "BaseException.__getattribute__"))) && decide (PySem.W.findIn K (.ref C) "__getattr__" = some none) &&
  PySem.W.hasDictIn K C && decide (PySem.W.findIn K (.ref C) "__class__" = some (some (.builtin "object.__class__"))) && decide (PySem.W.specialIn K (.builtin "object.__class__") "__get__" = some (some (.builtin "getset_descriptor.__get__"))) && decide (PySem.W.takesIn K (.builtin "object.__class__") = some true) &&
  decide (PySem.W.mroIn K C (.type "object") = some true) && (fs.all fun f => decide (PySem.W.findIn K (.ref C) f = some none)) && decide (PySem.W.exmAny K (.ref C) [.ref c1, .ref c2] = some true) && row.all fun p => decide (PySem.W.kitOne K (.ref C) (.ref p.1) = some p.2)
theorem exAll_of {K : PySem.W.Frag} {C : Addr} {ve : Bool} {fs : List Str} {c1 c2 : Addr} {row : List (Addr × Bool)} (h : exAllB K C ve fs c1 c2 row = true) : ExAll K C fs c1 c2 row := by
  unfold exAllB at h
  simp only [Bool.and_eq_true, decide_eq_true_eq, List.all_eq_true] at h
  obtain ⟨⟨⟨⟨⟨⟨⟨⟨⟨⟨⟨⟨⟨⟨a1, a2⟩, a3⟩, a4⟩, a5⟩, a6⟩, a7⟩, a8⟩, a9⟩, a10⟩, a11⟩, a12⟩, a13⟩, a14⟩, a15⟩ := h
  refine ⟨⟨?_, a2, a3, a4, a5⟩, ⟨a6, a7, a3, a8, a9, a10, a11, a12⟩, ⟨a6, a7, a3, a8⟩, a13, a14, a15⟩
  cases ve with
  | true =>
    obtain ⟨nm, q, N, bs, bm, sn, sub, ab, col, dd, k0, k1, k2, k3, k5, lk, e⟩ := exB_cls (show exB K C tlVE "ValueError.__new__" = true from a1)
    exact ⟨_, _, _, _, nm, q, N, bs, bm, sn, sub, ab, col, dd, k0, k1, k2, k3, k5, base_VE, lk, e⟩
  | false =>
    obtain ⟨nm, q, N, bs, bm, sn, sub, ab, col, dd, k0, k1, k2, k3, k5, lk, e⟩ := exB_cls (show exB K C tlAE "ArithmeticError.__new__" = true from a1)
    exact ⟨_, _, _, _, nm, q, N, bs, bm, sn, sub, ab, col, dd, k0, k1, k2, k3, k5, base_AE, lk, e⟩
/-! ## what raises them -/
def RaiseAt (K : PySem.W.Frag) (mg : Str → Option Value) (ct : CT) (c : Str) (st : Stmt) (ps fs : List Str) : Prop := ∃ (C fI : Addr) (fd : FuncData) (qual : Str), mg c = some (.ref C) ∧ ct c = some C ∧ OexB K C ∧ PySem.W.findIn K (.ref C) "__init__" = some (some (.ref fI)) ∧
  PySem.W.typeIn K (.ref fI) = some (.type "function") ∧ Binds K fd ps [] ∧ Fun K "__init__" qual st fI fd ∧ ∀ f ∈ fs, PySem.W.findIn K (.ref C) f = some none
def RaiserM (P : Program) (w : World) (K : PySem.W.Frag) (mg : Str → Option Value) (base : Heap) (ct : CT) (k : Nat) (c : Str) (fs : List Str) : Prop := ∃ j, j + 1 ≤ k ∧ Raiser P w K mg base ct j c fs
section
variable {P : Program} {w : World} {K : PySem.W.Frag} {mg : Str → Option Value} {base : Heap} {ct : CT} {c : Str} {st : Stmt} {p1 p2 p3 p4 p5 p6 p7 p8 : Pos}
theorem RaiserM.mono {j k : Nat} {fs : List Str} (r : RaiserM P w K mg base ct j c fs) (h : j ≤ k) : RaiserM P w K mg base ct k c fs := by
  obtain ⟨i, h1, h2⟩ := r
  exact ⟨i, by omega, h2⟩
theorem raiser1 {f : Str} (T : RaiseAt K mg ct c st ["self", f] [f]) (S : FnScope ["self", f] ["self", f] (defScope st)) (hb : defBody st = [.Assign [.Attribute (.Name "self" p1) f p2] (.Name f p3) p4]) (v1 : Vis (defScope st) "self") (v2 : Vis (defScope st) f)
    (d2 : (f == ("__debug__" : Str)) = false := by decide) (d4 : (f == ("__classdict__" : Str)) = false := by decide) : RaiserM P w K mg base ct 2 c [f] := by
  obtain ⟨C, fI, fd, qual, h1, h2, h3, h4, h5, h6, h7, h8⟩ := T
  exact ⟨1, Nat.le_refl _, C, fI, fd, _, h1, h2, h3, h4, h5, h6, .inl ⟨f, rfl, h8 f (by simp), init1_ok (k := 0) h7 S hb v1 v2 (by decide) d2 (by decide) d4⟩⟩
theorem raiser2 {f g : Str} (T : RaiseAt K mg ct c st ["self", f, g] [g, f]) (S : FnScope ["self", f, g] ["self", f, g] (defScope st)) (hb : defBody st = [.Assign [.Attribute (.Name "self" p1) f p2] (.Name f p3) p4, .Assign [.Attribute (.Name "self" p5) g p6] (.Name g p7) p8])
    (v1 : Vis (defScope st) "self") (v2 : Vis (defScope st) f) (v3 : Vis (defScope st) g) (d2 : (f == ("__debug__" : Str)) = false := by decide) (d4 : (f == ("__classdict__" : Str)) = false := by decide) (d5 : (g == ("__debug__" : Str)) = false := by decide) (d6 : (g == ("__classdict__" : Str)) = false := by decide) : RaiserM P w K mg base ct 2 c [g, f] := by
  obtain ⟨C, fI, fd, qual, h1, h2, h3, h4, h5, h6, h7, h8⟩ := T
  exact ⟨1, Nat.le_refl _, C, fI, fd, _, h1, h2, h3, h4, h5, h6, .inr ⟨f, g, rfl, h8 f (by simp), h8 g (by simp), init2_ok (k := 0) h7 S hb v1 v2 v3 (by decide) d2 (by decide) d4 d5 d6⟩⟩
end
section
variable {ct : CT} {X : Cx} {E : XK} {k : Nat} {c : Str} {fs : List Str} {e : Expr} {es : List Expr} {fas : FA} {p pos pos' : Pos}
theorem xs_raiseM (R : RaiserM X.prog X.w X.K X.mg X.base ct k c fs) (hc : X.calm = true) (tk : Lets X E) (hr : RoomG k X.A) (hg : Gl X c) (ha : SA ct X (e :: es) fas) (hdb : (c == ("__debug__" : Str)) = false := by decide)
    (hst : starEach (e :: es) X.env = (false, eval e X.env) :: starEach es X.env := by rfl) (hpl : (backTo pos (starEach es X.env)).any (·.1) = false := by rfl) : XS1 ct X E (.Raise (some (.Call (.Name c p) (e :: es) [] pos)) none pos') (xRaise c fs fas) := by
  obtain ⟨j, hj, R⟩ := R
  exact xs_raise R hc tk (hr.mono hj) hg ha hdb hst hpl
theorem lets_lam {Y : Cx} {A : Around} {outer : List Env} {s : Shared} {H : Hp} {E : XK} {scope : Scope} {f c' : Addr} : Lets (LamX.lamCx Y A outer s H E scope f c') E := takes_of rfl rfl rfl rfl
theorem call_reprQ {k : Nat} (hr : RoomQ k X.A) : CallR X (.builtin "repr") (rRepr X.K) := by
  intro pins s σ H xs us Q I r h
  obtain ⟨v, pd, rfl, hd, ⟨h1, h2, h3, h4⟩, q⟩ := h
  obtain ⟨u, rfl, ru⟩ := vals1 r
  obtain ⟨as, rd⟩ := Dp.reads I pd v u hd ru
  have hu : X.A.units + (pd.depth + 1) < cLine := by
    have := hr.units
    omega
  have main : ∀ a, u = .ref a → wpAny (model X.prog X.w) X.A (call (.builtin "repr") [u]) (EP X pins σ Q) X.xe s := by
    rintro a rfl
    exact repr_of_reads' (h₀ := s.heap) rd h1 (PyData.noDict_hsm h2) hr.gd hu (fun _ _ e => e) (fun h' w tk hk => ⟨.str _, H, I.kept hk, ⟨_, rfl⟩, q⟩) h4
  cases hd with
  | non => obtain rfl : u = .none := ru; exact PySem.P.repr_of_none ⟨.str _, H, I.tok _, ⟨_, rfl⟩, q⟩
  | bl b => obtain rfl : u = .bool b := ru; exact PySem.P.repr_of_bool ⟨.str _, H, I.tok _, ⟨_, rfl⟩, q⟩
  | int i => obtain ⟨t, rfl⟩ := ru; exact PySem.P.repr_of_int (of_decide_eq_true h1) ⟨.str _, H, I.tok _, ⟨_, rfl⟩, q⟩
  | str y => obtain ⟨t, rfl⟩ := ru; exact PySem.P.repr_of_str ⟨.str _, H, I.tok _, ⟨_, rfl⟩, q⟩ h4
  | tup _ _ => exact main _ ru
  | lst _ _ => exact main _ ru
end
/-- the name under which a def's lambdas go -/
abbrev lamQ (x : Str) : Str := x ++ ".<locals>." ++ "<lambda>"
/-! ## repr, the empty dict too -/
def rReprA (K : PySem.W.Frag) : List V → Hp → VK → Prop := fun xs H Q => rRepr K xs H Q ∨ ∃ a, xs = [.ref a] ∧ H a = some (.dK []) ∧ Q (.str "{}") H
theorem call_reprA {X : Cx} {k : Nat} (hr : RoomQ k X.A) : CallR X (.builtin "repr") (rReprA X.K) := by
  intro pins s σ H xs us Q I r h
  rcases h with h | ⟨a, rfl, ha, q⟩
  · exact call_reprQ hr pins s σ H xs us Q I r h
  · obtain ⟨u, rfl, ru⟩ := vals1 r
    have ru : u = Value.ref a := ru
    subst ru
    obtain ⟨_, hm, vs, kv, o, es, ep, e1, e2, e3, e4, e5, e6⟩ := I.hok a _ ha
    cases kv
    have he : es.toList = [] := by
      cases hl : es.toList with
      | nil => rfl
      | cons y r =>
        rw [hl] at e5
        cases e5
    have rd : Reads s.heap (.ref a) (.dict []) (a :: [] ++ []) := .dict e1 e2.1 e3 (by rw [he]; exact .nil) (by rw [he]; exact .nil)
    exact repr_of_reads' (h₀ := s.heap) rd (by decide +kernel) (fun _ z => by
      rw [List.append_nil, List.mem_singleton] at z
      rw [z] at hm
      simp at hm) hr.gd (by have := hr.units; show X.A.units + (PyData.depth (.dict []) + 1) < cLine; rw [show PyData.depth (.dict []) = 1 from by decide +kernel]; omega) (fun _ _ e => e) (fun h' w tk hk => ⟨.str _, H, I.kept hk, ⟨_, rfl⟩, q⟩) (by decide +kernel)
def cReprA : FD
  | [.dct [] []], S => some (.str "{}", S)
  | ds, S => cRepr ds S
theorem cd_reprA {ct : CT} {K : PySem.W.Frag} : CallD ct K (rReprA K) cReprA := by
  intro m F S H xs ds d S' Q s r h p
  unfold cReprA at h
  split at h
  · cases h
    obtain ⟨v, e1, e2⟩ := reps1 r
    obtain ⟨a, vs, q1, q2, q3, q4⟩ := e2
    have q4 : vs = [] := q4
    subst q4 q1 e1
    exact .inr ⟨a, rfl, s.same _ _ q2, p.now s rfl⟩
  · exact .inl (cd_repr m F S H xs _ d S' Q s r h p)
theorem CalleeQ.mono {P : Program} {w : World} {K : PySem.W.Frag} {mg : Str → Option Value} {base : Heap} {ct : CT} {j k n : Nat} {x : Str} {g : FD} (c : CalleeQ P w K mg base ct j x n g) (h : j ≤ k) : CalleeQ P w K mg base ct k x n g := by
  obtain ⟨f, fd, ps, h1, h2, h3, h4⟩ := c
  exact ⟨f, fd, ps, h1, h2, h3, h4.len, fun A o s H ar us vs Q E r => h4.run A o s H ar us vs Q E (r.mono h)⟩
theorem ToldOk.mono {P : Program} {w : World} {K : PySem.W.Frag} {mg : Str → Option Value} {base : Heap} {ct : CT} {j k : Nat} {tn : Str} {cs : List Str} {gs ga : FD} (c : ToldOk P w K mg base ct j tn cs gs ga) (h : j ≤ k) : ToldOk P w K mg base ct k tn cs gs ga := by
  obtain ⟨st, g, fd, c1, c2, h1, h2, h3, h4, h5, h6, h7, h8, h9⟩ := c
  exact ⟨st, g, fd, c1, c2, h1, h2, h3, h4, h5, h6, h7, h8.mono h, h9.mono h⟩
end DL

namespace DL
open PySem PySem.Spec PyProof.Rows L2
/-! # A list's cell compared with a list -/
def drf (S : Sto) : D → D
  | .ref k => match S[k]? with
    | some (.lst ds) => .lst ds
    | _ => .ref k
  | d => d
theorem drf_dp {K : PySem.W.Frag} {ct : CT} {m : List Addr} {F H : Hp} {S : Sto} {d : D} {v : V} {p : PyData} (s : Sim K ct m F S H) (r : Rep K ct m F d v) (h : toP (drf S d) = some p) : Dp K H v p := by
  cases d with
  | ref k =>
    unfold drf at h
    dsimp only at h
    split at h
    · rename_i ds hk
      obtain ⟨a, e1, e2⟩ := r
      obtain ⟨vs, q1, q2⟩ := s.cell _ a _ e1 hk
      subst e2
      obtain ⟨ps, z1, z2⟩ := map_some (show (toPs ds).map PyData.list = _ from h)
      subst z2
      exact .lst (SqL.of q1) (Reps.dp s.same ds vs ps q2 z1)
    · cases h
  | _ => exact Rep.dp s.same _ v p r h
def gNeR : D → D → Sto → Option (D × Sto) := fun x y S => (eqDeep true (drf S x) (drf S y)).map fun d => (d, S)
def gEqR : D → D → Sto → Option (D × Sto) := fun x y S => (eqDeep false (drf S x) (drf S y)).map fun d => (d, S)
section
variable {K : PySem.W.Frag} {ct : CT}
theorem od_neR : OpD ct K (rNeAll K) gNeR := by
  intro m F S H x y dx dy d S' Q s rx ry h p
  obtain ⟨z, h1, h2⟩ := map_some h
  cases h2
  obtain ⟨u, g1, h⟩ := bind_some h1
  obtain ⟨w, g2, h⟩ := bind_some h
  split at h
  case isFalse => cases h
  rename_i hs
  cases h
  exact .inr ⟨u, w, drf_dp s rx g1, drf_dp s ry g2, hs.1, hs.2, p.now s rfl⟩
theorem od_eqR : OpD ct K (rEqAll K) gEqR := by
  intro m F S H x y dx dy d S' Q s rx ry h p
  obtain ⟨z, h1, h2⟩ := map_some h
  cases h2
  obtain ⟨u, g1, h⟩ := bind_some h1
  obtain ⟨w, g2, h⟩ := bind_some h
  split at h
  case isFalse => cases h
  rename_i hs
  cases h
  exact .inr ⟨u, w, drf_dp s rx g1, drf_dp s ry g2, hs.1, hs.2, p.now s rfl⟩
end
end DL

namespace DL
open PySem PySem.Spec PyProof.Rows L2
/-! # enumerate of a tuple -/
set_option maxHeartbeats 1000000 in
theorem meets_enumerate_new1 {v : Value} {o : Obj} {H : Heap → Prop} (B : Begins v o H) :
    Meets (Builtin.«enumerate.__new__» ⟨[.type "enumerate", v], []⟩) (fun _ R s => H s.heap ∧
      R (.ok (.ret (.ref (s.heap.push o).objs.size))) { s with heap := (s.heap.push o).push { cls := .type "enumerate", data := .fields #[.none, .bool false, .ref s.heap.objs.size, rawInt 0, .none, .none] } }) :=
  .of_wp fun prog w A R s h => by
    obtain ⟨hp, g, d, tk, os⟩ := s; obtain ⟨h1, h⟩ := h
    have hsub := sub_enumerate
    have q1 : ∀ {A' : Around} {E : Value → Shared → Prop} {Q : Value → Shared → Prop}, Q (.ref hp.objs.size) ⟨hp.push o, g, d, tk, os⟩ → wpAny (model prog w) A' (pyIter v) Q E ⟨hp, g, d, tk, os⟩ :=
      fun q => B.iter prog w _ _ ⟨hp, g, d, tk, os⟩ _ h1 q
    wp_walk using q1
    refine wpAny_stack_any fun st => wpAny_pure ?_
    split
    · rename_i c _ _ _ _ _
      cases (c == Value.type "enumerate")
      · wp_walk using q1
        exact ⟨_, rfl, h⟩
      · wp_walk using q1
        exact ⟨_, rfl, h⟩
    · wp_walk using q1
      exact ⟨_, rfl, h⟩
theorem enum_begin1 {prog : Program} {w : World} {A : Around} {E : Value → Shared → Prop} {s : Shared} {v : Value} {o : Obj} {H : Heap → Prop} {Q : Value → Shared → Prop} (B : Begins v o H) (h1 : H s.heap)
    (h : ∀ h', IsEnum h' (s.heap.objs.size + 1) s.heap.objs.size 0 .none → h'.get? s.heap.objs.size = some o → h'.objs.size = s.heap.objs.size + 2 →
      (∀ b o, s.heap.get? b = some o → h'.get? b = some o) → Q (.ref (s.heap.objs.size + 1)) { s with heap := h' }) :
    wpAny (model prog w) A (call (.type "enumerate") [v]) Q E s := by
  refine callType_new F.called_enumerate (by decide) (F.typeCall_enumerate_1 _) (F.newCall_enumerate_1 _) (fun obj => F.args_object_init_2 obj _) F.entry_enumerate_new
    (meets_enumerate_new1 B) ⟨h1, ?_⟩
  have hz : (s.heap.push o).objs.size = s.heap.objs.size + 1 := Heap.size_push ..
  show _ ∧ _
  rw [hz]
  have he : IsEnum ((s.heap.push o).push { cls := .type "enumerate", data := .fields #[.none, .bool false, .ref s.heap.objs.size, rawInt 0, .none, .none] }) (s.heap.objs.size + 1) s.heap.objs.size 0 .none := by
    have := Heap.get?_push_size (s.heap.push o) (o := { cls := .type "enumerate", data := .fields #[.none, .bool false, .ref s.heap.objs.size, rawInt 0, .none, .none] }) rfl
    rw [hz] at this; exact this
  refine ⟨⟨_, he, rfl⟩, h _ he (Heap.get?_push_of_some _ (Heap.get?_push_size _ B.free)) (by rw [Heap.size_push, hz]) fun b o x => Heap.get?_push_of_some _ (Heap.get?_push_of_some _ x)⟩
/-- the tuple at a, each item in a new pair -/
def IteT (K : PySem.W.Frag) (a : Addr) (xs : List V) : It :=
  ⟨fun i H => SqT K H a xs ∧ i < xs.length, fun i H v H' => ∃ T x, v = .ref T ∧ H T = none ∧ H' = upd H T (.tup [.int (i : Nat), x]) ∧ xs[i]? = some x, fun i H => SqT K H a xs ∧ xs.length = i⟩
theorem turn_enumT {P : Program} {w : World} {K : PySem.W.Frag} {elts : List Expr} {kk : Nat} {tpos : Pos} (a e it : Addr) (xs : List V) :
    Turn P w K (.Tuple elts kk tpos) (IteT K a xs) [e, it] e (fun i h => (∃ old, IsEnum h e it ((i : Nat) : Int) old) ∧ h.IsTupleIter it a i ∧ e ≠ it ∧ e ≠ a ∧ a ≠ it) where
  mem := by simp
  obj := fun i h st b hb => by
    obtain ⟨⟨old, he⟩, ⟨o, ho, hc, hd⟩, _⟩ := st
    have e' : b = e ∨ b = it := by simpa using hb
    rcases e' with z | z
    · rw [z]; exact ⟨_, he, fun v q => nomatch q⟩
    · rw [z]; exact ⟨o, ho, fun v q => by rw [hd] at q; cases q⟩
  keep := fun i h h' st k => let ⟨⟨old, he⟩, hi, hne⟩ := st; ⟨⟨old, k e (by simp) _ he⟩, hi.at fun o q => k it (by simp) o q, hne⟩
  item := by
    intro X hP hw hK hc i pins s σ H E I hf st hg
    subst hP hw hK
    obtain ⟨⟨old, he⟩, hit, hne, hea, hai⟩ := st
    obtain ⟨hq, hi⟩ := hg
    obtain ⟨its, rv, p, hz⟩ := I.tuple hq
    have hl := rv.length
    have hel : e < s.heap.objs.size := Heap.lt_size he
    have hil : it < s.heap.objs.size := by obtain ⟨_, q, _⟩ := hit; exact Heap.lt_size q
    refine wpAny_pyNext_enum_itemD (Draws.tuple (A := X.A.in1) (I.ok.hd hc) it a hai its.toArray) he ⟨hit, p⟩ (by simp; omega) hne (by simp [hne, hea]) fun x h' tk hP ho hs' hT hsz hk => ?_
    obtain ⟨y, hy⟩ : ∃ y, xs[i]? = some y := ⟨_, List.getElem?_eq_getElem hi⟩
    obtain ⟨u, hu, ru⟩ := rv.get hy
    have ex : x = u := by
      have hP : its.toArray[i]? = some x := hP
      have : its[i]? = some x := by simpa using hP
      rw [hu] at this
      exact (Option.some.inj this).symm
    subst ex
    refine ⟨_, rfl, wpAny_letOwnedTupleGo_enum (s := { s with heap := h', toks := tk + 1 }) ho fun h'' he' sb => ?_⟩
    have hT2 : h''.get? s.heap.objs.size = some { cls := .type "tuple", data := .seq #[.int i tk, x] } := (sb.2 _ (Nat.ne_of_gt hel)).trans hT
    have new : ObjOk X.prog X.w (upd H s.heap.objs.size (.tup [.int (i : Nat), y])) h'' s.heap.objs.size (.tup [.int (i : Nat), y]) :=
      ⟨by show 2 ≤ sizeLine; decide, [.int i tk, x], .cons ⟨_, rfl⟩ (.cons ru .nil), ⟨_, hT2, rfl, _, rfl⟩⟩
    have I1 : Inv X pins σ (upd H s.heap.objs.size (.tup [.int (i : Nat), y])) { s with heap := h'', toks := tk + 1 } :=
      I.turnedNew (ch := [e, it]) (fun b ob hb q => (sb.2 b (fun z => hb (by simp [z]))).trans (hk b ob (fun z => hb (by simp [z])) (fun z => hb (by simp [z])) q)) hf (Nat.le_refl _) new
    refine ⟨.ref s.heap.objs.size, _, I1, rfl, ⟨_, y, rfl, I.hok.fresh (Nat.le_refl _), rfl, hy⟩, ⟨⟨x, ?_⟩, hs'.1.at fun o q => (sb.2 it (Ne.symm hne)).trans q, hne, hea, hai⟩, fun b hb => ?_⟩
    · have e1 : ((i + 1 : Nat) : Int) = (i : Int) + 1 := by omega
      rw [e1]; exact he'
    · have hb' : b < s.heap.objs.size := by
        have e' : b = e ∨ b = it := by simpa using hb
        rcases e' with z | z
        · rw [z]; exact hel
        · rw [z]; exact hil
      rw [upd_ne (Nat.ne_of_lt hb')]
      exact (hf b hb).1
  done := by
    intro X hP hw hK hc i pins s σ H E I hf st hg
    subst hP hw hK
    obtain ⟨⟨old, he⟩, hit, hne, hea, hai⟩ := st
    obtain ⟨hq, hx⟩ := hg
    obtain ⟨its, rv, p, hz⟩ := I.tuple hq
    obtain ⟨f0, f1, f2, f3, f4, f5⟩ := hf it (by simp)
    have hl := rv.length
    subst hx
    refine wpAny_pyNext_enum_endD (Draws.tuple (A := X.A.in1) (I.ok.hd hc) it a hai its.toArray) he ?_ fun h' eb => ⟨rfl, I.turned (t' := s.toks) (fun b o hb q => eb b o hb q) f0 f1 f3 f4 f5⟩
    exact ⟨by rw [show its.toArray.size = xs.length by simp [hl]]; exact hit, p⟩
  self := fun A i s Q E st h => let ⟨⟨_, he⟩, _⟩ := st; wpAny_pyIter_enum he h
def iEnumT (K : PySem.W.Frag) (ta : TA) : TI := fun σ H R => ta σ H fun vs H1 => ∃ a xs, vs = [.ref a] ∧ SqT K H1 a xs ∧ R (IteT K a xs) H1
theorem pi_enumT {X : Cx} {e : Expr} {ta : TA} {p pos tpos : Pos} {elts : List Expr} {kk : Nat} (hg : Gl X "enumerate") (hm : X.mg "enumerate" = none) (ha : PA X [e] ta) (hs : starEach [e] X.env = [(false, eval e X.env)] := by rfl) :
    PI X (.Tuple elts kk tpos) (.Call (.Name "enumerate" p) [e] [] pos) (iEnumT X.K ta) := by
  refine ⟨fun pins s σ H R I h => ?_⟩
  refine Call_ (ld_blt I hg hm boot_enumerate (PyProof.Rows.callWith_type1 (thn (ha.run pos pins s σ H _ I h) fun us s1 ⟨vs, H1, I1, r1, q1⟩ => ?_) hs rfl))
  obtain ⟨a, xs, ex, hq, q⟩ := q1
  subst ex
  cases r1 with
  | cons r rr =>
    cases rr
    cases r
    obtain ⟨its, rv, p', hz⟩ := I1.tuple hq
    have la : a < s1.heap.objs.size := by obtain ⟨_, q, _⟩ := p'; exact Heap.lt_size q
    refine enum_begin1 (begins_tuple a its.toArray) p' fun h' he hit hsz hk => wpAny_pyIter_enum he ?_
    have I2 : Inv X pins σ H1 { s1 with heap := h' } := I1.kept (t' := s1.toks) hk
    refine ⟨s1.heap.objs.size + 1, [s1.heap.objs.size + 1, s1.heap.objs.size], _, _, H1, rfl, I2, turn_enumT a (s1.heap.objs.size + 1) s1.heap.objs.size xs, ⟨⟨.none, he⟩, ⟨_, hit, rfl, rfl⟩, Nat.succ_ne_self _, Nat.ne_of_gt (Nat.lt_succ_of_lt la), Nat.ne_of_lt la⟩, fun b hb => ?_, q⟩
    have e' : b = s1.heap.objs.size + 1 ∨ b = s1.heap.objs.size := by simpa using hb
    have hle : s1.heap.objs.size ≤ b := by
      rcases e' with z | z
      · rw [z]; exact Nat.le_add_right _ _
      · rw [z]; exact Nat.le_refl _
    exact I1.fpOk hle (I1.hok.fresh hle)
/-! ## at data -/
def enumD : Nat → List D → List D
  | _, [] => []
  | i, d :: ds => .tup [.int (i : Nat), d] :: enumD (i + 1) ds
theorem enumD_get : ∀ (ds : List D) (k i : Nat), (enumD k ds)[i]? = (ds[i]?).map fun d => D.tup [.int ((k + i : Nat) : Int), d]
  | [], k, i => by simp [enumD]
  | d :: ds, k, 0 => by simp [enumD]
  | d :: ds, k, i + 1 => by
    have := enumD_get ds (k + 1) i
    simp only [enumD, List.getElem?_cons_succ, this]
    congr 1
    funext d
    congr 4
    omega
theorem enumD_len : ∀ (ds : List D) (k : Nat), (enumD k ds).length = ds.length
  | [], k => rfl
  | d :: ds, k => by simp [enumD, enumD_len ds (k + 1)]
def iEnum (fi : FA) : FA := fun env S => (fi env S).bind fun p => some (enumD 0 p.1, p.2)
section
variable {ct : CT} {X : Cx} {e : Expr} {f : FE} {elts : List Expr} {kk : Nat} {p pos tpos : Pos}
theorem pair_new {K : PySem.W.Frag} {m : List Addr} {F H : Hp} {S : Sto} {i : Nat} {T : Addr} {d : D} {v : V} (s : Sim K ct m F S H) (hT : H T = none) (r : Rep K ct m F d v) :
    ∃ F', Ext m F H m F' (upd H T (.tup [.int (i : Nat), v])) ∧ Sim K ct m F' S (upd H T (.tup [.int (i : Nat), v])) ∧ Rep K ct m F' (.tup [.int (i : Nat), d]) (.ref T) := by
  obtain ⟨s2, x2⟩ := s.frozen hT (.tup [.int (i : Nat), v])
  exact ⟨_, x2, s2, T, _, rfl, SqT.of upd_same, _, _, rfl, rfl, _, _, rfl, r.mono x2, rfl⟩
theorem si_enumT (hg : Gl X "enumerate") (hm : X.mg "enumerate" = none) (h : SE ct X e f) (hs : starEach [e] X.env = [(false, eval e X.env)] := by rfl) : SI ct X (.Tuple elts kk tpos) (.Call (.Name "enumerate" p) [e] [] pos) (iEnum (iTup f)) := by
  obtain ⟨ta, pa, ra⟩ := h
  refine ⟨_, pi_enumT hg hm (pa_cons pa pa_nil hs) hs, fun m F S σ H env items S' R s en h p => ?_⟩
  obtain ⟨⟨its, S0⟩, h0, h⟩ := bind_some h
  cases h
  obtain ⟨⟨z, S1⟩, h1, h⟩ := bind_some h0
  refine ra m F S σ H env z S1 _ s en h1 fun m1 F1 v1 H1 x1 s1 r1 => ?_
  cases z with
  | tup ds =>
    cases h
    obtain ⟨q, vs, e1, e2, e3⟩ := r1
    refine ⟨q, vs, by rw [e1], sqT_mono s1.same e2, p m1 F1 _ H1 x1 s1 fun i m2 F2 S2 H2 x2 s2 => ?_⟩
    have hq : SqT X.K H2 q vs := sqT_mono s2.same (sqT_mono x2.same e2)
    refine ⟨fun d hd => ?_, fun hl => ⟨hq, by rw [enumD_len] at hl; rw [← e3.length]; exact hl⟩⟩
    rw [enumD_get] at hd
    obtain ⟨d', hd', rfl⟩ := map_some hd
    obtain ⟨v, g1, g2⟩ := e3.get hd'
    refine ⟨⟨hq, (List.getElem?_eq_some_iff.mp g1).1⟩, fun x H' y => ?_⟩
    obtain ⟨T, y0, y1, y2, y3, y4⟩ := y
    subst y1 y3
    rw [g1] at y4
    cases y4
    rw [Nat.zero_add]
    exact pair_new s2 y2 (g2.mono0 x2)
  | _ => cases h
theorem si_enumL (hg : Gl X "enumerate") (hm : X.mg "enumerate" = none) (h : SE ct X e f) (hs : starEach [e] X.env = [(false, eval e X.env)] := by rfl) : SI ct X (.Tuple elts kk tpos) (.Call (.Name "enumerate" p) [e] [] pos) (iEnum (iLst f)) := by
  obtain ⟨ta, pa, ra⟩ := h
  refine ⟨_, pi_enum hg hm (pa_cons pa pa_nil hs) hs, fun m F S σ H env items S' R s en h p => ?_⟩
  obtain ⟨⟨its, S0⟩, h0, h⟩ := bind_some h
  cases h
  obtain ⟨⟨z, S1⟩, h1, h⟩ := bind_some h0
  refine ra m F S σ H env z S1 _ s en h1 fun m1 F1 v1 H1 x1 s1 r1 => ?_
  cases z with
  | lst ds =>
    cases h
    obtain ⟨q, vs, e1, e2, e3⟩ := r1
    refine ⟨q, vs, by rw [e1], SqL.of (s1.same _ _ e2), p m1 F1 _ H1 x1 s1 fun i m2 F2 S2 H2 x2 s2 => ?_⟩
    have hq : SqL X.K H2 q vs := SqL.of (s2.same _ _ (x2.same _ _ e2))
    refine ⟨fun d hd => ?_, fun hl => ⟨vs, hq, by rw [enumD_len] at hl; rw [← e3.length]; exact Nat.le_of_eq hl⟩⟩
    rw [enumD_get] at hd
    obtain ⟨d', hd', rfl⟩ := map_some hd
    obtain ⟨v, g1, g2⟩ := e3.get hd'
    refine ⟨⟨vs, v, hq, g1⟩, fun x H' y => ?_⟩
    obtain ⟨T, y0, y1, y2, y3, y4⟩ := y
    subst y1 y3
    have y4 := y4 vs hq
    rw [g1] at y4
    cases y4
    rw [Nat.zero_add]
    exact pair_new s2 y2 (g2.mono0 x2)
  | _ => cases h
end
end DL

namespace DL
open PySem PySem.Spec PyProof.Rows L2
/-! # list comprehensions with two clauses -/
def tI (ct : CT) (K : PySem.W.Frag) (fi : FA) : TI := fun σ H R => ∃ m F S env items S', Sim K ct m F S H ∧ EnvR K ct m F env σ ∧ fi env S = some (items, S') ∧ ∀ m' F' J H', Ext m F H m' F' H' → Sim K ct m' F' S' H' → ItOk ct K m' F' items J → R J H'
theorem SI.pi {ct : CT} {X : Cx} {tg iter : Expr} {fi : FA} (h : SI ct X tg iter fi) : PI X tg iter (tI ct X.K fi) := by
  obtain ⟨wi, p, r⟩ := h
  exact ⟨fun pins s σ H R I ⟨m, F, S, env, items, S', s1, en, h1, p1⟩ => p.run pins s σ H R I (r m F S σ H env items S' R s1 en h1 p1)⟩
theorem EnvR.mono0 {K : PySem.W.Frag} {ct : CT} {m m' : List Addr} {F F' : Hp} {env : DEnv} {σ : L2.St} (h : EnvR K ct m F env σ) (x : Ext0 m F m' F') : EnvR K ct m' F' env σ :=
  ⟨h.1, fun i d q => let ⟨v, h1, h2⟩ := h.2 i d q; ⟨v, h1, h2.mono0 x⟩⟩
theorem Ext0.refl (m : List Addr) (F : Hp) : Ext0 m F m F := ⟨fun _ _ h => h, Same.refl _⟩
def lc2D (g : FG) (t : FT) (fi1 : FA) (g1 : FG) (t1 : FT) (f : FE) (vs1 : List Nat) (env : DEnv) : List D → Sto → Option (List D × Sto)
  | [], S => some ([], S)
  | x :: xs, S => (g x env S).bind fun p => (t p.1 p.2).bind fun b => if b.1 = true then (fi1 p.1 b.2).bind fun q => if q.1.length ≤ 1000 then (lcD g1 t1 f (wipeD p.1 vs1) q.1 q.2).bind fun y => (lc2D g t fi1 g1 t1 f vs1 env xs y.2).bind fun r => some (y.1 ++ r.1, r.2) else none else lc2D g t fi1 g1 t1 f vs1 env xs b.2
def fLc2 (fi : FA) (g : FG) (t : FT) (fi1 : FA) (g1 : FG) (t1 : FT) (f : FE) (vs vs1 : List Nat) : FE := fun env S => (fi env S).bind fun p => if p.1.length ≤ 10000 then (lc2D g t fi1 g1 t1 f vs1 (wipeD env vs) p.1 p.2).bind fun r => some (.lst r.1, r.2) else none
section
variable {ct : CT} {X : Cx}
theorem lc2_run {fi fi1 : FA} {g g1 : FG} {gt gt1 : FT} {fe : FE} {wi : TI} {own vs1 : List Nat} {m : List Addr} {F H : Hp} {S S' : Sto} {σ : L2.St} {env : DEnv} {d : D} {Q : VK}
    (ri : ∀ m F S σ H env items S' R, Sim X.K ct m F S H → EnvR X.K ct m F env σ → fi env S = some (items, S') → (∀ m' F' J H', Ext m F H m' F' H' → Sim X.K ct m' F' S' H' → ItOk ct X.K m' F' items J → R J H') → wi σ H R)
    (s : Sim X.K ct m F S H) (en : EnvR X.K ct m F env σ) (h : fLc2 fi g gt fi1 g1 gt1 fe own vs1 env S = some (d, S')) (p : PostE ct X.K m F H S' d Q) :
    tLc2 wi (tGw ct X.K own g) (tT ct X.K gt) (tI ct X.K fi1) (tGw ct X.K vs1 g1) (tT ct X.K gt1) (tE ct X.K fe) own vs1 σ H Q := by
  obtain ⟨⟨items, S1⟩, h1, h⟩ := bind_some h
  split at h
  case isFalse => cases h
  rename_i hlen
  have hlen : items.length ≤ 10000 := hlen
  obtain ⟨⟨out, S9⟩, h2, h⟩ := bind_some h
  cases h
  refine ri m F S σ H env items S1 _ s en h1 fun m1 F1 J H1 x1 s1 ok => fun L hL => ?_
  have nL1 : L ∉ m1 := fun hm => by
    obtain ⟨o, q⟩ := s1.there hm
    rw [hL] at q; cases q
  have fL1 : F1 L = none := by
    cases e : F1 L with
    | none => rfl
    | some o => rw [s1.same _ _ e] at hL; cases hL
  refine ⟨fun i k H' => k = items.length - i ∧ i ≤ items.length ∧ ∃ m' F' S2 accV accD rest, Ext m1 F1 H1 m' F' H' ∧ Sim X.K ct m' F' S2 H' ∧ H' L = some (.lst accV) ∧ L ∉ m' ∧ F' L = none ∧ Reps X.K ct m' F' accD accV ∧ accD.length ≤ i * 1000 ∧
      lc2D g gt fi1 g1 gt1 fe vs1 (wipeD env own) (items.drop i) S2 = some (rest, S9) ∧ out = accD ++ rest,
    ⟨_, rfl, Nat.zero_le _, m1, F1, S1, [], [], out, (Ext.refl _ _ _).put hL _, s1.hidden nL1 fL1 _, upd_same, nL1, fL1, rfl, Nat.le_refl _, h2, rfl⟩, ?_⟩
  rintro i k H' ⟨rfl, hle, m', F', S2, accV, accD, rest, x', s', hH, nL, fL, rp, hal, hlc, eo⟩
  have en' : EnvR X.K ct m' F' (wipeD env own) (wipe σ own) := ((en.mono x1).mono x').wipe own
  have okk : (∀ d, items[i]? = some d → J.go i H' ∧ ∀ x H1, J.yld i H' x H1 → ∃ F1, Ext m' F' H' m' F1 H1 ∧ Sim X.K ct m' F1 S2 H1 ∧ Rep X.K ct m' F1 d x) ∧ (items.length = i → J.stop i H') := ok i m' F' S2 H' x'.e0 s'
  cases hd : items.drop i with
  | nil =>
    rw [hd] at hlc
    cases hlc
    have hl : items.length = i := by
      have := congrArg List.length hd
      simp at this
      omega
    refine .inl ⟨okk.2 hl, p m' (upd F' L (.lst accV)) (.ref L) H' (x1.trans (x'.freeze hL fL _)) (s'.freeze nL fL hH) ⟨L, accV, rfl, upd_same, ?_⟩⟩
    rw [eo, List.append_nil]
    exact Reps.mono' (fun _ _ q => q) (same_upd fL _) _ _ rp
  | cons a r =>
    rw [hd] at hlc
    obtain ⟨q1, q2⟩ := drop_cons hd
    have hlt : i < items.length := (List.getElem?_eq_some_iff.mp q1).1
    obtain ⟨go, yl⟩ := okk.1 a q1
    obtain ⟨⟨env1, S3⟩, h3, hlc⟩ := bind_some hlc
    obtain ⟨⟨b4, S4⟩, h4, hlc⟩ := bind_some hlc
    refine .inr ⟨go, fun H5 => ∃ m5 F5 S5 accV accD rest, Ext m1 F1 H1 m5 F5 H5 ∧ Sim X.K ct m5 F5 S5 H5 ∧ H5 L = some (.lst accV) ∧ L ∉ m5 ∧ F5 L = none ∧ Reps X.K ct m5 F5 accD accV ∧ accD.length ≤ (i + 1) * 1000 ∧
      lc2D g gt fi1 g1 gt1 fe vs1 (wipeD env own) (items.drop (i + 1)) S5 = some (rest, S9) ∧ out = accD ++ rest, fun H5 w => ⟨items.length - (i + 1), by omega, rfl, hlt, w⟩, fun x H5 y => ?_⟩
    obtain ⟨F5, x5, s5, r5⟩ := yl x H5 y
    obtain ⟨hH5, nL5, fL5⟩ := x5.hid hH nL fL
    refine ⟨m', F5, S2, wipeD env own, a, env1, S3, s5, en'.mono x5, r5, h3, fun m6 F6 σ6 H6 x6 s6 en6 w6 => ⟨by rw [w6]; exact wipe_idem, ?_⟩⟩
    obtain ⟨hH6, nL6, fL6⟩ := x6.hid hH5 nL5 fL5
    refine ⟨m6, F6, S3, env1, b4, S4, s6, en6, h4, fun m7 F7 H7 x7 s7 => ?_⟩
    obtain ⟨hH7, nL7, fL7⟩ := x7.hid hH6 nL6 fL6
    have xx : Ext m1 F1 H1 m7 F7 H7 := ((x'.trans x5).trans x6).trans x7
    have rp7 : Reps X.K ct m7 F7 accD accV := ((rp.mono x5).mono x6).mono x7
    cases b4 with
    | false =>
      refine iteF ⟨m7, F7, S4, accV, accD, rest, xx, s7, hH7, nL7, fL7, rp7, by omega, ?_, eo⟩
      rw [q2]
      exact hlc
    | true =>
      obtain ⟨⟨items1, S5⟩, h5, hlc⟩ := bind_some (show (fi1 env1 S4).bind _ = _ from hlc)
      have hlc : (if items1.length ≤ 1000 then (lcD g1 gt1 fe (wipeD env1 vs1) items1 S5).bind fun y => (lc2D g gt fi1 g1 gt1 fe vs1 (wipeD env own) r y.2).bind fun r => some (y.1 ++ r.1, r.2) else none) = some (rest, S9) := hlc
      by_cases hl1 : items1.length ≤ 1000
      case neg => rw [if_neg hl1] at hlc; cases hlc
      rw [if_pos hl1] at hlc
      obtain ⟨⟨out1, S11⟩, h6, hlc⟩ := bind_some hlc
      obtain ⟨⟨r9, S10⟩, h9, hlc⟩ := bind_some hlc
      cases hlc
      refine iteT ⟨m7, F7, S4, env1, items1, S5, s7, en6.mono x7, h5, fun m8 F8 J1 H8 x8 s8 ok1 => ?_⟩
      obtain ⟨hH8, nL8, fL8⟩ := x8.hid hH7 nL7 fL7
      have x18 : Ext m1 F1 H1 m8 F8 H8 := xx.trans x8
      have rp8 : Reps X.K ct m8 F8 accD accV := rp7.mono x8
      have en8 : EnvR X.K ct m8 F8 env1 σ6 := (en6.mono x7).mono x8
      refine ⟨fun j k H' => k = items1.length - j ∧ j ≤ items1.length ∧ ∃ m' F' S2 accV' accD' rest', Ext m1 F1 H1 m' F' H' ∧ Ext0 m8 F8 m' F' ∧ Sim X.K ct m' F' S2 H' ∧ H' L = some (.lst accV') ∧ L ∉ m' ∧ F' L = none ∧ Reps X.K ct m' F' accD' accV' ∧ accD'.length ≤ i * 1000 + j ∧
          lcD g1 gt1 fe (wipeD env1 vs1) (items1.drop j) S2 = some (rest', S11) ∧ accD ++ out1 = accD' ++ rest',
        ⟨_, rfl, Nat.zero_le _, m8, F8, S5, accV, accD, out1, x18, Ext0.refl _ _, s8, hH8, nL8, fL8, rp8, by omega, h6, rfl⟩, ?_⟩
      rintro j k H' ⟨rfl, hle1, m', F', S2, accV1, accD1, rest1, x1', x8', s', hH', nL', fL', rp', hal', hlc1, eo1⟩
      have en1 : EnvR X.K ct m' F' (wipeD env1 vs1) (wipe σ6 vs1) := (en8.mono0 x8').wipe vs1
      have okk1 : (∀ d, items1[j]? = some d → J1.go j H' ∧ ∀ x H1, J1.yld j H' x H1 → ∃ F1, Ext m' F' H' m' F1 H1 ∧ Sim X.K ct m' F1 S2 H1 ∧ Rep X.K ct m' F1 d x) ∧ (items1.length = j → J1.stop j H') := ok1 j m' F' S2 H' x8' s'
      cases hd1 : items1.drop j with
      | nil =>
        rw [hd1] at hlc1
        cases hlc1
        have hl : items1.length = j := by
          have := congrArg List.length hd1
          simp at this
          omega
        refine .inl ⟨okk1.2 hl, m', F', S11, accV1, accD1, r9, x1', s', hH', nL', fL', rp', by omega, by rw [q2]; exact h9, ?_⟩
        rw [List.append_nil] at eo1
        rw [eo, ← List.append_assoc, eo1]
      | cons a1 r1 =>
        rw [hd1] at hlc1
        obtain ⟨q3, q4⟩ := drop_cons hd1
        have hlt1 : j < items1.length := (List.getElem?_eq_some_iff.mp q3).1
        obtain ⟨go1, yl1⟩ := okk1.1 a1 q3
        obtain ⟨⟨env2, S12⟩, h12, hlc1⟩ := bind_some hlc1
        obtain ⟨⟨b13, S13⟩, h13, hlc1⟩ := bind_some hlc1
        refine .inr ⟨go1, fun H5 => ∃ m5 F5 S5 accV' accD' rest', Ext m1 F1 H1 m5 F5 H5 ∧ Ext0 m8 F8 m5 F5 ∧ Sim X.K ct m5 F5 S5 H5 ∧ H5 L = some (.lst accV') ∧ L ∉ m5 ∧ F5 L = none ∧ Reps X.K ct m5 F5 accD' accV' ∧ accD'.length ≤ i * 1000 + (j + 1) ∧
          lcD g1 gt1 fe (wipeD env1 vs1) (items1.drop (j + 1)) S5 = some (rest', S11) ∧ accD ++ out1 = accD' ++ rest', fun H5 w => ⟨items1.length - (j + 1), by omega, rfl, hlt1, w⟩, fun x H5 y => ?_⟩
        obtain ⟨F5', x5', s5', r5'⟩ := yl1 x H5 y
        obtain ⟨hH5', nL5', fL5'⟩ := x5'.hid hH' nL' fL'
        refine ⟨m', F5', S2, wipeD env1 vs1, a1, env2, S12, s5', en1.mono x5', r5', h12, fun m6' F6' σ6' H6' x6' s6' en6' w6' => ⟨by rw [w6']; exact wipe_idem, ?_⟩⟩
        obtain ⟨hH6', nL6', fL6'⟩ := x6'.hid hH5' nL5' fL5'
        refine ⟨m6', F6', S12, env2, b13, S13, s6', en6', h13, fun m7' F7' H7' x7' s7' => ?_⟩
        obtain ⟨hH7', nL7', fL7'⟩ := x7'.hid hH6' nL6' fL6'
        have xx' : Ext m1 F1 H1 m7' F7' H7' := ((x1'.trans x5').trans x6').trans x7'
        have xx0 : Ext0 m8 F8 m7' F7' := ((x8'.trans x5'.e0).trans x6'.e0).trans x7'.e0
        have rp7' : Reps X.K ct m7' F7' accD1 accV1 := ((rp'.mono x5').mono x6').mono x7'
        cases b13 with
        | false =>
          refine iteF ⟨m7', F7', S13, accV1, accD1, rest1, xx', xx0, s7', hH7', nL7', fL7', rp7', by omega, ?_, eo1⟩
          rw [q4]
          exact hlc1
        | true =>
          obtain ⟨⟨y8, S14⟩, h14, hlc1⟩ := bind_some (show (fe env2 S13).bind _ = _ from hlc1)
          obtain ⟨⟨r15, S15⟩, h15, hlc1⟩ := bind_some hlc1
          cases hlc1
          refine iteT ⟨m7', F7', S13, env2, y8, S14, s7', en6'.mono x7', h14, fun m8' F8' v8 H8' x8'' s8' r8 => ?_⟩
          obtain ⟨hH8', nL8', fL8'⟩ := x8''.hid hH7' nL7' fL7'
          refine ⟨accV1, hH8', ?_, m8', F8', S14, accV1 ++ [v8], accD1 ++ [y8], r15, (xx'.trans x8'').put hL _, xx0.trans x8''.e0, s8'.hidden nL8' fL8' _, upd_same, nL8', fL8', (rp7'.mono x8'').snoc r8, by simp; omega, ?_, by rw [eo1, List.append_assoc]; rfl⟩
          · rw [← rp'.length, line_eq]
            omega
          · rw [q4]
            exact h15
theorem se_lc2 {elt tg iter tg1 iter1 : Expr} {ifs ifs1 : List Expr} {scope : Scope} {own : List (Str × Nat)} {vs1 : List Nat} {pos : Pos} {fi fi1 : FA} {g g1 : FG} {gt gt1 : FT} {fe : FE} (hc : X.calm = true) (hN : X.N.Nodup) (hi : SI ct X tg iter fi) (ok : BlkOk X.N X.env.scope scope own) (hv : ∀ i ∈ vs1, i ∈ own.map (·.2))
    (hg : ∀ (s : Shared) (H : Hp) (C : Addr) (cl : List (Str × Addr)) (fp : List Addr), SGw ct (X.blk s H scope (compEnvC scope cl C X.env) fp) (own.map (·.2)) tg g) (ht : ∀ (s : Shared) (H : Hp) (C : Addr) (cl : List (Str × Addr)) (fp : List Addr), STs ct (X.blk s H scope (compEnvC scope cl C X.env) fp) ifs gt)
    (hi1 : ∀ (s : Shared) (H : Hp) (C : Addr) (cl : List (Str × Addr)) (fp : List Addr), SI ct (X.blk s H scope (compEnvC scope cl C X.env) fp) tg1 iter1 fi1)
    (hg1 : ∀ (s : Shared) (H : Hp) (C : Addr) (cl : List (Str × Addr)) (fp : List Addr), SGw ct (X.blk s H scope (compEnvC scope cl C X.env) fp) vs1 tg1 g1) (ht1 : ∀ (s : Shared) (H : Hp) (C : Addr) (cl : List (Str × Addr)) (fp : List Addr), STs ct (X.blk s H scope (compEnvC scope cl C X.env) fp) ifs1 gt1)
    (he : ∀ (s : Shared) (H : Hp) (C : Addr) (cl : List (Str × Addr)) (fp : List Addr), SE ct (X.blk s H scope (compEnvC scope cl C X.env) fp) elt fe) (hs : ∀ x, foldedSetIterable iter X.env x = pure x := by intro _; rfl) (hs1 : ∀ env x, foldedSetIterable iter1 env x = pure x := by intro _ _; rfl) :
    SE ct X (.ListComp elt [⟨tg, iter, ifs, 0⟩, ⟨tg1, iter1, ifs1, 0⟩] scope pos) (fLc2 fi g gt fi1 g1 gt1 fe (own.map (·.2)) vs1) := by
  obtain ⟨wi, pi, ri⟩ := hi
  exact ⟨_, pe_lc2 (g := tGw ct X.K (own.map (·.2)) g) (tt := tT ct X.K gt) (wi1 := tI ct X.K fi1) (g1 := tGw ct X.K vs1 g1) (tt1 := tT ct X.K gt1) (te := tE ct X.K fe) hc hN pi ok hv (fun s H C cl fp => (hg s H C cl fp).pg) (fun s H C cl fp => (ht s H C cl fp).pt) (fun s H C cl fp => (hi1 s H C cl fp).pi) (fun s H C cl fp => (hg1 s H C cl fp).pg) (fun s H C cl fp => (ht1 s H C cl fp).pt) (fun s H C cl fp => (he s H C cl fp).pe) hs hs1, fun m F S σ H env d S' Q s en h p => lc2_run ri s en h p⟩
theorem ss_setLc2 {i : Nat} {y : Str} {py : Pos} {elt tg iter tg1 iter1 : Expr} {ifs ifs1 : List Expr} {scope : Scope} {own : List (Str × Nat)} {vs1 : List Nat} {pos spos : Pos} {fi fi1 : FA} {g g1 : FG} {gt gt1 : FT} {fe : FE} (hc : X.calm = true) (hN : X.N.Nodup) (hy : X.N[i]? = some y) (hyl : X.env.scope.names.lookup y = some .local)
    (hsw : swapsWith (.ListComp elt [⟨tg, iter, ifs, 0⟩, ⟨tg1, iter1, ifs1, 0⟩] scope pos) (some (.Name y py)) spos.line X.env = pure true) (hi : SI ct X tg iter fi) (ok : BlkOk X.N X.env.scope scope own) (hv : ∀ i ∈ vs1, i ∈ own.map (·.2))
    (hg : ∀ (s : Shared) (H : Hp) (C : Addr) (cl : List (Str × Addr)) (fp : List Addr), SGw ct (X.blk s H scope (compEnvC scope cl C X.env) fp) (own.map (·.2)) tg g) (ht : ∀ (s : Shared) (H : Hp) (C : Addr) (cl : List (Str × Addr)) (fp : List Addr), STs ct (X.blk s H scope (compEnvC scope cl C X.env) fp) ifs gt)
    (hi1 : ∀ (s : Shared) (H : Hp) (C : Addr) (cl : List (Str × Addr)) (fp : List Addr), SI ct (X.blk s H scope (compEnvC scope cl C X.env) fp) tg1 iter1 fi1)
    (hg1 : ∀ (s : Shared) (H : Hp) (C : Addr) (cl : List (Str × Addr)) (fp : List Addr), SGw ct (X.blk s H scope (compEnvC scope cl C X.env) fp) vs1 tg1 g1) (ht1 : ∀ (s : Shared) (H : Hp) (C : Addr) (cl : List (Str × Addr)) (fp : List Addr), STs ct (X.blk s H scope (compEnvC scope cl C X.env) fp) ifs1 gt1)
    (he : ∀ (s : Shared) (H : Hp) (C : Addr) (cl : List (Str × Addr)) (fp : List Addr), SE ct (X.blk s H scope (compEnvC scope cl C X.env) fp) elt fe) (hs : ∀ x, foldedSetIterable iter X.env x = pure x := by intro _; rfl) (hs1 : ∀ env x, foldedSetIterable iter1 env x = pure x := by intro _ _; rfl) :
    SS ct X (.Assign [.Name y py] (.ListComp elt [⟨tg, iter, ifs, 0⟩, ⟨tg1, iter1, ifs1, 0⟩] scope pos) spos) (sAsg (fLc2 fi g gt fi1 g1 gt1 fe (own.map (·.2)) vs1) (gN i)) := by
  obtain ⟨wi, pi, ri⟩ := hi
  refine ⟨_, ps_setLc2 (g := tGw ct X.K (own.map (·.2)) g) (tt := tT ct X.K gt) (wi1 := tI ct X.K fi1) (g1 := tGw ct X.K vs1 g1) (tt1 := tT ct X.K gt1) (te := tE ct X.K fe) hc hN hy hyl hsw pi ok hv (fun s H C cl fp => (hg s H C cl fp).pg) (fun s H C cl fp => (ht s H C cl fp).pt) (fun s H C cl fp => (hi1 s H C cl fp).pi) (fun s H C cl fp => (hg1 s H C cl fp).pg) (fun s H C cl fp => (ht1 s H C cl fp).pt) (fun s H C cl fp => (he s H C cl fp).pe) hs hs1, fun m F S σ H env fl S' E s en h p => ?_⟩
  obtain ⟨⟨x, S1⟩, h1, h⟩ := bind_some h
  cases h
  exact lc2_run ri s en h1 fun m1 F1 v1 H1 x1 s1 r1 => p m1 F1 _ H1 x1 s1 ((en.mono x1).set i r1)
end
end DL

namespace DL
open PySem PySem.Spec PyProof.Rows L2
/-! # defs told over a store of their own -/
def mapO (f : D → Option D) : List D → Option (List D)
  | [] => some []
  | d :: ds => (f d).bind fun e => (mapO f ds).map fun es => e :: es
def thaw (S : Sto) : Nat → D → Option D
  | 0, d => if noRef d = true then some d else none
  | n + 1, .ref k => match S[k]? with
    | some (.lst es) => (mapO (thaw S n) es).map .lst
    | some (.dct kvs) => (mapO (thaw S n) (kvs.map (·.2))).map (.dct (kvs.map (·.1)))
    | some (.ins c fs es) => (mapO (thaw S n) es).map (.obj c fs)
    | _ => none
  | n + 1, .tup ds => (mapO (thaw S n) ds).map .tup
  | n + 1, .lst ds => (mapO (thaw S n) ds).map .lst
  | n + 1, d => if noRef d = true then some d else none
/-- what is handed back, the cells within it as they stand -/
def thawD (S : Sto) (d : D) : Option D := if noRef d = true then some d else thaw S 5 d
def over (F H : Hp) (m : List Addr) : Hp := fun a => if a ∈ m then H a else F a
section
variable {K : PySem.W.Frag} {ct : CT} {m m' : List Addr} {F H : Hp} {S : Sto}
theorem over_same (s : Sim K ct m F S H) (hm : ∀ a ∈ m', a ∈ m) : Same F (over F H m') := fun b o h => by
  unfold over
  by_cases hb : b ∈ m'
  · rw [s.off b (hm b hb)] at h; cases h
  · rw [if_neg hb]; exact h
theorem over_at {a : Addr} (h : a ∈ m') : over F H m' a = H a := if_pos h
theorem mapO_rep {f : D → Option D} {F' : Hp} {m2 : List Addr} (hf : ∀ d v d', Rep K ct m F d v → f d = some d' → Rep K ct m2 F' d' v) : ∀ {ds : List D} {vs : List V} {ds' : List D}, Reps K ct m F ds vs → mapO f ds = some ds' → Reps K ct m2 F' ds' vs
  | [], _, _, h, e => by cases e; exact h
  | d :: ds, _, _, h, e => by
    obtain ⟨v, r, e1, e2, e3⟩ := h
    obtain ⟨d', h1, e⟩ := bind_some e
    obtain ⟨ds', h2, rfl⟩ := map_some e
    exact ⟨v, r, e1, hf d v d' e2 h1, mapO_rep hf e3 h2⟩
theorem mapO_len {f : D → Option D} : ∀ {ds ds' : List D}, mapO f ds = some ds' → ds'.length = ds.length
  | [], _, e => by cases e; rfl
  | d :: ds, _, e => by
    obtain ⟨d', h1, e⟩ := bind_some e
    obtain ⟨ds', h2, rfl⟩ := map_some e
    simp [mapO_len h2]
theorem dct_rep {kvs : List (Key × D)} {us : List (Key × V)} (h : Paired (fun (p : Key × D) (q : Key × V) => p.1 = q.1 ∧ Rep K ct m F p.2 q.2) kvs us) : Reps K ct m F (kvs.map (·.2)) (us.map (·.2)) ∧ us = (kvs.map (·.1)).zip (us.map (·.2)) ∧ (kvs.map (·.1)).length = (us.map (·.2)).length := by
  induction h with
  | nil => exact ⟨rfl, rfl, rfl⟩
  | @cons p q ps qs hh _ ih =>
    obtain ⟨i1, i2, i3⟩ := ih
    refine ⟨⟨_, _, rfl, hh.2, i1⟩, ?_, by simpa using i3⟩
    obtain ⟨qa, qb⟩ := q
    obtain ⟨pa, pb⟩ := p
    have e1 : pa = qa := hh.1
    subst e1
    exact congrArg ((pa, qb) :: ·) i2
/-- m' : the cells that S tells of, but for those that are left out -/
theorem thaw_rep {S' : Sto} {m2 : List Addr} (s : Sim K ct m F S H) (hm : ∀ a ∈ m', a ∈ m) (hS : ∀ (k : Nat) (c : Cell), S'[k]? = some c → isTab c = none → ∃ a, m[k]? = some a ∧ a ∈ m' ∧ S[k]? = some c) :
    ∀ (n : Nat) (d : D) (v : V) (d' : D), Rep K ct m F d v → thaw S' n d = some d' → Rep K ct m2 (over F H m') d' v := by
  have base : ∀ (d : D) (v : V) (d' : D), Rep K ct m F d v → (if noRef d = true then some d else none) = some d' → Rep K ct m2 (over F H m') d' v := fun d v d' r e => by
    split at e
    · rename_i hn
      cases e
      exact Rep.noref _ _ hn (Rep.mono' (fun _ _ h => h) (over_same s hm) _ _ r)
    · cases e
  intro n
  induction n with
  | zero => exact base
  | succ n ih =>
    intro d v d' r e
    cases d with
    | ref k =>
      obtain ⟨a, h1, rfl⟩ := r
      have e : (match S'[k]? with
        | some (.lst es) => (mapO (thaw S' n) es).map .lst
        | some (.dct kvs) => (mapO (thaw S' n) (kvs.map (·.2))).map (.dct (kvs.map (·.1)))
        | some (.ins c fs es) => (mapO (thaw S' n) es).map (.obj c fs)
        | _ => none) = some d' := e
      split at e
      · rename_i es hk
        obtain ⟨es', h2, rfl⟩ := map_some e
        obtain ⟨a', g1, g2, g3⟩ := hS k _ hk rfl
        rw [h1] at g1; cases g1
        obtain ⟨vs, c1, c2⟩ := s.cell k a _ h1 g3
        exact ⟨a, vs, rfl, by rw [over_at g2]; exact c1, mapO_rep ih c2 h2⟩
      · rename_i kvs hk
        obtain ⟨es', h2, rfl⟩ := map_some e
        obtain ⟨a', g1, g2, g3⟩ := hS k _ hk rfl
        rw [h1] at g1; cases g1
        obtain ⟨us, c1, c2⟩ := s.cell k a _ h1 g3
        obtain ⟨i1, i2, i3⟩ := dct_rep c2
        exact ⟨a, us.map (·.2), rfl, by rw [over_at g2, ← i2]; exact c1, i3, mapO_rep ih i1 h2⟩
      · rename_i c fs es hk
        obtain ⟨es', h2, rfl⟩ := map_some e
        obtain ⟨a', g1, g2, g3⟩ := hS k _ hk rfl
        rw [h1] at g1; cases g1
        obtain ⟨C, dx, vs, c1, c3, c4, c2⟩ := s.cell k a _ h1 g3
        exact ⟨a, C, dx, vs, rfl, c3, by rw [over_at g2]; exact c1, c4, mapO_rep ih c2 h2⟩
      · cases e
    | tup ds =>
      obtain ⟨ds', h2, rfl⟩ := map_some (show (mapO (thaw S' n) ds).map .tup = some d' from e)
      obtain ⟨a, vs, e1, e2, e3⟩ := r
      exact ⟨a, vs, e1, sqT_mono (over_same s hm) e2, mapO_rep ih e3 h2⟩
    | lst ds =>
      obtain ⟨ds', h2, rfl⟩ := map_some (show (mapO (thaw S' n) ds).map .lst = some d' from e)
      obtain ⟨a, vs, e1, e2, e3⟩ := r
      exact ⟨a, vs, e1, over_same s hm _ _ e2, mapO_rep ih e3 h2⟩
    | _ => exact base _ v d' r e
theorem thawD_rep {S' : Sto} {m2 : List Addr} (s : Sim K ct m F S H) (hm : ∀ a ∈ m', a ∈ m) (hS : ∀ (k : Nat) (c : Cell), S'[k]? = some c → isTab c = none → ∃ a, m[k]? = some a ∧ a ∈ m' ∧ S[k]? = some c)
    {d : D} {v : V} {d' : D} (r : Rep K ct m F d v) (e : thawD S' d = some d') : Rep K ct m2 (over F H m') d' v := by
  unfold thawD at e
  split at e
  · rename_i hn
    cases e
    exact Rep.noref _ _ hn (Rep.mono' (fun _ _ h => h) (over_same s hm) _ _ r)
  · exact thaw_rep s hm hS _ _ _ _ r e
end
/-- a def that is handed plain data alone: told over no cells -/
def pureD (g : FD) : FD := fun ds S => if noRefs ds = true then (g ds []).bind fun q => (thawD q.2 q.1).map fun d => (d, S) else none
section
variable {P : Program} {w : World} {K : PySem.W.Frag} {mg : Str → Option Value} {base : Heap} {ct : CT}
theorem pure_ok {k n : Nat} {f : Addr} {fd : FuncData} {ps : List Str} {g : FD} (G : FnG P w K mg base k f fd ps (spD K ct n g)) : FnG P w K mg base k f fd ps (spD K ct n (pureD g)) := by
  refine G.imp fun vs H Q E hs => ?_
  obtain ⟨hl, m, F, S, ds, d', S1, s, reps, hg, post⟩ := hs
  unfold pureD at hg
  split at hg
  case isFalse => cases hg
  rename_i hn
  obtain ⟨⟨d, S2⟩, h1, hg⟩ := bind_some hg
  obtain ⟨d2, h2, e⟩ := map_some hg
  cases e
  refine ⟨hl, [], F, [], ds, d, S2, ⟨s.same, rfl, List.nodup_nil, fun a h => (nomatch h), fun i a c h _ => (by simp at h), fun i a c q h _ _ => (by simp at h)⟩, Reps.noref _ _ hn reps, h1, ?_⟩
  intro m' F' v H' x s' r
  have h2 : thawD S2 d = some d' := h2
  have rr : Rep K ct m (over F' H' m') d' v := thawD_rep s' (fun a h => h) (fun k c hk _ => by
    have hi : k < m'.length := by rw [s'.len]; exact (List.getElem?_eq_some_iff.mp hk).1
    exact ⟨m'[k], List.getElem?_eq_getElem hi, List.getElem_mem hi, hk⟩) r h2
  have out : ∀ a ∈ m, a ∉ m' := fun a ha hm => by
    obtain ⟨o, ho⟩ := s.there ha
    rcases x.new a hm with q | q
    · cases q
    · rw [ho] at q; cases q
  have fo : ∀ a ∈ m, F' a = none := fun a ha => by
    obtain ⟨o, ho⟩ := s.there ha
    cases e : F' a with
    | none => rfl
    | some z =>
      rcases x.fnew a z e with q | q
      · rw [s.off a ha] at q; cases q
      · rw [ho] at q; cases q
  have sm : Same F (over F' H' m') := x.same.trans (over_same s' fun a h => h)
  refine post m (over F' H' m') v H' ⟨fun _ _ h => h, sm, fun b o h _ => x.keep b o h (by simp), fun a h => .inl h, fun b o h => ?_, x.grow⟩ ⟨fun b o h => ?_, s.len, s.nd, fun a ha => ?_, fun i a c h1 h2 => ?_, s.tab⟩ rr
  · unfold over at h
    split at h
    · rename_i hb
      rcases x.new b hb with q | q
      · cases q
      · exact .inr q
    · exact x.fnew b o h
  · unfold over at h
    split at h
    · exact h
    · exact s'.same _ _ h
  · unfold over
    rw [if_neg (out a ha)]
    exact fo a ha
  · have hm : a ∈ m := List.mem_iff_getElem?.mpr ⟨i, h1⟩
    obtain ⟨o, ho⟩ := s.there hm
    have cr := s.cell i a c h1 h2
    rw [x.keep a o ho (by simp), ← ho]
    exact cr.mono' (fun _ _ h => h) sm
theorem Callee.pure {k n : Nat} {x : Str} {g : FD} {kwb : KWB} (c : Callee P w K mg base ct k x n g kwb) : Callee P w K mg base ct k x n (pureD g) kwb := by
  obtain ⟨f, fd, ps, h1, h2, h3, h4⟩ := c
  exact ⟨f, fd, ps, h1, h2, h3, pure_ok h4⟩
end
/-- a def that is handed one cell, ahead of plain data: told over this cell alone -/
def pure1D (g : FD) : FD := fun ds S => match ds with
  | .ref k :: rest => if noRefs rest = true then match S[k]? with
    | some c => if cellFree c = true ∧ isTab c = none then (g (.ref 0 :: rest) [c]).bind fun q => match q.2 with
      | c' :: more => if cellFree c' = true ∧ isTab c' = none then (thawD (.tab "" :: more) q.1).map fun d => (d, S.set k c') else none
      | [] => none
      else none
    | none => none
    else none
  | _ => none
section
variable {P : Program} {w : World} {K : PySem.W.Frag} {mg : Str → Option Value} {base : Heap} {ct : CT}
theorem pure1_ok {k n : Nat} {f : Addr} {fd : FuncData} {ps : List Str} {g : FD} (G : FnG P w K mg base k f fd ps (spD K ct n g)) : FnG P w K mg base k f fd ps (spD K ct n (pure1D g)) := by
  refine G.imp fun vs H Q E hs => ?_
  obtain ⟨hl, m, F, S, ds, d', S1, s, reps, hg, post⟩ := hs
  unfold pure1D at hg
  split at hg
  case h_2 => cases hg
  rename_i kk rest
  split at hg
  case isFalse => cases hg
  rename_i hn
  split at hg
  case h_2 => cases hg
  rename_i c hc
  split at hg
  case isFalse => cases hg
  rename_i hcf
  obtain ⟨⟨d, S2⟩, h1, hg⟩ := bind_some hg
  dsimp only at hg
  split at hg
  case h_2 => cases hg
  rename_i c' more
  split at hg
  case isFalse => cases hg
  rename_i hcf'
  obtain ⟨d2, h2, e⟩ := map_some hg
  cases e
  obtain ⟨v0, vr, rfl, ⟨a, ha, rfl⟩, rr⟩ := reps
  have am : a ∈ m := List.mem_iff_getElem?.mpr ⟨kk, ha⟩
  obtain ⟨o0, hH⟩ := s.there am
  have cr0 := s.cell kk a c ha hc
  refine ⟨hl, [a], F, [c], .ref 0 :: rest, d, c' :: more, ⟨s.same, rfl, by simp, fun b h => ?_, fun i b e h g => ?_, fun i b e q h g h3 => ?_⟩, ⟨_, _, rfl, ⟨a, rfl, rfl⟩, Reps.noref _ _ hn rr⟩, h1, ?_⟩
  · rw [List.mem_singleton.mp h]; exact s.off a am
  · match i, h, g with
    | 0, h, g => cases h; cases g; exact cr0.noref hcf.1
    | i + 1, h, g => simp at h
  · match i, h, g with
    | 0, h, g => cases g; rw [hcf.2] at h3; cases h3
    | i + 1, h, g => simp at h
  intro m' F' v H' x s' r
  have h2 : thawD (.tab "" :: more) d = some d' := h2
  have hm0 : m'[0]? = some a := x.pre 0 a rfl
  have e' : m' = a :: m'.drop 1 := by
    match m', hm0 with
    | b :: t, h => cases h; rfl
  have hd : ∀ b ∈ m'.drop 1, b ∈ m' := fun b h => List.mem_of_mem_drop h
  have na : a ∉ m'.drop 1 := by
    have := s'.nd
    rw [e'] at this
    exact (List.nodup_cons.mp this).1
  have rr : Rep K ct m (over F' H' (m'.drop 1)) d' v := thawD_rep s' hd (fun k c hk ht => by
    match k, hk with
    | 0, hk => cases hk; cases ht
    | k + 1, hk =>
      have hk : more[k]? = some c := hk
      have hi : k + 1 < m'.length := by rw [s'.len]; have := (List.getElem?_eq_some_iff.mp hk).1; simp; omega
      refine ⟨m'[k + 1], List.getElem?_eq_getElem hi, ?_, hk⟩
      refine List.mem_iff_getElem?.mpr ⟨k, ?_⟩
      rw [List.getElem?_drop, Nat.add_comm 1 k, List.getElem?_eq_getElem hi]) r h2
  have out : ∀ b ∈ m, b ∉ m'.drop 1 := fun b hb hm => by
    obtain ⟨o, ho⟩ := s.there hb
    rcases x.new b (hd b hm) with q | q
    · rw [List.mem_singleton.mp q] at hm; exact na hm
    · rw [ho] at q; cases q
  have fo : ∀ b ∈ m, F' b = none := fun b hb => by
    obtain ⟨o, ho⟩ := s.there hb
    cases e : F' b with
    | none => rfl
    | some z =>
      rcases x.fnew b z e with q | q
      · rw [s.off b hb] at q; cases q
      · rw [ho] at q; cases q
  have sm : Same F (over F' H' (m'.drop 1)) := x.same.trans (over_same s' hd)
  refine post m (over F' H' (m'.drop 1)) v H' ⟨fun _ _ h => h, sm, fun b o h hb => x.keep b o h (fun z => hb (by rw [List.mem_singleton.mp z]; exact am)), fun b h => .inl h, fun b o h => ?_, x.grow⟩ ⟨fun b o h => ?_, by rw [List.length_set]; exact s.len, s.nd, fun b hb => ?_, fun i b e h1 h2 => ?_, fun i b e q h1 h2 h3 => ?_⟩ rr
  · unfold over at h
    split at h
    · rename_i hb
      rcases x.new b (hd b hb) with q | q
      · rw [List.mem_singleton.mp q] at hb; exact absurd hb na
      · exact .inr q
    · exact x.fnew b o h
  · unfold over at h
    split at h
    · exact h
    · exact s'.same _ _ h
  · unfold over
    rw [if_neg (out b hb)]
    exact fo b hb
  · by_cases hi : kk = i
    · subst hi
      rw [ha] at h1; cases h1
      rw [List.getElem?_set_self (by rw [← s.len]; exact (List.getElem?_eq_some_iff.mp ha).1)] at h2
      cases h2
      exact ((s'.cell 0 a c' hm0 rfl).noref hcf'.1).mono' (fun _ _ h => h) (over_same s' hd)
    · rw [List.getElem?_set_ne hi] at h2
      have hm : b ∈ m := List.mem_iff_getElem?.mpr ⟨i, h1⟩
      have nb : b ≠ a := fun e => hi (nodup_inj s.nd ha (e ▸ h1))
      obtain ⟨o, ho⟩ := s.there hm
      have cr := s.cell i b e h1 h2
      rw [x.keep b o ho (by simpa using nb), ← ho]
      exact cr.mono' (fun _ _ h => h) sm
  · by_cases hi : kk = i
    · subst hi
      rw [List.getElem?_set_self (by rw [← s.len]; exact (List.getElem?_eq_some_iff.mp ha).1)] at h2
      cases h2
      rw [hcf'.2] at h3; cases h3
    · rw [List.getElem?_set_ne hi] at h2
      exact s.tab i b e q h1 h2 h3
theorem Callee.pure1 {k n : Nat} {x : Str} {g : FD} {kwb : KWB} (c : Callee P w K mg base ct k x n g kwb) : Callee P w K mg base ct k x n (pure1D g) kwb := by
  obtain ⟨f, fd, ps, h1, h2, h3, h4⟩ := c
  exact ⟨f, fd, ps, h1, h2, h3, pure1_ok h4⟩
end
/-! ## by what holds behind them -/
theorem wp_pure {g : FD} {ds : List D} {S : Sto} {P : D → Sto → Prop} : R (pureD g ds S) P ↔ noRefs ds = true ∧ R (g ds []) fun d S2 => ∃ e, thawD S2 d = some e ∧ P e S := by
  unfold pureD
  by_cases h : noRefs ds = true
  · rw [if_pos h, R_bind]
    simp only [h, true_and]
    refine ⟨fun ⟨d, S2, e, q⟩ => ⟨d, S2, e, ?_⟩, fun ⟨d, S2, e, q⟩ => ⟨d, S2, e, ?_⟩⟩
    · obtain ⟨a, S3, e3, p⟩ := q
      obtain ⟨z, h1, h2⟩ := map_some e3
      cases h2
      exact ⟨_, h1, p⟩
    · obtain ⟨z, h1, p⟩ := q
      exact ⟨z, S, by show (thawD S2 d).map _ = _; rw [h1]; rfl, p⟩
  · rw [if_neg h]
    exact ⟨fun q => (R_none.mp q).elim, fun q => absurd q.1 h⟩
theorem pure_eq {g : FD} {ds : List D} {S S2 : Sto} {d e : D} (hn : noRefs ds = true) (h : g ds [] = some (d, S2)) (ht : thawD S2 d = some e) : pureD g ds S = some (e, S) := by
  unfold pureD
  rw [if_pos hn, h]
  show (thawD S2 d).map _ = _
  rw [ht]
  rfl
theorem thawD_of {S : Sto} {d : D} (h : noRef d = true) : thawD S d = some d := by unfold thawD; rw [if_pos h]
theorem mapO_noref {f : D → Option D} (hf : ∀ d, noRef d = true → f d = some d) : ∀ {ds : List D}, noRefs ds = true → mapO f ds = some ds
  | [], _ => rfl
  | d :: ds, h => by
    have h : (noRef d && noRefs ds) = true := h
    simp only [Bool.and_eq_true] at h
    show (f d).bind _ = _
    rw [hf d h.1]
    show (mapO f ds).map _ = _
    rw [mapO_noref hf h.2]
    rfl
theorem thaw_noref {S : Sto} : ∀ (n : Nat) (d : D), noRef d = true → thaw S n d = some d
  | 0, d, h => if_pos h
  | n + 1, d, h => by
    cases d with
    | ref k => cases h
    | tup ds => show (mapO (thaw S n) ds).map _ = _; rw [mapO_noref (thaw_noref n) h]; rfl
    | lst ds => show (mapO (thaw S n) ds).map _ = _; rw [mapO_noref (thaw_noref n) h]; rfl
    | _ => exact if_pos h
theorem thawD_lst {S : Sto} {k : Nat} {es : List D} (h : S[k]? = some (.lst es)) (hn : noRefs es = true) : thawD S (.ref k) = some (.lst es) := by
  show thaw S (4 + 1) (.ref k) = _
  unfold thaw
  rw [h]
  show (mapO (thaw S 4) es).map _ = _
  rw [mapO_noref (thaw_noref 4) hn]
  rfl
theorem pure1_eq {g : FD} {rest : List D} {S more : Sto} {k : Nat} {c c' : Cell} {d e : D} (hn : noRefs rest = true) (hk : S[k]? = some c) (hc : cellFree c = true ∧ isTab c = none) (h : g (.ref 0 :: rest) [c] = some (d, c' :: more)) (hc' : cellFree c' = true ∧ isTab c' = none) (ht : thawD (.tab "" :: more) d = some e) :
    pure1D g (.ref k :: rest) S = some (e, S.set k c') := by
  show (if noRefs rest = true then match S[k]? with
    | some c => if cellFree c = true ∧ isTab c = none then (g (.ref 0 :: rest) [c]).bind fun q => match q.2 with
      | c' :: more => if cellFree c' = true ∧ isTab c' = none then (thawD (.tab "" :: more) q.1).map fun d => (d, S.set k c') else none
      | [] => none
      else none
    | none => none
    else none) = _
  rw [if_pos hn, hk]
  show (if cellFree c = true ∧ isTab c = none then _ else none) = _
  rw [if_pos hc, h]
  show (if cellFree c' = true ∧ isTab c' = none then _ else none) = _
  rw [if_pos hc', ht]
  rfl
end DL

namespace DL
open PySem PySem.Spec PyProof.Rows L2
/-! # The head by one run in the kernel: what the end leans on, as facts that are counted out -/
abbrev Fr := PySem.W.Frag
open He (ga ma eqO eqO_ok frG frG_in growG)
theorem notB {b : Bool} (h : (!b) = true) : b = false := by simpa using h
def matB : V → Value → Bool
  | .non, .none => true
  | .bl b, .bool c => b == c
  | .int i, .int j _ => i == j
  | .str x, .str y _ => x == y
  | .ref a, .ref b => Nat.beq a b
  | _, _ => false
theorem matB_ok {v : V} {u : Value} (h : matB v u = true) : RelV v u := by
  unfold matB at h
  split at h
  · rfl
  · rw [beq_iff_eq.mp h]; rfl
  · rw [beq_iff_eq.mp h]; exact ⟨_, rfl⟩
  · rw [beq_iff_eq.mp h]; exact ⟨_, rfl⟩
  · rw [Nat.eq_of_beq_eq_true h]; rfl
  · cases h
def valsB : List V → List Value → Bool
  | [], [] => true
  | v :: vs, u :: us => matB v u && valsB vs us
  | _, _ => false
theorem valsB_ok : ∀ {vs : List V} {us : List Value}, valsB vs us = true → Vals vs us
  | [], [], _ => .nil
  | v :: vs, u :: us, h => by
    have h : (matB v u && valsB vs us) = true := h
    simp only [Bool.and_eq_true] at h
    exact .cons (matB_ok h.1) (valsB_ok h.2)
  | [], _ :: _, h => by cases h
  | _ :: _, [], h => by cases h
def gloB (K : Fr) (x : Str) : Bool := eqO (PySem.W.nsIn K mainGlobals x) (some (some (.ref (ga K x))))
def freeB (K : Fr) (x : Str) : Bool := eqO (PySem.W.nsIn K mainGlobals x) (some none)
def litB (K : Fr) (x : Str) (v : V) : Bool := match PySem.W.nsIn K mainGlobals x with
  | some (some u) => matB v u
  | _ => false
theorem int_at {K : Fr} {x : Str} {i : Int} (h : litB K x (.int i) = true) : ∃ t, PySem.W.nsIn K mainGlobals x = some (some (.int i t)) := by
  unfold litB at h
  split at h
  · rename_i u e
    obtain ⟨t, rfl⟩ := matB_ok h
    exact ⟨t, e⟩
  · cases h
theorem str_at {K : Fr} {x z : Str} (h : litB K x (.str z) = true) : ∃ t, PySem.W.nsIn K mainGlobals x = some (some (.str z t)) := by
  unfold litB at h
  split at h
  · rename_i u e
    obtain ⟨t, rfl⟩ := matB_ok h
    exact ⟨t, e⟩
  · cases h
/-- a tuple at an address -/
def tupB (K : Fr) (a : Addr) (vs : List V) : Bool := match K.lookup a with
  | some ⟨.type n, _, .seq its _, _⟩ => n == "tuple" && (Nat.ble its.size 100 && valsB vs its.toList)
  | _ => false
theorem tup_at {K : Fr} {a : Addr} {vs : List V} (h : tupB K a vs = true) : ∃ gd gi gn gs, K.lookup a = some ⟨.type "tuple", gd, .seq gi gn, gs⟩ ∧ gi.size ≤ sizeLine ∧ Vals vs gi.toList := by
  unfold tupB at h
  split at h
  · rename_i n gd gi gn gs e
    simp only [Bool.and_eq_true] at h
    rw [beq_iff_eq.mp h.1] at e
    exact ⟨gd, gi, gn, gs, e, Nat.le_trans (Nat.le_of_ble_eq_true h.2.1) (by decide), valsB_ok h.2.2⟩
  · cases h
theorem tup0_at {K : Fr} {a : Addr} (h : tupB K a [] = true) : ∃ (eo : Option Addr) (ei : Array Value) (en : Nat) (es : Array (Option Value)), K.lookup a = some ⟨.type "tuple", eo, .seq ei en, es⟩ ∧ ei = #[] := by
  obtain ⟨gd, gi, gn, gs, e, _, v⟩ := tup_at h
  refine ⟨gd, gi, gn, gs, e, ?_⟩
  cases hv : gi.toList with
  | nil => exact Array.toList_eq_nil_iff.mp hv
  | cons u us => rw [hv] at v; cases v
/-- the values of a def's defaults -/
def seqB (K : Fr) (a : Addr) (vs : List V) : Bool := match K.lookup a with
  | some ⟨_, _, .seq its _, _⟩ => valsB vs its.toList
  | _ => false
theorem seq_at {K : Fr} {a : Addr} {vs : List V} (h : seqB K a vs = true) : ∃ d0 dd di dn ds, K.lookup a = some ⟨d0, dd, .seq di dn, ds⟩ ∧ Vals vs di.toList := by
  unfold seqB at h
  split at h
  · rename_i d0 dd di dn ds e
    exact ⟨d0, dd, di, dn, ds, e, valsB_ok h⟩
  · cases h
/-! ## defs -/
abbrev FnW : Type := Option (Str × Str × Arguments × FuncBody × Scope × Addr × List (Str × Addr) × Addr)
def fnK (K : Fr) (a : Addr) : FnW := match K.lookup a with
  | some ⟨_, _, .func fd, _⟩ => some (fd.name, fd.qualname, fd.params, fd.body, fd.scope, fd.globals, fd.closure, fd.builtins)
  | _ => none
def refA : Value → Addr
  | .ref d => d
  | _ => 0
def refB : Value → Bool
  | .ref _ => true
  | _ => false
theorem refB_ok {v : Value} (h : refB v = true) : v = .ref (refA v) := by cases v <;> first | rfl | cases h
def dfl0 : Data → Addr
  | .func fd => refA fd.defaults
  | _ => 0
def code0 : Data → Addr
  | .func fd => refA fd.code
  | _ => 0
def at11 : Data → Addr
  | .fields vs => refA ((vs.toList[11]?).getD .none)
  | _ => 0
def dtK (K : Fr) (a : Addr) : Addr := match K.lookup a with
  | some o => dfl0 o.data
  | none => 0
def dflB : Value → Bool → Bool
  | .none, b => !b
  | .ref _, b => b
  | _, _ => false
/-- the first default, an object -/
def etK (K : Fr) (a : Addr) : Addr := match K.lookup (dtK K a) with
  | some ⟨_, _, .seq its _, _⟩ => (match its.toList with
    | .ref e :: _ => e
    | _ => 0)
  | _ => 0
def cqK (K : Fr) (a : Addr) : Addr := match K.lookup a with
  | some o => code0 o.data
  | none => 0
def cpK (K : Fr) (a : Addr) : Addr := match K.lookup (cqK K a) with
  | some o => at11 o.data
  | none => 0
def dfB (K : Fr) (a : Addr) (dfl : Bool) (q : Str) : Bool := (match K.lookup a with
  | some ⟨_, _, .func fd, _⟩ => PySem.W.codeIn K fd.code q && dflB fd.defaults dfl
  | _ => false) && PySem.W.keepIn K (.ref a)
structure DefK where
  ad : Fr → Addr
  name : Str
  qual : Str
  st : Stmt
  dfl : Bool
def DefK.val (d : DefK) : FnW := some (d.name, d.qual, defArgs d.st, .stmts (defBody d.st), defScope d.st, mainGlobals, [], builtinsNs)
def dvK (K : Fr) (a : Addr) (dfl : Bool) : Value := if dfl = true then .ref (dtK K a) else .none
theorem def_at {K : Fr} {d : DefK} (e : fnK K (d.ad K) = d.val) (c : dfB K (d.ad K) d.dfl d.qual = true) :
    ∃ oc od sl kV dc pm an cd ct, K.lookup (d.ad K) = some ⟨oc, od, .func (PySem.W.fnOf d.name d.qual (defArgs d.st) (defBody d.st) (defScope d.st) (dvK K (d.ad K) d.dfl) kV dc pm an cd ct), sl⟩ ∧ PySem.W.codeIn K cd d.qual = true ∧ PySem.W.keepIn K (.ref (d.ad K)) = true := by
  unfold dfB at c
  simp only [Bool.and_eq_true] at c
  obtain ⟨c, ck⟩ := c
  unfold fnK at e
  cases q : K.lookup (d.ad K) with
  | none =>
    rw [q] at c
    cases c
  | some o =>
    obtain ⟨oc, od, dt, osl⟩ := o
    have eqd : dtK K (d.ad K) = dfl0 dt := by
      unfold dtK
      rw [q]
    rw [q] at c e
    cases dt with
    | func fd =>
      obtain ⟨n1, n2, n3, n4, n5, n6, n7, n8, n9, n10, n11, n12, n13, n14, n15⟩ := fd
      have e2 : (some (n1, n2, n3, n4, n5, n6, n7, n15) : FnW) = some (d.name, d.qual, defArgs d.st, .stmts (defBody d.st), defScope d.st, mainGlobals, [], builtinsNs) := e
      simp only [Option.some.injEq, Prod.mk.injEq] at e2
      obtain ⟨h1, h2, h3, h4, h5, h6, h7, h9⟩ := e2
      replace c : (PySem.W.codeIn K n13 d.qual && dflB n8 d.dfl) = true := c
      have c : _ ∧ _ := Bool.and_eq_true_iff.mp c
      have hd : n8 = dvK K (d.ad K) d.dfl := by
        unfold dvK
        rw [eqd]
        have c2 := c.2
        revert c2
        cases n8 with
        | none =>
          intro c2
          have : d.dfl = false := notB c2
          rw [this]
          rfl
        | ref z =>
          intro c2
          have : d.dfl = true := c2
          rw [this]
          rfl
        | _ => intro c2; cases c2
      subst h1 h2 h3 h4 h5 h6 h7 h9
      rw [← hd]
      exact ⟨oc, od, osl, n9, n10, n11, n12, n13, n14, rfl, (by exact c.1), ck⟩
    | _ => cases c
/-! ## dicts of texts and numbers -/
abbrev TbW : Type := Option (List (Option (Str × Int × Int)))
def entW (e : DictEntry) : Option (Str × Int × Int) := match e.key, e.val with
  | .str x _, .int i _ => some (x, e.hash, i)
  | _, _ => none
def tbK (K : Fr) (x : Str) : TbW := match K.lookup (ga K x) with
  | some ⟨.type n, none, .dict es _, sl⟩ => if (n == "dict" && Nat.beq sl.size 0) = true then some (es.toList.map entW) else none
  | _ => none
def tbVal (P : Params) (tab : List (Str × Int)) : TbW := some (tab.map fun p => some (p.1, PyData.keyHash P p.1, p.2))
theorem tabOk_of {P : Params} : ∀ {tab : List (Str × Int)} {l : List DictEntry}, l.map entW = (tab.map fun p => some (p.1, PyData.keyHash P p.1, p.2)) → TabOk P tab l
  | [], [], _ => trivial
  | [], _ :: _, h => by cases h
  | _ :: _, [], h => by cases h
  | p :: tab, e :: l, h => by
    simp only [List.map_cons, List.cons.injEq] at h
    refine ⟨?_, tabOk_of h.2⟩
    have h1 := h.1
    unfold entW at h1
    split at h1
    · rename_i x t i u e1 e2
      simp only [Option.some.injEq, Prod.mk.injEq] at h1
      obtain ⟨rfl, h3, rfl⟩ := h1
      exact ⟨_, _, e1, h3, e2⟩
    · cases h1
theorem tb_at {K : Fr} {P : Params} {x : Str} {tab : List (Str × Int)} (e : tbK K x = tbVal P tab) : ∃ es cn, K.lookup (ga K x) = some ⟨.type "dict", none, .dict es cn, #[]⟩ ∧ TabOk P tab es.toList := by
  unfold tbK at e
  split at e
  · rename_i n es cn sl q
    split at e
    · rename_i h
      simp only [Bool.and_eq_true] at h
      have hs : sl = #[] := Array.eq_empty_of_size_eq_zero (Nat.eq_of_beq_eq_true h.2)
      rw [beq_iff_eq.mp h.1, hs] at q
      exact ⟨es, cn, q, tabOk_of (Option.some.inj e)⟩
    · cases e
  · cases e
/-! ## properties -/
def prK (K : Fr) (C : Addr) (m : Str) : Addr := match PySem.W.recIn K (ma K C m) "property" with
  | some (.ref f :: _) => f
  | _ => 0
def prB (K : Fr) (C : Addr) (m : Str) : Bool := match PySem.W.recIn K (ma K C m) "property" with
  | some (.ref _ :: _) => true
  | _ => false
theorem pr_at {K : Fr} {C : Addr} {m : Str} (h : prB K C m = true) : ∃ pr, PySem.W.recIn K (ma K C m) "property" = some (.ref (prK K C m) :: pr) := by
  unfold prB at h
  unfold prK
  split at h
  · rename_i f r e
    rw [e]
    exact ⟨r, rfl⟩
  · cases h
/-! ## defs with lambdas -/
def func0 : Data → Bool
  | .func fd => refB fd.code
  | _ => false
def fld11 : Data → Bool
  | .fields vs => refB ((vs.toList[11]?).getD .none)
  | _ => false
def lamB (K : Fr) (a : Addr) : Bool := (match K.lookup a with
  | some o => func0 o.data
  | none => false) && ((match K.lookup (cqK K a) with
  | some o => fld11 o.data
  | none => false) && (PySem.W.codeHdIn K (cqK K a) (cpK K a) && (K.lookup (cpK K a)).isNone))
theorem lam_at {K : Fr} {a : Addr} (h : lamB K a = true) : (∃ lv ld la ls, K.lookup (cqK K a) = some ⟨lv, ld, .fields la, ls⟩ ∧ la[11]? = some (.ref (cpK K a))) ∧ PySem.W.codeHdIn K (cqK K a) (cpK K a) = true ∧ K.lookup (cpK K a) = none ∧
    ∀ oc od fd sl, K.lookup a = some ⟨oc, od, .func fd, sl⟩ → fd.code = .ref (cqK K a) := by
  unfold lamB at h
  simp only [Bool.and_eq_true] at h
  obtain ⟨h1, h2, h3, h4⟩ := h
  refine ⟨?_, h3, Option.isNone_iff_eq_none.mp h4, fun oc od fd sl e => ?_⟩
  · cases e : K.lookup (cqK K a) with
    | none => rw [e] at h2; cases h2
    | some o =>
      obtain ⟨lv, ld, dt, ls⟩ := o
      have ec : cpK K a = at11 dt := by
        unfold cpK
        rw [e]
      rw [e] at h2
      cases dt with
      | fields la =>
        refine ⟨lv, ld, la, ls, rfl, ?_⟩
        rw [ec]
        have h2 : refB ((la.toList[11]?).getD .none) = true := h2
        show _ = some (Value.ref (refA ((la.toList[11]?).getD .none)))
        rw [← Array.getElem?_toList]
        cases e2 : la.toList[11]? with
        | none => rw [e2] at h2; cases h2
        | some v =>
          rw [e2] at h2
          exact congrArg some (refB_ok h2)
      | _ => cases h2
  · rw [e] at h1
    have h1 : refB fd.code = true := h1
    have ec : cqK K a = refA fd.code := by
      unfold cqK
      rw [e]
      rfl
    rw [ec]
    exact refB_ok h1
/-! ## what the module's names reach -/
def rootsK (g : Addr → Option Obj) (names : List Str) : List Addr := match g mainGlobals with
  | some ⟨_, _, .dict es _, _⟩ => names.filterMap fun x => match es.toList.find? (·.key.isStr x) with
    | some e => (match e.val with
      | .ref a => some a
      | _ => none)
    | none => none
  | _ => []
/-- what an object names; of a code object nothing -/
def refsX (o : Obj) : List Addr := match o.cls with
  | .type n => if (n == "code") = true then [] else He.refsO o
  | _ => He.refsO o
/-- the addresses that are new among those that some objects name -/
def newK (g : Addr → Option Obj) (old : List Addr) : List Addr → List Addr → List Addr
  | [], acc => acc
  | a :: as, acc => newK g old as (match g a with
    | some o => (refsX o).foldl (fun acc b => if (old.any (Nat.beq b) || acc.any (Nat.beq b)) = true then acc else b :: acc) acc
    | none => acc)
def reachK (g : Addr → Option Obj) : Nat → List Addr → List Addr → List Addr
  | 0, old, _ => old
  | n + 1, old, front => (fun nw => reachK g n (old ++ nw) nw) (newK g old front [])
def fragK (g : Addr → Option Obj) (names : List Str) (n : Nat) (lams : List Str) : Fr :=
  (fun as => (fun cps => frG g (as.filter fun a => !cps.any (Nat.beq a))) (lams.map fun x => cpK (frG g as) (ga (frG g as) x))) (mainGlobals :: reachK g n (rootsK g names) (rootsK g names))
/-! ## the Hook -/
structure HeadK where
  names : List Str
  n : Nat
  lams : List Str
  facts : List (Fr → Bool)
  defs : List DefK
  tabs : List (Str × List (Str × Int))
abbrev AlK : Type := Bool × List FnW × List TbW
def HeadK.look (hd : HeadK) (g : Addr → Option Obj) (K : Fr) : AlK :=
  ((hd.facts.all fun f => f K) && ((hd.defs.all fun d => dfB K (d.ad K) d.dfl d.qual) && hd.lams.all fun x => lamB K (ga K x) && (match g (cpK K (ga K x)) with
    | some ⟨.none, none, .fields vs, sl⟩ => Nat.beq vs.size 0 && Nat.beq sl.size 0
    | _ => false)), hd.defs.map fun d => fnK K (d.ad K), hd.tabs.map fun p => tbK K p.1)
def HeadK.val (hd : HeadK) (P : Params) : AlK := (true, hd.defs.map DefK.val, hd.tabs.map fun p => tbVal P p.2)
structure HeadK.Says (hd : HeadK) (w : World) (h : Heap) (K : Fr) : Prop where
  in_ : K.In h
  fact : ∀ (i : Nat) (f : Fr → Bool), hd.facts[i]? = some f → f K = true
  def_ : ∀ (i : Nat) (d : DefK), hd.defs[i]? = some d → fnK K (d.ad K) = d.val ∧ dfB K (d.ad K) d.dfl d.qual = true
  tab : ∀ (i : Nat) (p : Str × List (Str × Int)), hd.tabs[i]? = some p → tbK K p.1 = tbVal w.params p.2
  lam : ∀ (i : Nat) (x : Str), hd.lams[i]? = some x → lamB K (ga K x) = true ∧ h.get? (cpK K (ga K x)) = some { cls := .none, data := .fields #[] }
theorem HeadK.says_of {hd : HeadK} {w : World} {h : Heap} {K : Fr} (X : K.In h) (e : hd.look h.get? K = hd.val w.params) : hd.Says w h K := by
  have e1 := congrArg (fun z : AlK => z.1) e
  have e2 := congrArg (fun z : AlK => z.2.1) e
  have e3 := congrArg (fun z : AlK => z.2.2) e
  dsimp only [HeadK.look, HeadK.val] at e1 e2 e3
  simp only [Bool.and_eq_true] at e1
  obtain ⟨a1, a2, a3⟩ := e1
  refine ⟨X, fun i f hf => List.all_eq_true.mp a1 f (List.mem_of_getElem? hf), fun i d hf => ⟨?_, List.all_eq_true.mp a2 d (List.mem_of_getElem? hf)⟩, fun i p hf => ?_, fun i x hf => ?_⟩
  · have z : (hd.defs.map fun d => fnK K (d.ad K))[i]? = (hd.defs.map DefK.val)[i]? := by rw [e2]
    rw [List.getElem?_map, List.getElem?_map, hf] at z
    exact Option.some.inj z
  · have z : (hd.tabs.map fun p => tbK K p.1)[i]? = (hd.tabs.map fun p => tbVal w.params p.2)[i]? := by rw [e3]
    rw [List.getElem?_map, List.getElem?_map, hf] at z
    exact Option.some.inj z
  · have z := List.all_eq_true.mp a3 x (List.mem_of_getElem? hf)
    simp only [Bool.and_eq_true] at z
    refine ⟨z.1, ?_⟩
    have z2 := z.2
    split at z2
    · rename_i vs sl q
      rw [q]
      simp only [Bool.and_eq_true] at z2
      rw [Array.eq_empty_of_size_eq_zero (Nat.eq_of_beq_eq_true z2.1), Array.eq_empty_of_size_eq_zero (Nat.eq_of_beq_eq_true z2.2)]
    · cases z2
def HeadK.obs (hd : HeadK) (g : Addr → Option Obj) : AlK := (fun K => hd.look g K) (fragK g hd.names hd.n hd.lams)
def HeadK.hook (hd : HeadK) : PySem.W.Hook where
  α := AlK
  obs := fun s => hd.obs s.heap.get?
  val := fun w => hd.val w.params
  says := fun w h => ∃ K : Fr, hd.Says w h K
  of := fun w s e => ⟨fragK s.heap.get? hd.names hd.n hd.lams, HeadK.says_of frG_in e⟩
  keeps := fun _ _ _ ⟨K, c⟩ k => ⟨K, c.in_.keeps k, c.fact, c.def_, c.tab, fun i x hf => ⟨(c.lam i x hf).1, k _ _ (c.lam i x hf).2⟩⟩
def HeadK.ob (hd : HeadK) (s : PySem.W.SharedT) : AlK := hd.obs (HandSHeadRun.getT s)
theorem HeadK.ob_eq (hd : HeadK) (s : PySem.W.SharedT) : hd.ob s = hd.hook.obs s.abs := by
  have e : HandSHeadRun.getT s = s.abs.heap.get? := funext (HandSHeadRun.getT_eq s)
  unfold HeadK.ob
  rw [e]
  rfl
/-! ## the law's end -/
theorem walkE {l : PySem.W.OpenLaw} {k : Nat} {q : Program} {loose : List Str} {XP : (Str → Option Value) → Heap → Prop} {YP : World → Heap → Prop} {d : DefRec} {x : Str}
    (hn : l.most = some 63) (hdf : d.params.defaults = []) (hr : Room k callerA)
    (F : ∀ (w : World) (mg : Str → Option Value) (fa : Addr) (h : Heap), YP w h → h.Ns mainGlobals mg → mg d.name = some (.ref fa) →
      ∃ (K : Fr) (fd : FuncData), K.In h ∧ (∀ (z : Shared) (u : Value), BindsTo z fd ⟨[u], []⟩ [(x, u)]) ∧ ∀ base : Heap, K.In base → base.Ns mainGlobals mg → FnG l.prog w K mg base k fa fd [x] (spScr K)) :
    PySem.W.WalkO q loose XP YP l.row.toRowW d [] (fun f vs => PySem.call f vs) := by
  refine Att.attach_call hn hdf fun w s₀ s₁ mg mb fa o pm cd doc a vs ns G Y ho hd hcd hmg hobj hints hlen hg => ?_
  obtain ⟨K, fd, KX, hb, hF⟩ := F w mg fa _ Y G.T.g hmg
  exact lawG KX G.T.g G.T.b G.T.builtins G.T.nolimit hg hobj hints (Nat.le_trans hlen (by decide)) hr hF hb fun H hS => ⟨a, ns, rfl, hS, hlen, fun _ => rfl⟩
theorem walkET {l : PySem.W.OpenLaw} {k : Nat} {q : Program} {loose : List Str} {XP : (Str → Option Value) → Heap → Prop} {YP : World → Heap → Prop} {d : DefRec} {x : Str}
    (hn : l.most = some 63) (hdf : d.params.defaults = []) (hr : Room k callerA)
    (F : ∀ (w : World) (mg : Str → Option Value) (fa : Addr) (h : Heap), YP w h → h.Ns mainGlobals mg → mg d.name = some (.ref fa) →
      ∃ (K : Fr) (fd : FuncData) (cs : List (Addr × Addr)), K.In h ∧ (∀ p ∈ cs, PySem.W.CodeHd h p.1 p.2) ∧ (∀ p ∈ cs, h.get? p.2 = some { cls := .none, data := .fields #[] }) ∧ (∀ p ∈ cs, K.lookup p.2 = none) ∧ (∀ (z : Shared) (u : Value), BindsTo z fd ⟨[u], []⟩ [(x, u)]) ∧
        ∀ base : Heap, K.In base → base.Ns mainGlobals mg → (∀ p ∈ cs, LamX.TabB base mg p.1 p.2) → FnG l.prog w K mg base k fa fd [x] (spScrT K (cs.map (·.2)))) :
    PySem.W.WalkO q loose XP YP l.row.toRowW d [] (fun f vs => PySem.call f vs) := by
  refine Att.attach_call hn hdf fun w s₀ s₁ mg mb fa o pm cd doc a vs ns G Y ho hd hcd hmg hobj hints hlen hg => ?_
  obtain ⟨K, fd, cs, KX, h1, h2, h3, hb, hF⟩ := F w mg fa _ Y G.T.g hmg
  exact lawT KX G.T.g G.T.b G.T.builtins G.T.nolimit hg h1 h2 h3 G.T.bmain hobj hints hlen hr hF hb
end DL

namespace LW
open PySem PySem.Spec PyProof.Rows L2 DL
def topS (i : Nat) : Stmt := PySem.Challenge.pw_forcedties_k13_thing_calls_refused.main.body.getD i (.Pass ⟨0, 0, 0, 0⟩)
def tab_LEAST : List (Str × Int) := [("crowd", 2), ("star", 1), ("pairs", 1), ("row", 2), ("ring", 3), ("core", 1), ("linked", 1)]
abbrev tb_NoAnswer : List (Str × Bool) := [("InvalidNumber", false), ("TooMany", true), ("InvalidPerson", false)]
abbrev tb_WrongValue : List (Str × Bool) := [("InvalidNumber", true), ("TooMany", false), ("InvalidPerson", true)]
abbrev tb_NothingToUndo : List (Str × Bool) := [("InvalidNumber", false), ("TooMany", false), ("InvalidPerson", false)]
abbrev tb_UnknownName : List (Str × Bool) := [("InvalidNumber", false), ("TooMany", false), ("InvalidPerson", false)]
abbrev tb_Holding : List (Str × Bool) := [("InvalidNumber", false), ("TooMany", false), ("InvalidPerson", false)]
abbrev tb_Unruly : List (Str × Bool) := [("InvalidNumber", false), ("TooMany", false), ("InvalidPerson", false)]
abbrev tb_Broken : List (Str × Bool) := [("InvalidNumber", false), ("TooMany", false), ("InvalidPerson", false)]
abbrev tb_NotTied : List (Str × Bool) := [("InvalidNumber", false), ("TooMany", false), ("InvalidPerson", false)]
abbrev tb_AlreadyTied : List (Str × Bool) := [("InvalidNumber", false), ("TooMany", false), ("InvalidPerson", false)]
abbrev tb_TooMany : List (Str × Bool) := [("InvalidNumber", false), ("TooMany", true), ("InvalidPerson", false)]
abbrev tb_InvalidPeople : List (Str × Bool) := [("InvalidNumber", false), ("TooMany", false), ("InvalidPerson", false)]
abbrev tb_InvalidTies : List (Str × Bool) := [("InvalidNumber", false), ("TooMany", false), ("InvalidPerson", false)]
abbrev tb_OtherSize : List (Str × Bool) := [("InvalidNumber", false), ("TooMany", false), ("InvalidPerson", false)]
abbrev tb_NotAGathering : List (Str × Bool) := [("InvalidNumber", false), ("TooMany", false), ("InvalidPerson", false)]
abbrev tb_NotAParty : List (Str × Bool) := [("InvalidNumber", false), ("TooMany", false), ("InvalidPerson", false)]
abbrev tb_NotAThing : List (Str × Bool) := [("InvalidNumber", false), ("TooMany", false), ("InvalidPerson", false)]
abbrev tb_InvalidName : List (Str × Bool) := [("InvalidNumber", false), ("TooMany", false), ("InvalidPerson", false)]
abbrev tb_InvalidIndex : List (Str × Bool) := [("InvalidNumber", false), ("TooMany", false), ("InvalidPerson", false)]
abbrev tb_InvalidPerson : List (Str × Bool) := [("InvalidNumber", false), ("TooMany", false), ("InvalidPerson", true)]
abbrev tb_InvalidKind : List (Str × Bool) := [("InvalidNumber", false), ("TooMany", false), ("InvalidPerson", false)]
abbrev tb_InvalidNumber : List (Str × Bool) := [("InvalidNumber", true), ("TooMany", false), ("InvalidPerson", false)]
abbrev tb_InvalidText : List (Str × Bool) := [("InvalidNumber", false), ("TooMany", false), ("InvalidPerson", false)]
structure Txt (w : World) (K : PySem.W.Frag) (mg : Str → Option Value) (ct : CT) (C_Thing : Addr) (C_Party : Addr) (et_Party : Addr) (cq__law_right cp__law_right : Addr) : Prop where
  n_abs : mg "abs" = none
  n_all : mg "all" = none
  n_bool : mg "bool" = none
  n_divmod : mg "divmod" = none
  n_enumerate : mg "enumerate" = none
  n_int : mg "int" = none
  n_isinstance : mg "isinstance" = none
  n_len : mg "len" = none
  n_max : mg "max" = none
  n_min : mg "min" = none
  n_range : mg "range" = none
  n_repr : mg "repr" = none
  n_str : mg "str" = none
  n_tuple : mg "tuple" = none
  c_MOST_ASKED : CG mg "MOST_ASKED" (.int 10000000000000000000000000000000000000000)
  c_MOST_PEOPLE : CG mg "MOST_PEOPLE" (.int 10)
  k_LEAST : KG w K mg "LEAST" tab_LEAST
  t_PLAIN : TG K mg "PLAIN" [.str "odd ring", .str "even ring"]
  kc_Thing : Klass K ct "Thing" C_Thing
  g_Thing : mg "Thing" = some (.ref C_Thing)
  kc_Party : Klass K ct "Party" C_Party
  g_Party : mg "Party" = some (.ref C_Party)
  na_Party_held : NoAttr K C_Party "held"
  na_Party_many : NoAttr K C_Party "many"
  na_Thing_many : NoAttr K C_Thing "many"
  na_Thing_word : NoAttr K C_Thing "word"
  rs_InvalidNumber : RaiseAt K mg ct "InvalidNumber" (inClass (topS 5) 0) ["self", "given"] ["given"]
  rs_TooMany : RaiseAt K mg ct "TooMany" (inClass (topS 16) 0) ["self", "number"] ["number"]
  rs_InvalidPerson : RaiseAt K mg ct "InvalidPerson" (inClass (topS 7) 0) ["self", "given"] ["given"]
  is_NoAnswer : IsTab K mg ct "NoAnswer" tb_NoAnswer
  is_WrongValue : IsTab K mg ct "WrongValue" tb_WrongValue
  is_NothingToUndo : IsTab K mg ct "NothingToUndo" tb_NothingToUndo
  is_UnknownName : IsTab K mg ct "UnknownName" tb_UnknownName
  is_Holding : IsTab K mg ct "Holding" tb_Holding
  is_Unruly : IsTab K mg ct "Unruly" tb_Unruly
  is_Broken : IsTab K mg ct "Broken" tb_Broken
  is_NotTied : IsTab K mg ct "NotTied" tb_NotTied
  is_AlreadyTied : IsTab K mg ct "AlreadyTied" tb_AlreadyTied
  is_TooMany : IsTab K mg ct "TooMany" tb_TooMany
  is_InvalidPeople : IsTab K mg ct "InvalidPeople" tb_InvalidPeople
  is_InvalidTies : IsTab K mg ct "InvalidTies" tb_InvalidTies
  is_OtherSize : IsTab K mg ct "OtherSize" tb_OtherSize
  is_NotAGathering : IsTab K mg ct "NotAGathering" tb_NotAGathering
  is_NotAParty : IsTab K mg ct "NotAParty" tb_NotAParty
  is_NotAThing : IsTab K mg ct "NotAThing" tb_NotAThing
  is_InvalidName : IsTab K mg ct "InvalidName" tb_InvalidName
  is_InvalidIndex : IsTab K mg ct "InvalidIndex" tb_InvalidIndex
  is_InvalidPerson : IsTab K mg ct "InvalidPerson" tb_InvalidPerson
  is_InvalidKind : IsTab K mg ct "InvalidKind" tb_InvalidKind
  is_InvalidNumber : IsTab K mg ct "InvalidNumber" tb_InvalidNumber
  is_InvalidText : IsTab K mg ct "InvalidText" tb_InvalidText
  xf_index : XfTab K ct "index" []
  xf_given : XfTab K ct "given" ["InvalidNumber", "InvalidPerson"]
  xf_name : XfTab K ct "name" []
  xf_number : XfTab K ct "number" ["TooMany"]
  xf_other : XfTab K ct "other" []
  xf_one : XfTab K ct "one" []
  tc : ∃ c1 c2, mg "WrongValue" = some (.ref c1) ∧ mg "NoAnswer" = some (.ref c2) ∧ ErrTab K mg ct c1 c2 ["InvalidNumber", "TooMany", "InvalidPerson"]
  q__law_right : ct (lamQ "_law_right") = some cp__law_right
  d_is_integer : DefAt K mg "is_integer" (topS 28) ["value"]
  d_is_between : DefAt K mg "is_between" (topS 29) ["value", "least", "most"]
  d_check_people : DefAt K mg "check_people" (topS 30) ["people", "most"]
  d_check_two : DefAt K mg "check_two" (topS 31) ["one", "other", "people"]
  d_pairs_of : DefAt K mg "pairs_of" (topS 33) ["many"]
  d_most_rings : DefAt K mg "most_rings" (topS 49) ["kind", "number", "people"]
  d_most_groups : DefAt K mg "most_groups" (topS 50) ["kind", "number", "people"]
  d_most_pairs : DefAt K mg "most_pairs" (topS 48) ["number", "people"]
  d_is_all_tied : DefAt K mg "is_all_tied" (topS 52) ["kind", "number", "people"]
  d_most_of : DefAt K mg "most_of" (topS 51) ["kind", "number", "people"]
  i_Thing : InitAt K C_Thing "Thing.__init__" (inClass (topS 59) 0) ["self", "kind", "size"] [.non]
  d_wrong_tie : DefAt K mg "wrong_tie" (topS 37) ["ties", "people"]
  d_all_ties : DefAt K mg "all_ties" (topS 38) ["people"]
  i_Party : InitAt K C_Party "Party.__init__" (inClass (topS 39) 0) ["self", "people", "ties"] [.ref et_Party]
  e0_Party : ∀ F, SqT K F et_Party []
  p_Party_people : PropAt K C_Party "people" "Party.people" (inClass (topS 39) 3) ["self"]
  m_Thing_most : MethAt K C_Thing "most" "Thing.most" (inClass (topS 59) 4) ["self", "people"] [(["people"], [0])]
  m_Thing_forced : MethAt K C_Thing "forced" "Thing.forced" (inClass (topS 59) 5) ["self", "people"] [(["people"], [0])]
  m_Thing_tied : MethAt K C_Thing "tied" "Thing.tied" (inClass (topS 59) 6) ["self", "people", "one", "other"] [(["other", "one", "people"], [2, 1, 0])]
  m_Thing_fullest : MethAt K C_Thing "fullest" "Thing.fullest" (inClass (topS 59) 7) ["self", "people"] [(["people"], [0])]
  d__law_purse : DefAt K mg "_law_purse" (topS 62) ["_law_script", "_law_spot"]
  d__law_draw : DefAt K mg "_law_draw" (topS 63) ["_law_purse_here", "_law_many"]
  d__law_things : DefAt K mg "_law_things" (topS 64) ["_law_most"]
  d__law_sort : DefAt K mg "_law_sort" (topS 65) ["_law_e"]
  d__law_attribute : DefAt K mg "_law_attribute" (topS 66) ["_law_e", "_law_word"]
  d__law_told : DefAt K mg "_law_told" (topS 67) ["_law_act"]
  d__law_right : DefAtC K mg "_law_right" (topS 68) ["_law_purse_here"] cq__law_right
  d_law : DefAt K mg "law" (topS 69) ["_law_script"]
variable {P : Program} {w : World} {K : PySem.W.Frag} {mg : Str → Option Value} {base : Heap} {ct : CT}
abbrev s_InvalidNumber : Stmt := inClass (topS 5) 0
theorem sc_InvalidNumber : FnScope ["self", "given"] ["self", "given"] (defScope s_InvalidNumber) := ⟨rfl, rfl, rfl, by decide +kernel, rfl, by decide +kernel, by decide +kernel⟩
theorem rz_InvalidNumber (T : Txt w K mg ct C_Thing C_Party et_Party cq__law_right cp__law_right) : RaiserM P w K mg base ct 2 "InvalidNumber" ["given"] := raiser1 T.rs_InvalidNumber sc_InvalidNumber rfl (.inl rfl) (.inl rfl)
abbrev s_TooMany : Stmt := inClass (topS 16) 0
theorem sc_TooMany : FnScope ["self", "number"] ["self", "number"] (defScope s_TooMany) := ⟨rfl, rfl, rfl, by decide +kernel, rfl, by decide +kernel, by decide +kernel⟩
theorem rz_TooMany (T : Txt w K mg ct C_Thing C_Party et_Party cq__law_right cp__law_right) : RaiserM P w K mg base ct 2 "TooMany" ["number"] := raiser1 T.rs_TooMany sc_TooMany rfl (.inl rfl) (.inl rfl)
abbrev s_InvalidPerson : Stmt := inClass (topS 7) 0
theorem sc_InvalidPerson : FnScope ["self", "given"] ["self", "given"] (defScope s_InvalidPerson) := ⟨rfl, rfl, rfl, by decide +kernel, rfl, by decide +kernel, by decide +kernel⟩
theorem rz_InvalidPerson (T : Txt w K mg ct C_Thing C_Party et_Party cq__law_right cp__law_right) : RaiserM P w K mg base ct 2 "InvalidPerson" ["given"] := raiser1 T.rs_InvalidPerson sc_InvalidPerson rfl (.inl rfl) (.inl rfl)
abbrev s_is_integer : Stmt := topS 28
theorem sc_is_integer : FnScope ["value"] ["value"] (defScope s_is_integer) := ⟨rfl, rfl, rfl, by decide +kernel, rfl, by decide +kernel, by decide +kernel⟩
def b_is_integer : FS :=
  (sRet (fAnd (fIsi "int" (fVar 0)) (fNot (fIsi "bool" (fVar 0)))))
def d_is_integer : FD := runD 1 (b_is_integer)
theorem ok_is_integer {k : Nat} (T : Txt w K mg ct C_Thing C_Party et_Party cq__law_right cp__law_right) : Callee P w K mg base ct (k + 1) "is_integer" 1 (d_is_integer) :=
  callee_of T.d_is_integer sc_is_integer fun f cdv A outer s H E hr =>
    (sss_one (ss_ret (se_and (se_isi (by rfl) T.n_isinstance (se_var 0) (by rfl) T.n_int (by decide +kernel)) (se_one (se_not (se_isi (by rfl) T.n_isinstance (se_var 0) (by rfl) T.n_bool (by decide +kernel)))))))
abbrev s_is_between : Stmt := topS 29
theorem sc_is_between : FnScope ["value", "least", "most"] ["value", "least", "most"] (defScope s_is_between) := ⟨rfl, rfl, rfl, by decide +kernel, rfl, by decide +kernel, by decide +kernel⟩
def b_is_between (c_is_integer : FD) : FS :=
  (sRet (fAnd (fCall c_is_integer (fCons (fVar 0) fNil)) (fChain gLe gLe (fVar 1) (fVar 0) (fVar 2))))
def d_is_between (c_is_integer : FD) : FD := runD 3 (b_is_between c_is_integer)
theorem ok_is_between {c_is_integer : FD} {k : Nat} (T : Txt w K mg ct C_Thing C_Party et_Party cq__law_right cp__law_right) (C_is_integer : Callee P w K mg base ct k "is_integer" 1 c_is_integer) : Callee P w K mg base ct (k + 1) "is_between" 3 (d_is_between c_is_integer) :=
  callee_of T.d_is_between sc_is_between fun f cdv A outer s H E hr =>
    (sss_one (ss_ret (se_and (se_fn C_is_integer hr (by rfl) (sa_cons (se_var 0) sa_nil) (fCons_len (fun _ _ _ _ h => fNil_len h))) (se_one (se_chain op_le od_le op_le od_le (se_var 1) (se_var 0) (se_var 2))))))
abbrev s_check_people : Stmt := topS 30
theorem sc_check_people : FnScope ["people", "most"] ["people", "most"] (defScope s_check_people) := ⟨rfl, rfl, rfl, by decide +kernel, rfl, by decide +kernel, by decide +kernel⟩
def b_check_people (c_is_integer : FD) : FS :=
  (sSeq (sIf (tOrD (tNotD (fTest (fCall c_is_integer (fCons (fVar 0) fNil)))) (fTest (fBin gLt (fVar 0) (fC (.int 0))))) sNever sSkip)
    (sIf (fTest (fBin gGt (fVar 0) (fVar 1))) sNever sSkip))
def d_check_people (c_is_integer : FD) : FD := runD 2 (b_check_people c_is_integer)
theorem ok_check_people {c_is_integer : FD} {k : Nat} (T : Txt w K mg ct C_Thing C_Party et_Party cq__law_right cp__law_right) (C_is_integer : Callee P w K mg base ct k "is_integer" 1 c_is_integer) : Callee P w K mg base ct (k + 1) "check_people" 2 (d_check_people c_is_integer) :=
  callee_of T.d_check_people sc_check_people fun f cdv A outer s H E hr =>
    (sss_cons (ss_if (SW.st (sw_or (st_not (st_val (se_fn C_is_integer hr (by rfl) (sa_cons (se_var 0) sa_nil) (fCons_len (fun _ _ _ _ h => fNil_len h))))) (sw_or1 (st_cmp op_lt od_lt (se_var 0) se_int (nomark _))))) (sss_one ss_never) sss_nil)
      (sss_one (ss_if (st_cmp op_gt od_gt (se_var 0) (se_var 1) (nomark _)) (sss_one ss_never) sss_nil)))
def bx_check_people (c_is_integer : FD) : FX :=
  (xSeq (sIf (tOrD (tNotD (fTest (fCall c_is_integer (fCons (fVar 0) fNil)))) (fTest (fBin gLt (fVar 0) (fC (.int 0))))) sNever sSkip) (xIf (tOrD (tNotD (fTest (fCall c_is_integer (fCons (fVar 0) fNil)))) (fTest (fBin gLt (fVar 0) (fC (.int 0))))) (xRaise "InvalidNumber" ["given"] (fCons (fVar 0) fNil)) xNo)
    (xIf (fTest (fBin gGt (fVar 0) (fVar 1))) (xRaise "TooMany" ["number"] (fCons (fVar 0) fNil)) xNo))
def dx_check_people (c_is_integer : FD) : XD := runX 2 (bx_check_people c_is_integer)
theorem okx_check_people {c_is_integer : FD} {k : Nat} (T : Txt w K mg ct C_Thing C_Party et_Party cq__law_right cp__law_right) (R_TooMany : RaiserM P w K mg base ct k "TooMany" ["number"]) (R_InvalidNumber : RaiserM P w K mg base ct k "InvalidNumber" ["given"]) (C_is_integer : Callee P w K mg base ct k "is_integer" 1 c_is_integer) : CalleeX P w K mg base ct (k + 1) "check_people" 2 (dx_check_people c_is_integer) :=
  calleeX_of T.d_check_people sc_check_people fun f cdv A outer s H E hr =>
    (xss_cons (ss_if (SW.st (sw_or (st_not (st_val (se_fn C_is_integer hr (by rfl) (sa_cons (se_var 0) sa_nil) (fCons_len (fun _ _ _ _ h => fNil_len h))))) (sw_or1 (st_cmp op_lt od_lt (se_var 0) se_int (nomark _))))) (sss_one ss_never) sss_nil) (xs_if (SW.st (sw_or (st_not (st_val (se_fn C_is_integer hr (by rfl) (sa_cons (se_var 0) sa_nil) (fCons_len (fun _ _ _ _ h => fNil_len h))))) (sw_or1 (st_cmp op_lt od_lt (se_var 0) se_int (nomark _))))) (xss_one (xs_raiseM R_InvalidNumber rfl lets_def hr (by rfl) (sa_cons (se_var 0) sa_nil))) xss_no)
      (xss_one (xs_if (st_cmp op_gt od_gt (se_var 0) (se_var 1) (nomark _)) (xss_one (xs_raiseM R_TooMany rfl lets_def hr (by rfl) (sa_cons (se_var 0) sa_nil))) xss_no)))
abbrev s_check_two : Stmt := topS 31
theorem sc_check_two : FnScope ["one", "other", "people"] ["one", "other", "people"] (defScope s_check_two) := ⟨rfl, rfl, rfl, by decide +kernel, rfl, by decide +kernel, by decide +kernel⟩
def b_check_two (c_is_between : FD) : FS :=
  (sSeq (sIf (tNotD (fTest (fCall c_is_between (fCons (fVar 0) (fCons (fC (.int 0)) (fCons (fBin gSubI (fVar 2) (fC (.int 1))) fNil)))))) sNever sSkip)
    (sIf (tOrD (tNotD (fTest (fCall c_is_between (fCons (fVar 1) (fCons (fC (.int 0)) (fCons (fBin gSubI (fVar 2) (fC (.int 1))) fNil)))))) (fTest (fBin gEq (fVar 1) (fVar 0)))) sNever sSkip))
def d_check_two (c_is_between : FD) : FD := runD 3 (b_check_two c_is_between)
theorem ok_check_two {c_is_between : FD} {k : Nat} (T : Txt w K mg ct C_Thing C_Party et_Party cq__law_right cp__law_right) (C_is_between : Callee P w K mg base ct k "is_between" 3 c_is_between) : Callee P w K mg base ct (k + 1) "check_two" 3 (d_check_two c_is_between) :=
  callee_of T.d_check_two sc_check_two fun f cdv A outer s H E hr =>
    (sss_cons (ss_if (st_not (st_val (se_fn C_is_between hr (by rfl) (sa_cons (se_var 0) (sa_cons se_int (sa_cons (se_op op_sub od_sub (se_var 2) se_int) sa_nil))) (fCons_len (fCons_len (fCons_len (fun _ _ _ _ h => fNil_len h))))))) (sss_one ss_never) sss_nil)
      (sss_one (ss_if (SW.st (sw_or (st_not (st_val (se_fn C_is_between hr (by rfl) (sa_cons (se_var 1) (sa_cons se_int (sa_cons (se_op op_sub od_sub (se_var 2) se_int) sa_nil))) (fCons_len (fCons_len (fCons_len (fun _ _ _ _ h => fNil_len h))))))) (sw_or1 (st_cmp (op_eqAll hr) od_eq (se_var 1) (se_var 0) (nomark _))))) (sss_one ss_never) sss_nil)))
def bx_check_two (c_is_between : FD) : FX :=
  (xSeq (sIf (tNotD (fTest (fCall c_is_between (fCons (fVar 0) (fCons (fC (.int 0)) (fCons (fBin gSubI (fVar 2) (fC (.int 1))) fNil)))))) sNever sSkip) (xIf (tNotD (fTest (fCall c_is_between (fCons (fVar 0) (fCons (fC (.int 0)) (fCons (fBin gSubI (fVar 2) (fC (.int 1))) fNil)))))) (xRaise "InvalidPerson" ["given"] (fCons (fVar 0) fNil)) xNo)
    (xIf (tOrD (tNotD (fTest (fCall c_is_between (fCons (fVar 1) (fCons (fC (.int 0)) (fCons (fBin gSubI (fVar 2) (fC (.int 1))) fNil)))))) (fTest (fBin gEq (fVar 1) (fVar 0)))) (xRaise "InvalidPerson" ["given"] (fCons (fVar 1) fNil)) xNo))
def dx_check_two (c_is_between : FD) : XD := runX 3 (bx_check_two c_is_between)
theorem okx_check_two {c_is_between : FD} {k : Nat} (T : Txt w K mg ct C_Thing C_Party et_Party cq__law_right cp__law_right) (R_InvalidPerson : RaiserM P w K mg base ct k "InvalidPerson" ["given"]) (C_is_between : Callee P w K mg base ct k "is_between" 3 c_is_between) : CalleeX P w K mg base ct (k + 1) "check_two" 3 (dx_check_two c_is_between) :=
  calleeX_of T.d_check_two sc_check_two fun f cdv A outer s H E hr =>
    (xss_cons (ss_if (st_not (st_val (se_fn C_is_between hr (by rfl) (sa_cons (se_var 0) (sa_cons se_int (sa_cons (se_op op_sub od_sub (se_var 2) se_int) sa_nil))) (fCons_len (fCons_len (fCons_len (fun _ _ _ _ h => fNil_len h))))))) (sss_one ss_never) sss_nil) (xs_if (st_not (st_val (se_fn C_is_between hr (by rfl) (sa_cons (se_var 0) (sa_cons se_int (sa_cons (se_op op_sub od_sub (se_var 2) se_int) sa_nil))) (fCons_len (fCons_len (fCons_len (fun _ _ _ _ h => fNil_len h))))))) (xss_one (xs_raiseM R_InvalidPerson rfl lets_def hr (by rfl) (sa_cons (se_var 0) sa_nil))) xss_no)
      (xss_one (xs_if (SW.st (sw_or (st_not (st_val (se_fn C_is_between hr (by rfl) (sa_cons (se_var 1) (sa_cons se_int (sa_cons (se_op op_sub od_sub (se_var 2) se_int) sa_nil))) (fCons_len (fCons_len (fCons_len (fun _ _ _ _ h => fNil_len h))))))) (sw_or1 (st_cmp (op_eqAll hr) od_eq (se_var 1) (se_var 0) (nomark _))))) (xss_one (xs_raiseM R_InvalidPerson rfl lets_def hr (by rfl) (sa_cons (se_var 1) sa_nil))) xss_no)))
abbrev s_pairs_of : Stmt := topS 33
theorem sc_pairs_of : FnScope ["many"] ["many"] (defScope s_pairs_of) := ⟨rfl, rfl, rfl, by decide +kernel, rfl, by decide +kernel, by decide +kernel⟩
def b_pairs_of : FS :=
  (sRet (fBin gFdiv (fBin gMul (fVar 0) (fBin gSubI (fVar 0) (fC (.int 1)))) (fC (.int 2))))
def d_pairs_of : FD := runD 1 (b_pairs_of)
theorem ok_pairs_of {k : Nat} (T : Txt w K mg ct C_Thing C_Party et_Party cq__law_right cp__law_right) : Callee P w K mg base ct (k + 1) "pairs_of" 1 (d_pairs_of) :=
  callee_of T.d_pairs_of sc_pairs_of fun f cdv A outer s H E hr =>
    (sss_one (ss_ret (se_op op_fdivW od_fdiv (se_op op_mulW od_mul (se_var 0) (se_op op_sub od_sub (se_var 0) se_int)) se_int)))
abbrev s_most_rings : Stmt := topS 49
theorem sc_most_rings : FnScope ["kind", "number", "people", "blocks", "rest"] ["kind", "number", "people"] (defScope s_most_rings) := ⟨rfl, rfl, rfl, by decide +kernel, rfl, by decide +kernel, by decide +kernel⟩
def b_most_rings (c_pairs_of : FD) : FS :=
  (sSeq (sIf (fTest (fBin gEq (fVar 2) (fC (.int 0)))) (sRet (fC (.int 0))) sSkip)
    (sSeq (sIf (fTest (fBin gEq (fVar 0) (fC (.str "ring")))) (sSeq (sPar 3 4 (fCons (fBin gFdiv (fBin gSubI (fVar 2) (fC (.int 1))) (fBin gSubI (fVar 1) (fC (.int 2)))) (fCons (fBin gMod (fBin gSubI (fVar 2) (fC (.int 1))) (fBin gSubI (fVar 1) (fC (.int 2)))) fNil)))
    (sRet (fBin gAdd (fBin gMul (fVar 3) (fCall c_pairs_of (fCons (fBin gSubI (fVar 1) (fC (.int 1))) fNil))) (fCall c_pairs_of (fCons (fBin gAdd (fVar 4) (fC (.int 1))) fNil))))) sSkip)
    (sRet (fIf (fTest (fBin gEq (fVar 0) (fC (.str "odd ring")))) (fBin gFdiv (fBin gMul (fVar 2) (fVar 2)) (fC (.int 4))) (fBin gFdiv (fBin gMul (fC (.int 3)) (fBin gSubI (fVar 2) (fC (.int 1)))) (fC (.int 2)))))))
def d_most_rings (c_pairs_of : FD) : FD := runD 5 (b_most_rings c_pairs_of)
theorem ok_most_rings {c_pairs_of : FD} {k : Nat} (T : Txt w K mg ct C_Thing C_Party et_Party cq__law_right cp__law_right) (C_pairs_of : Callee P w K mg base ct k "pairs_of" 1 c_pairs_of) : Callee P w K mg base ct (k + 1) "most_rings" 3 (d_most_rings c_pairs_of) :=
  callee_of T.d_most_rings sc_most_rings fun f cdv A outer s H E hr =>
    (sss_cons (ss_if (st_cmp (op_eqAll hr) od_eq (se_var 2) se_int (nomark _)) (sss_one (ss_ret se_int)) sss_nil)
      (sss_cons (ss_if (st_cmp (op_eqAll hr) od_eq (se_var 0) se_str (nomark _)) (sss_cons (ss_par (i := 3) (j := 4) (fun ta h => ps_par rfl sc_most_rings.nd rfl rfl (by decide) rfl rfl h (by rfl)) (sa_cons (se_op op_fdivW od_fdiv (se_op op_sub od_sub (se_var 2) se_int) (se_op op_sub od_sub (se_var 1) se_int)) (sa_cons (se_op op_mod od_mod (se_op op_sub od_sub (se_var 2) se_int) (se_op op_sub od_sub (se_var 1) se_int)) sa_nil)))
      (sss_one (ss_ret (se_op op_addAll od_add (se_op op_mulW od_mul (se_var 3) (se_fn C_pairs_of hr (by rfl) (sa_cons (se_op op_sub od_sub (se_var 1) se_int) sa_nil) (fCons_len (fun _ _ _ _ h => fNil_len h)))) (se_fn C_pairs_of hr (by rfl) (sa_cons (se_op op_addAll od_add (se_var 4) se_int) sa_nil) (fCons_len (fun _ _ _ _ h => fNil_len h))))))) sss_nil)
      (sss_one (ss_ret (se_if (st_cmp (op_eqAll hr) od_eq (se_var 0) se_str (nomark _)) (se_op op_fdivW od_fdiv (se_op op_mulW od_mul (se_var 2) (se_var 2)) se_int) (se_op op_fdivW od_fdiv (se_op op_mulW od_mul se_int (se_op op_sub od_sub (se_var 2) se_int)) se_int))))))
abbrev s_most_groups : Stmt := topS 50
theorem sc_most_groups : FnScope ["kind", "number", "people", "size", "rest"] ["kind", "number", "people"] (defScope s_most_groups) := ⟨rfl, rfl, rfl, by decide +kernel, rfl, by decide +kernel, by decide +kernel⟩
def b_most_groups (c_pairs_of : FD) : FS :=
  (sSeq (sIf (fTest (fBin gEq (fVar 0) (fC (.str "star")))) (sRet (fCall cMin2 (fCons (fCall c_pairs_of (fCons (fVar 2) fNil)) (fCons (fBin gFdiv (fBin gMul (fVar 2) (fBin gSubI (fVar 1) (fC (.int 1)))) (fC (.int 2))) fNil)))) sSkip)
    (sSeq (sPar 3 4 (fCons (fBin gFdiv (fVar 2) (fBin gSubI (fVar 1) (fC (.int 1)))) (fCons (fBin gMod (fVar 2) (fBin gSubI (fVar 1) (fC (.int 1)))) fNil)))
    (sSeq (sIf (fTest (fBin gEq (fVar 0) (fC (.str "row")))) (sRet (fBin gAdd (fBin gMul (fVar 3) (fCall c_pairs_of (fCons (fBin gSubI (fVar 1) (fC (.int 1))) fNil))) (fCall c_pairs_of (fCons (fVar 4) fNil)))) sSkip)
    (sRet (fBin gSubI (fBin gSubI (fCall c_pairs_of (fCons (fVar 2) fNil)) (fBin gMul (fVar 4) (fCall c_pairs_of (fCons (fBin gAdd (fVar 3) (fC (.int 1))) fNil)))) (fBin gMul (fBin gSubI (fBin gSubI (fVar 1) (fC (.int 1))) (fVar 4)) (fCall c_pairs_of (fCons (fVar 3) fNil))))))))
def d_most_groups (c_pairs_of : FD) : FD := runD 5 (b_most_groups c_pairs_of)
theorem ok_most_groups {c_pairs_of : FD} {k : Nat} (T : Txt w K mg ct C_Thing C_Party et_Party cq__law_right cp__law_right) (C_pairs_of : Callee P w K mg base ct k "pairs_of" 1 c_pairs_of) : Callee P w K mg base ct (k + 1) "most_groups" 3 (d_most_groups c_pairs_of) :=
  callee_of T.d_most_groups sc_most_groups fun f cdv A outer s H E hr =>
    (sss_cons (ss_if (st_cmp (op_eqAll hr) od_eq (se_var 0) se_str (nomark _)) (sss_one (ss_ret (se_callB (call_min2 rfl) cd_min2 (by rfl) T.n_min (by decide +kernel) (sa_cons (se_fn C_pairs_of hr (by rfl) (sa_cons (se_var 2) sa_nil) (fCons_len (fun _ _ _ _ h => fNil_len h))) (sa_cons (se_op op_fdivW od_fdiv (se_op op_mulW od_mul (se_var 2) (se_op op_sub od_sub (se_var 1) se_int)) se_int) sa_nil))))) sss_nil)
      (sss_cons (ss_par (i := 3) (j := 4) (fun ta h => ps_par rfl sc_most_groups.nd rfl rfl (by decide) rfl rfl h (by rfl)) (sa_cons (se_op op_fdivW od_fdiv (se_var 2) (se_op op_sub od_sub (se_var 1) se_int)) (sa_cons (se_op op_mod od_mod (se_var 2) (se_op op_sub od_sub (se_var 1) se_int)) sa_nil)))
      (sss_cons (ss_if (st_cmp (op_eqAll hr) od_eq (se_var 0) se_str (nomark _)) (sss_one (ss_ret (se_op op_addAll od_add (se_op op_mulW od_mul (se_var 3) (se_fn C_pairs_of hr (by rfl) (sa_cons (se_op op_sub od_sub (se_var 1) se_int) sa_nil) (fCons_len (fun _ _ _ _ h => fNil_len h)))) (se_fn C_pairs_of hr (by rfl) (sa_cons (se_var 4) sa_nil) (fCons_len (fun _ _ _ _ h => fNil_len h)))))) sss_nil)
      (sss_one (ss_ret (se_op op_sub od_sub (se_op op_sub od_sub (se_fn C_pairs_of hr (by rfl) (sa_cons (se_var 2) sa_nil) (fCons_len (fun _ _ _ _ h => fNil_len h))) (se_op op_mulW od_mul (se_var 4) (se_fn C_pairs_of hr (by rfl) (sa_cons (se_op op_addAll od_add (se_var 3) se_int) sa_nil) (fCons_len (fun _ _ _ _ h => fNil_len h))))) (se_op op_mulW od_mul (se_op op_sub od_sub (se_op op_sub od_sub (se_var 1) se_int) (se_var 4)) (se_fn C_pairs_of hr (by rfl) (sa_cons (se_var 3) sa_nil) (fCons_len (fun _ _ _ _ h => fNil_len h))))))))))
abbrev s_most_pairs : Stmt := topS 48
theorem sc_most_pairs : FnScope ["number", "people"] ["number", "people"] (defScope s_most_pairs) := ⟨rfl, rfl, rfl, by decide +kernel, rfl, by decide +kernel, by decide +kernel⟩
def b_most_pairs (c_pairs_of : FD) : FS :=
  (sRet (fTup (fCons (fCall c_pairs_of (fCons (fBin gSubI (fBin gMul (fC (.int 2)) (fVar 0)) (fC (.int 1))) fNil)) (fCons (fBin gAdd (fCall c_pairs_of (fCons (fBin gSubI (fVar 0) (fC (.int 1))) fNil)) (fBin gMul (fBin gSubI (fVar 0) (fC (.int 1))) (fBin gAdd (fBin gSubI (fVar 1) (fVar 0)) (fC (.int 1))))) fNil))))
def d_most_pairs (c_pairs_of : FD) : FD := runD 2 (b_most_pairs c_pairs_of)
theorem ok_most_pairs {c_pairs_of : FD} {k : Nat} (T : Txt w K mg ct C_Thing C_Party et_Party cq__law_right cp__law_right) (C_pairs_of : Callee P w K mg base ct k "pairs_of" 1 c_pairs_of) : Callee P w K mg base ct (k + 1) "most_pairs" 2 (d_most_pairs c_pairs_of) :=
  callee_of T.d_most_pairs sc_most_pairs fun f cdv A outer s H E hr =>
    (sss_one (ss_ret (se_tup (sa_cons (se_fn C_pairs_of hr (by rfl) (sa_cons (se_op op_sub od_sub (se_op op_mulW od_mul se_int (se_var 0)) se_int) sa_nil) (fCons_len (fun _ _ _ _ h => fNil_len h))) (sa_cons (se_op op_addAll od_add (se_fn C_pairs_of hr (by rfl) (sa_cons (se_op op_sub od_sub (se_var 0) se_int) sa_nil) (fCons_len (fun _ _ _ _ h => fNil_len h))) (se_op op_mulW od_mul (se_op op_sub od_sub (se_var 0) se_int) (se_op op_addAll od_add (se_op op_sub od_sub (se_var 1) (se_var 0)) se_int))) sa_nil)))))
abbrev s_is_all_tied : Stmt := topS 52
theorem sc_is_all_tied : FnScope ["kind", "number", "people"] ["kind", "number", "people"] (defScope s_is_all_tied) := ⟨rfl, rfl, rfl, by decide +kernel, rfl, by decide +kernel, by decide +kernel⟩
def b_is_all_tied : FS :=
  (sSeq (sIf (fTest (fBin gEq (fVar 0) (fC (.str "pairs")))) (sRet (fBin gLt (fVar 2) (fBin gMul (fC (.int 2)) (fVar 1)))) sSkip)
    (sRet (fIf (fTest (fBin gEq (fVar 0) (fC (.str "core")))) (fBin gLt (fVar 2) (fVar 1)) (fBin gLe (fVar 2) (fVar 1)))))
def d_is_all_tied : FD := runD 3 (b_is_all_tied)
theorem ok_is_all_tied {k : Nat} (T : Txt w K mg ct C_Thing C_Party et_Party cq__law_right cp__law_right) : Callee P w K mg base ct (k + 1) "is_all_tied" 3 (d_is_all_tied) :=
  callee_of T.d_is_all_tied sc_is_all_tied fun f cdv A outer s H E hr =>
    (sss_cons (ss_if (st_cmp (op_eqAll hr) od_eq (se_var 0) se_str (nomark _)) (sss_one (ss_ret (se_cmp op_lt od_lt (se_var 2) (se_op op_mulW od_mul se_int (se_var 1)) (nomark _)))) sss_nil)
      (sss_one (ss_ret (se_if (st_cmp (op_eqAll hr) od_eq (se_var 0) se_str (nomark _)) (se_cmp op_lt od_lt (se_var 2) (se_var 1) (nomark _)) (se_cmp op_le od_le (se_var 2) (se_var 1) (nomark _))))))
abbrev s_most_of : Stmt := topS 51
theorem sc_most_of : FnScope ["kind", "number", "people"] ["kind", "number", "people"] (defScope s_most_of) := ⟨rfl, rfl, rfl, by decide +kernel, rfl, by decide +kernel, by decide +kernel⟩
def b_most_of (c_pairs_of : FD) (c_most_pairs : FD) (c_is_all_tied : FD) (c_most_groups : FD) (c_most_rings : FD) : FS :=
  (sSeq (sIf (fTest (fBin gIn (fC (.str "ring")) (fVar 0))) (sRet (fCall c_most_rings (fCons (fVar 0) (fCons (fVar 1) (fCons (fVar 2) fNil))))) sSkip)
    (sSeq (sIf (fTest (fBin gIn (fVar 0) (fTup (fCons (fC (.str "crowd")) (fCons (fC (.str "star")) (fCons (fC (.str "row")) fNil)))))) (sRet (fCall c_most_groups (fCons (fVar 0) (fCons (fVar 1) (fCons (fVar 2) fNil))))) sSkip)
    (sSeq (sIf (fTest (fCall c_is_all_tied (fCons (fVar 0) (fCons (fVar 1) (fCons (fVar 2) fNil))))) (sRet (fCall c_pairs_of (fCons (fVar 2) fNil))) sSkip)
    (sSeq (sIf (fTest (fBin gEq (fVar 0) (fC (.str "pairs")))) (sRet (fCall cMaxT (fCons (fCall c_most_pairs (fCons (fVar 1) (fCons (fVar 2) fNil))) fNil))) sSkip)
    (sSeq (sIf (fTest (fBin gEq (fVar 0) (fC (.str "core")))) (sRet (fBin gSubI (fBin gMul (fBin gSubI (fVar 1) (fC (.int 1))) (fVar 2)) (fCall c_pairs_of (fCons (fVar 1) fNil)))) sSkip)
    (sRet (fBin gSubI (fBin gAdd (fCall c_pairs_of (fCons (fBin gSubI (fVar 2) (fC (.int 1))) fNil)) (fVar 1)) (fC (.int 1)))))))))
def d_most_of (c_pairs_of : FD) (c_most_pairs : FD) (c_is_all_tied : FD) (c_most_groups : FD) (c_most_rings : FD) : FD := runD 3 (b_most_of c_pairs_of c_most_pairs c_is_all_tied c_most_groups c_most_rings)
theorem ok_most_of {c_pairs_of : FD} {c_most_pairs : FD} {c_is_all_tied : FD} {c_most_groups : FD} {c_most_rings : FD} {k : Nat} (T : Txt w K mg ct C_Thing C_Party et_Party cq__law_right cp__law_right) (C_pairs_of : Callee P w K mg base ct k "pairs_of" 1 c_pairs_of) (C_most_pairs : Callee P w K mg base ct k "most_pairs" 2 c_most_pairs) (C_is_all_tied : Callee P w K mg base ct k "is_all_tied" 3 c_is_all_tied) (C_most_groups : Callee P w K mg base ct k "most_groups" 3 c_most_groups) (C_most_rings : Callee P w K mg base ct k "most_rings" 3 c_most_rings) : Callee P w K mg base ct (k + 1) "most_of" 3 (d_most_of c_pairs_of c_most_pairs c_is_all_tied c_most_groups c_most_rings) :=
  callee_of T.d_most_of sc_most_of fun f cdv A outer s H E hr =>
    (sss_cons (ss_if (st_cmp op_inAll od_in se_str (se_var 0) (by rfl)) (sss_one (ss_ret (se_fn C_most_rings hr (by rfl) (sa_cons (se_var 0) (sa_cons (se_var 1) (sa_cons (se_var 2) sa_nil))) (fCons_len (fCons_len (fCons_len (fun _ _ _ _ h => fNil_len h))))))) sss_nil)
      (sss_cons (ss_if (st_cmp op_inAll od_in (se_var 0) (se_tup (sa_cons se_str (sa_cons se_str (sa_cons se_str sa_nil)))) (by rfl)) (sss_one (ss_ret (se_fn C_most_groups hr (by rfl) (sa_cons (se_var 0) (sa_cons (se_var 1) (sa_cons (se_var 2) sa_nil))) (fCons_len (fCons_len (fCons_len (fun _ _ _ _ h => fNil_len h))))))) sss_nil)
      (sss_cons (ss_if (st_val (se_fn C_is_all_tied hr (by rfl) (sa_cons (se_var 0) (sa_cons (se_var 1) (sa_cons (se_var 2) sa_nil))) (fCons_len (fCons_len (fCons_len (fun _ _ _ _ h => fNil_len h)))))) (sss_one (ss_ret (se_fn C_pairs_of hr (by rfl) (sa_cons (se_var 2) sa_nil) (fCons_len (fun _ _ _ _ h => fNil_len h))))) sss_nil)
      (sss_cons (ss_if (st_cmp (op_eqAll hr) od_eq (se_var 0) se_str (nomark _)) (sss_one (ss_ret (se_callB (cr_maxT rfl) cd_maxT (by rfl) T.n_max (by decide +kernel) (sa_cons (se_fn C_most_pairs hr (by rfl) (sa_cons (se_var 1) (sa_cons (se_var 2) sa_nil)) (fCons_len (fCons_len (fun _ _ _ _ h => fNil_len h)))) sa_nil)))) sss_nil)
      (sss_cons (ss_if (st_cmp (op_eqAll hr) od_eq (se_var 0) se_str (nomark _)) (sss_one (ss_ret (se_op op_sub od_sub (se_op op_mulW od_mul (se_op op_sub od_sub (se_var 1) se_int) (se_var 2)) (se_fn C_pairs_of hr (by rfl) (sa_cons (se_var 1) sa_nil) (fCons_len (fun _ _ _ _ h => fNil_len h)))))) sss_nil)
      (sss_one (ss_ret (se_op op_sub od_sub (se_op op_addAll od_add (se_fn C_pairs_of hr (by rfl) (sa_cons (se_op op_sub od_sub (se_var 2) se_int) sa_nil) (fCons_len (fun _ _ _ _ h => fNil_len h))) (se_var 1)) se_int))))))))
abbrev s_Thing___init__ : Stmt := inClass (topS 59) 0
theorem sc_Thing___init__ : FnScope ["self", "kind", "size"] ["self", "kind", "size"] (defScope s_Thing___init__) := ⟨rfl, rfl, rfl, by decide +kernel, rfl, by decide +kernel, by decide +kernel⟩
def b_Thing___init__ (c_is_between : FD) : FS :=
  (sSeq (sIf (tOrD (tNotD (fTest (fIsi "str" (fVar 1)))) (tAndD (fTest (fKIn true tab_LEAST (fVar 1))) (fTest (fBin gNotIn (fVar 1) (fC (.tup [.str "odd ring", .str "even ring"])))))) sNever sSkip)
    (sSeq (sIf (tOrD (tAndD (fTest (fBin gIn (fVar 1) (fC (.tup [.str "odd ring", .str "even ring"])))) (fTest (fBin gNotN (fVar 2) (fC .non)))) (tAndD (fTest (fKIn false tab_LEAST (fVar 1))) (tNotD (fTest (fCall c_is_between (fCons (fVar 2) (fCons (fKIx tab_LEAST (fVar 1)) (fCons (fC (.int 10000000000000000000000000000000000000000)) fNil)))))))) sNever sSkip)
    (sSeq (sFldD "Thing" "word" (fVar 0) (fVar 1))
    (sFldD "Thing" "many" (fVar 0) (fVar 2)))))
def d_Thing___init__ (c_is_between : FD) : FD := runD 3 (b_Thing___init__ c_is_between)
theorem ok_Thing___init__ {c_is_between : FD} {k : Nat} (T : Txt w K mg ct C_Thing C_Party et_Party cq__law_right cp__law_right) (C_is_between : Callee P w K mg base ct k "is_between" 3 c_is_between) : Initer P w K mg base ct (k + 1) "Thing" [.non] 3 (d_Thing___init__ c_is_between) :=
  initer_of T.kc_Thing T.g_Thing T.i_Thing sc_Thing___init__ fun f cdv A outer s H E hr =>
    (sss_cons (ss_if (SW.st (sw_or (st_not (st_val (se_isi (by rfl) T.n_isinstance (se_var 1) (by rfl) T.n_str (by decide +kernel)))) (sw_or1 (SW.st (sw_and (st_knotinG T.k_LEAST (by rfl) (se_var 1)) (sw_and1 (st_cmp op_notInAll od_notIn (se_var 1) (se_globT (ds := [.str "odd ring", .str "even ring"]) (vs := [.str "odd ring", .str "even ring"]) (by rfl) T.t_PLAIN (fun _ _ => ⟨_, _, rfl, rfl, ⟨_, _, rfl, rfl, rfl⟩⟩)) (by rfl)))))))) (sss_one ss_never) sss_nil)
      (sss_cons (ss_if (SW.st (sw_or (SW.st (sw_and (st_cmp op_inAll od_in (se_var 1) (se_globT (ds := [.str "odd ring", .str "even ring"]) (vs := [.str "odd ring", .str "even ring"]) (by rfl) T.t_PLAIN (fun _ _ => ⟨_, _, rfl, rfl, ⟨_, _, rfl, rfl, rfl⟩⟩)) (by rfl)) (sw_and1 (st_cmp op_notN od_notN (se_var 2) se_non (nomark _))))) (sw_or1 (SW.st (sw_and (st_kinG T.k_LEAST (by rfl) (se_var 1)) (sw_and1 (st_not (st_val (se_fn C_is_between hr (by rfl) (sa_cons (se_var 2) (sa_cons (se_kixG T.k_LEAST (by rfl) (se_var 1) (fun _ _ => rfl)) (sa_cons (se_globC (d := (.int 10000000000000000000000000000000000000000)) (by rfl) T.c_MOST_ASKED (fun _ _ => rfl)) sa_nil))) (fCons_len (fCons_len (fCons_len (fun _ _ _ _ h => fNil_len h))))))))))))) (sss_one ss_never) sss_nil)
      (sss_cons (ss_fld T.kc_Thing T.na_Thing_word (se_var 0) (se_var 1))
      (sss_one (ss_fld T.kc_Thing T.na_Thing_many (se_var 0) (se_var 2))))))
abbrev s_wrong_tie : Stmt := topS 37
theorem sc_wrong_tie : FnScope ["ties", "people", "k", "tie"] ["ties", "people"] (defScope s_wrong_tie) := ⟨rfl, rfl, rfl, by decide +kernel, rfl, by decide +kernel, by decide +kernel⟩
def b_wrong_tie : FS :=
  (sSeq (sIf (tNotD (fTest (fIsi "tuple" (fVar 0)))) (sRet (fC .non)) sSkip)
    (sSeq (sFor (iEnum (iTup (fVar 0))) (gTup 2 (gCons (gN 2) (gCons (gN 3) gNil))) sNever)
    (sRet (fUn gNeg (fC (.int 1))))))
def d_wrong_tie : FD := runD 4 (b_wrong_tie)
theorem ok_wrong_tie {k : Nat} (T : Txt w K mg ct C_Thing C_Party et_Party cq__law_right cp__law_right) : Callee P w K mg base ct (k + 1) "wrong_tie" 2 (d_wrong_tie) :=
  callee_of T.d_wrong_tie sc_wrong_tie fun f cdv A outer s H E hr =>
    (sss_cons (ss_if (st_not (st_val (se_isi (by rfl) T.n_isinstance (se_var 0) (by rfl) T.n_tuple (by decide +kernel)))) (sss_one (ss_ret se_non)) sss_nil)
      (sss_cons (ss_for PassesOwn.never rfl (si_enumT (by rfl) T.n_enumerate (se_var 0)) (sg_tup rfl (sgs_cons (sg_name (i := 2) sc_wrong_tie.nd rfl (Or.inl rfl)) (sgs_cons (sg_name (i := 3) sc_wrong_tie.nd rfl (Or.inl rfl)) sgs_nil))) (sss_one ss_never))
      (sss_one (ss_ret (se_neg se_int)))))
abbrev s_all_ties : Stmt := topS 38
theorem sc_all_ties : FnScope ["people", "one", "other"] ["people"] (defScope s_all_ties) := ⟨rfl, rfl, rfl, by decide +kernel, rfl, by decide +kernel, by decide +kernel⟩
def b_all_ties : FS :=
  (sRet (fCall cTuple (fCons (fLc2 (iRange1 (fCons (fVar 0) fNil)) (gN 1) tYesD (iRange2 (fCons (fBin gAdd (fVar 1) (fC (.int 1))) (fCons (fVar 0) fNil))) (gN 2) tYesD (fTup (fCons (fVar 1) (fCons (fVar 2) fNil))) [1, 2] [2]) fNil)))
def d_all_ties : FD := runD 3 (b_all_ties)
theorem ok_all_ties {k : Nat} (T : Txt w K mg ct C_Thing C_Party et_Party cq__law_right cp__law_right) : Callee P w K mg base ct (k + 1) "all_ties" 1 (d_all_ties) :=
  callee_of T.d_all_ties sc_all_ties fun f cdv A outer s H E hr =>
    (sss_one (ss_ret (se_callTy call_tuple_of cd_tuple (by rfl) T.n_tuple (by decide +kernel) (sa_cons (se_lc2 (own := [("one", 1), ("other", 2)]) (vs1 := [2])  rfl sc_all_ties.nd (si_range1 (by rfl) T.n_range (sa_cons (se_var 0) sa_nil)) (blkOk_by (own := [("one", 1), ("other", 2)]) (N := ["people", "one", "other"]) (sc := defScope s_all_ties) (by decide +kernel)) (by decide) (fun _ _ _ _ _ => (sgw_name (i := 1) sc_all_ties.nd rfl (Or.inl rfl) (by decide))) (fun _ _ _ _ _ => sts_nil) (fun _ _ _ _ _ => (si_range2 (by rfl) T.n_range (sa_cons (se_op op_addAll od_add (se_var 1) se_int) (sa_cons (se_var 0) sa_nil)))) (fun _ _ _ _ _ => (sgw_name (i := 2) sc_all_ties.nd rfl (Or.inl rfl) (by decide))) (fun _ _ _ _ _ => sts_nil) (fun _ _ _ _ _ => (se_tup (sa_cons (se_var 1) (sa_cons (se_var 2) sa_nil))))) sa_nil))))
abbrev s_Party___init__ : Stmt := inClass (topS 39) 0
theorem sc_Party___init__ : FnScope ["self", "people", "ties", "wrong"] ["self", "people", "ties"] (defScope s_Party___init__) := ⟨rfl, rfl, rfl, by decide +kernel, rfl, by decide +kernel, by decide +kernel⟩
def b_Party___init__ (c_wrong_tie : FD) (c_check_people : FD) : FS :=
  (sSeq (sExpr (fCall c_check_people (fCons (fVar 1) (fCons (fC (.int 10)) fNil))))
    (sSeq (sAsg (fCall c_wrong_tie (fCons (fVar 2) (fCons (fVar 1) fNil))) (gN 3))
    (sSeq (sIf (fTest (fBin gNe (fVar 3) (fUn gNeg (fC (.int 1))))) sNever sSkip)
    (sSeq (sFldD "Party" "many" (fVar 0) (fVar 1))
    (sFldD "Party" "held" (fVar 0) (fVar 2))))))
def d_Party___init__ (c_wrong_tie : FD) (c_check_people : FD) : FD := runD 4 (b_Party___init__ c_wrong_tie c_check_people)
theorem ok_Party___init__ {c_wrong_tie : FD} {c_check_people : FD} {k : Nat} (T : Txt w K mg ct C_Thing C_Party et_Party cq__law_right cp__law_right) (C_wrong_tie : Callee P w K mg base ct k "wrong_tie" 2 c_wrong_tie) (C_check_people : Callee P w K mg base ct k "check_people" 2 c_check_people) : Initer P w K mg base ct (k + 1) "Party" [.ref et_Party] 3 (d_Party___init__ c_wrong_tie c_check_people) :=
  initer_of T.kc_Party T.g_Party T.i_Party sc_Party___init__ fun f cdv A outer s H E hr =>
    (sss_cons (ss_expr (se_fn C_check_people hr (by rfl) (sa_cons (se_var 1) (sa_cons (se_globC (d := (.int 10)) (by rfl) T.c_MOST_PEOPLE (fun _ _ => rfl)) sa_nil)) (fCons_len (fCons_len (fun _ _ _ _ h => fNil_len h)))))
      (sss_cons (ss_set (i := 3) sc_Party___init__.nd rfl (Or.inl rfl) (se_fn C_wrong_tie hr (by rfl) (sa_cons (se_var 2) (sa_cons (se_var 1) sa_nil)) (fCons_len (fCons_len (fun _ _ _ _ h => fNil_len h)))))
      (sss_cons (ss_if (st_cmp (op_neAll hr) od_ne (se_var 3) (se_neg se_int) (nomark _)) (sss_one ss_never) sss_nil)
      (sss_cons (ss_fld T.kc_Party T.na_Party_many (se_var 0) (se_var 1))
      (sss_one (ss_fld T.kc_Party T.na_Party_held (se_var 0) (se_var 2)))))))
abbrev s_Party_people : Stmt := inClass (topS 39) 3
theorem sc_Party_people : FnScope ["self"] ["self"] (defScope s_Party_people) := ⟨rfl, rfl, rfl, by decide +kernel, rfl, by decide +kernel, by decide +kernel⟩
def b_Party_people : FS :=
  (sRet (fFld "Party" "many" (fVar 0)))
def d_Party_people : FD := runD 1 (b_Party_people)
theorem ok_Party_people {k : Nat} (T : Txt w K mg ct C_Thing C_Party et_Party cq__law_right cp__law_right) : CalleeP P w K mg base ct (k + 2) C_Party "people" (d_Party_people) :=
  calleeP_of T.p_Party_people sc_Party_people rfl fun f cdv A outer s H E hr =>
    (sss_one (ss_ret (se_fld T.kc_Party T.na_Party_many (se_var 0))))
abbrev s_Thing_most : Stmt := inClass (topS 59) 4
theorem sc_Thing_most : FnScope ["self", "people"] ["self", "people"] (defScope s_Thing_most) := ⟨rfl, rfl, rfl, by decide +kernel, rfl, by decide +kernel, by decide +kernel⟩
def b_Thing_most (c_most_of : FD) (c_check_people : FD) : FS :=
  (sSeq (sExpr (fCall c_check_people (fCons (fVar 1) (fCons (fC (.int 10000000000000000000000000000000000000000)) fNil))))
    (sRet (fCall c_most_of (fCons (fFld "Thing" "word" (fVar 0)) (fCons (fFld "Thing" "many" (fVar 0)) (fCons (fVar 1) fNil))))))
def d_Thing_most (c_most_of : FD) (c_check_people : FD) : FD := runD 2 (b_Thing_most c_most_of c_check_people)
theorem ok_Thing_most {c_most_of : FD} {c_check_people : FD} {k : Nat} (T : Txt w K mg ct C_Thing C_Party et_Party cq__law_right cp__law_right) (C_most_of : Callee P w K mg base ct k "most_of" 3 c_most_of) (C_check_people : Callee P w K mg base ct k "check_people" 2 c_check_people) : CalleeM P w K mg base ct (k + 1) C_Thing "most" 2 (d_Thing_most c_most_of c_check_people) [(["people"], [0])] :=
  calleeM_of T.m_Thing_most sc_Thing_most fun f cdv A outer s H E hr =>
    (sss_cons (ss_expr (se_fn C_check_people hr (by rfl) (sa_cons (se_var 1) (sa_cons (se_globC (d := (.int 10000000000000000000000000000000000000000)) (by rfl) T.c_MOST_ASKED (fun _ _ => rfl)) sa_nil)) (fCons_len (fCons_len (fun _ _ _ _ h => fNil_len h)))))
      (sss_one (ss_ret (se_fn C_most_of hr (by rfl) (sa_cons (se_fld T.kc_Thing T.na_Thing_word (se_var 0)) (sa_cons (se_fld T.kc_Thing T.na_Thing_many (se_var 0)) (sa_cons (se_var 1) sa_nil))) (fCons_len (fCons_len (fCons_len (fun _ _ _ _ h => fNil_len h))))))))
def bx_Thing_most (cx_check_people : XD) (c_check_people : FD) : FX :=
  (xSeq (sExpr (fCall c_check_people (fCons (fVar 1) (fCons (fC (.int 10000000000000000000000000000000000000000)) fNil)))) (xCall cx_check_people (fCons (fVar 1) (fCons (fC (.int 10000000000000000000000000000000000000000)) fNil))) xNo)
def dx_Thing_most (cx_check_people : XD) (c_check_people : FD) : XD := runX 2 (bx_Thing_most cx_check_people c_check_people)
theorem okx_Thing_most {cx_check_people : XD} {c_check_people : FD} {k : Nat} (T : Txt w K mg ct C_Thing C_Party et_Party cq__law_right cp__law_right) (CX_check_people : CalleeX P w K mg base ct k "check_people" 2 cx_check_people) (C_check_people : Callee P w K mg base ct k "check_people" 2 c_check_people) : CalleeMX P w K mg base ct (k + 1) C_Thing "most" 2 (dx_Thing_most cx_check_people c_check_people) [(["people"], [0])] :=
  calleeMX_of T.m_Thing_most sc_Thing_most fun f cdv A outer s H E hr =>
    (xss_cons (ss_expr (se_fn C_check_people hr (by rfl) (sa_cons (se_var 1) (sa_cons (se_globC (d := (.int 10000000000000000000000000000000000000000)) (by rfl) T.c_MOST_ASKED (fun _ _ => rfl)) sa_nil)) (fCons_len (fCons_len (fun _ _ _ _ h => fNil_len h))))) (xs_expr (xe_fn CX_check_people hr lets_def (by rfl) (sa_cons (se_var 1) (sa_cons (se_globC (d := (.int 10000000000000000000000000000000000000000)) (by rfl) T.c_MOST_ASKED (fun _ _ => rfl)) sa_nil)) (fCons_len (fCons_len (fun _ _ _ _ h => fNil_len h))))) xss_no)
abbrev s_Thing_forced : Stmt := inClass (topS 59) 5
theorem sc_Thing_forced : FnScope ["self", "people", "most"] ["self", "people"] (defScope s_Thing_forced) := ⟨rfl, rfl, rfl, by decide +kernel, rfl, by decide +kernel, by decide +kernel⟩
def b_Thing_forced (c_pairs_of : FD) (c_most_of : FD) (c_check_people : FD) : FS :=
  (sSeq (sExpr (fCall c_check_people (fCons (fVar 1) (fCons (fC (.int 10000000000000000000000000000000000000000)) fNil))))
    (sSeq (sAsg (fCall c_most_of (fCons (fFld "Thing" "word" (fVar 0)) (fCons (fFld "Thing" "many" (fVar 0)) (fCons (fVar 1) fNil)))) (gN 2))
    (sRet (fIf (fTest (fBin gLt (fVar 2) (fCall c_pairs_of (fCons (fVar 1) fNil)))) (fBin gAdd (fVar 2) (fC (.int 1))) (fC .non)))))
def d_Thing_forced (c_pairs_of : FD) (c_most_of : FD) (c_check_people : FD) : FD := runD 3 (b_Thing_forced c_pairs_of c_most_of c_check_people)
theorem ok_Thing_forced {c_pairs_of : FD} {c_most_of : FD} {c_check_people : FD} {k : Nat} (T : Txt w K mg ct C_Thing C_Party et_Party cq__law_right cp__law_right) (C_pairs_of : Callee P w K mg base ct k "pairs_of" 1 c_pairs_of) (C_most_of : Callee P w K mg base ct k "most_of" 3 c_most_of) (C_check_people : Callee P w K mg base ct k "check_people" 2 c_check_people) : CalleeM P w K mg base ct (k + 1) C_Thing "forced" 2 (d_Thing_forced c_pairs_of c_most_of c_check_people) [(["people"], [0])] :=
  calleeM_of T.m_Thing_forced sc_Thing_forced fun f cdv A outer s H E hr =>
    (sss_cons (ss_expr (se_fn C_check_people hr (by rfl) (sa_cons (se_var 1) (sa_cons (se_globC (d := (.int 10000000000000000000000000000000000000000)) (by rfl) T.c_MOST_ASKED (fun _ _ => rfl)) sa_nil)) (fCons_len (fCons_len (fun _ _ _ _ h => fNil_len h)))))
      (sss_cons (ss_set (i := 2) sc_Thing_forced.nd rfl (Or.inl rfl) (se_fn C_most_of hr (by rfl) (sa_cons (se_fld T.kc_Thing T.na_Thing_word (se_var 0)) (sa_cons (se_fld T.kc_Thing T.na_Thing_many (se_var 0)) (sa_cons (se_var 1) sa_nil))) (fCons_len (fCons_len (fCons_len (fun _ _ _ _ h => fNil_len h))))))
      (sss_one (ss_ret (se_if (st_cmp op_lt od_lt (se_var 2) (se_fn C_pairs_of hr (by rfl) (sa_cons (se_var 1) sa_nil) (fCons_len (fun _ _ _ _ h => fNil_len h))) (nomark _)) (se_op op_addAll od_add (se_var 2) se_int) se_non)))))
def bx_Thing_forced (cx_check_people : XD) (c_check_people : FD) : FX :=
  (xSeq (sExpr (fCall c_check_people (fCons (fVar 1) (fCons (fC (.int 10000000000000000000000000000000000000000)) fNil)))) (xCall cx_check_people (fCons (fVar 1) (fCons (fC (.int 10000000000000000000000000000000000000000)) fNil))) xNo)
def dx_Thing_forced (cx_check_people : XD) (c_check_people : FD) : XD := runX 3 (bx_Thing_forced cx_check_people c_check_people)
theorem okx_Thing_forced {cx_check_people : XD} {c_check_people : FD} {k : Nat} (T : Txt w K mg ct C_Thing C_Party et_Party cq__law_right cp__law_right) (CX_check_people : CalleeX P w K mg base ct k "check_people" 2 cx_check_people) (C_check_people : Callee P w K mg base ct k "check_people" 2 c_check_people) : CalleeMX P w K mg base ct (k + 1) C_Thing "forced" 2 (dx_Thing_forced cx_check_people c_check_people) [(["people"], [0])] :=
  calleeMX_of T.m_Thing_forced sc_Thing_forced fun f cdv A outer s H E hr =>
    (xss_cons (ss_expr (se_fn C_check_people hr (by rfl) (sa_cons (se_var 1) (sa_cons (se_globC (d := (.int 10000000000000000000000000000000000000000)) (by rfl) T.c_MOST_ASKED (fun _ _ => rfl)) sa_nil)) (fCons_len (fCons_len (fun _ _ _ _ h => fNil_len h))))) (xs_expr (xe_fn CX_check_people hr lets_def (by rfl) (sa_cons (se_var 1) (sa_cons (se_globC (d := (.int 10000000000000000000000000000000000000000)) (by rfl) T.c_MOST_ASKED (fun _ _ => rfl)) sa_nil)) (fCons_len (fCons_len (fun _ _ _ _ h => fNil_len h))))) xss_no)
abbrev s_Thing_tied : Stmt := inClass (topS 59) 6
theorem sc_Thing_tied : FnScope ["self", "people", "one", "other"] ["self", "people", "one", "other"] (defScope s_Thing_tied) := ⟨rfl, rfl, rfl, by decide +kernel, rfl, by decide +kernel, by decide +kernel⟩
def b_Thing_tied (c_check_two : FD) (c_check_people : FD) : FS :=
  (sSeq (sExpr (fCall c_check_people (fCons (fVar 1) (fCons (fC (.int 10000000000000000000000000000000000000000)) fNil))))
    (sSeq (sExpr (fCall c_check_two (fCons (fVar 2) (fCons (fVar 3) (fCons (fVar 1) fNil)))))
    (sRet fNever)))
def d_Thing_tied (c_check_two : FD) (c_check_people : FD) : FD := runD 4 (b_Thing_tied c_check_two c_check_people)
theorem ok_Thing_tied {c_check_two : FD} {c_check_people : FD} {k : Nat} (T : Txt w K mg ct C_Thing C_Party et_Party cq__law_right cp__law_right) (C_check_two : Callee P w K mg base ct k "check_two" 3 c_check_two) (C_check_people : Callee P w K mg base ct k "check_people" 2 c_check_people) : CalleeM P w K mg base ct (k + 1) C_Thing "tied" 4 (d_Thing_tied c_check_two c_check_people) [(["other", "one", "people"], [2, 1, 0])] :=
  calleeM_of T.m_Thing_tied sc_Thing_tied fun f cdv A outer s H E hr =>
    (sss_cons (ss_expr (se_fn C_check_people hr (by rfl) (sa_cons (se_var 1) (sa_cons (se_globC (d := (.int 10000000000000000000000000000000000000000)) (by rfl) T.c_MOST_ASKED (fun _ _ => rfl)) sa_nil)) (fCons_len (fCons_len (fun _ _ _ _ h => fNil_len h)))))
      (sss_cons (ss_expr (se_fn C_check_two hr (by rfl) (sa_cons (se_var 2) (sa_cons (se_var 3) (sa_cons (se_var 1) sa_nil))) (fCons_len (fCons_len (fCons_len (fun _ _ _ _ h => fNil_len h))))))
      (sss_one (ss_ret se_never))))
def bx_Thing_tied (cx_check_two : XD) (c_check_two : FD) (cx_check_people : XD) (c_check_people : FD) : FX :=
  (xSeq (sExpr (fCall c_check_people (fCons (fVar 1) (fCons (fC (.int 10000000000000000000000000000000000000000)) fNil)))) (xCall cx_check_people (fCons (fVar 1) (fCons (fC (.int 10000000000000000000000000000000000000000)) fNil)))
    (xSeq (sExpr (fCall c_check_two (fCons (fVar 2) (fCons (fVar 3) (fCons (fVar 1) fNil))))) (xCall cx_check_two (fCons (fVar 2) (fCons (fVar 3) (fCons (fVar 1) fNil)))) xNo))
def dx_Thing_tied (cx_check_two : XD) (c_check_two : FD) (cx_check_people : XD) (c_check_people : FD) : XD := runX 4 (bx_Thing_tied cx_check_two c_check_two cx_check_people c_check_people)
theorem okx_Thing_tied {cx_check_two : XD} {c_check_two : FD} {cx_check_people : XD} {c_check_people : FD} {k : Nat} (T : Txt w K mg ct C_Thing C_Party et_Party cq__law_right cp__law_right) (CX_check_two : CalleeX P w K mg base ct k "check_two" 3 cx_check_two) (C_check_two : Callee P w K mg base ct k "check_two" 3 c_check_two) (CX_check_people : CalleeX P w K mg base ct k "check_people" 2 cx_check_people) (C_check_people : Callee P w K mg base ct k "check_people" 2 c_check_people) : CalleeMX P w K mg base ct (k + 1) C_Thing "tied" 4 (dx_Thing_tied cx_check_two c_check_two cx_check_people c_check_people) [(["other", "one", "people"], [2, 1, 0])] :=
  calleeMX_of T.m_Thing_tied sc_Thing_tied fun f cdv A outer s H E hr =>
    (xss_cons (ss_expr (se_fn C_check_people hr (by rfl) (sa_cons (se_var 1) (sa_cons (se_globC (d := (.int 10000000000000000000000000000000000000000)) (by rfl) T.c_MOST_ASKED (fun _ _ => rfl)) sa_nil)) (fCons_len (fCons_len (fun _ _ _ _ h => fNil_len h))))) (xs_expr (xe_fn CX_check_people hr lets_def (by rfl) (sa_cons (se_var 1) (sa_cons (se_globC (d := (.int 10000000000000000000000000000000000000000)) (by rfl) T.c_MOST_ASKED (fun _ _ => rfl)) sa_nil)) (fCons_len (fCons_len (fun _ _ _ _ h => fNil_len h)))))
      (xss_cons (ss_expr (se_fn C_check_two hr (by rfl) (sa_cons (se_var 2) (sa_cons (se_var 3) (sa_cons (se_var 1) sa_nil))) (fCons_len (fCons_len (fCons_len (fun _ _ _ _ h => fNil_len h)))))) (xs_expr (xe_fn CX_check_two hr lets_def (by rfl) (sa_cons (se_var 2) (sa_cons (se_var 3) (sa_cons (se_var 1) sa_nil))) (fCons_len (fCons_len (fCons_len (fun _ _ _ _ h => fNil_len h)))))) xss_no))
abbrev s_Thing_fullest : Stmt := inClass (topS 59) 7
theorem sc_Thing_fullest : FnScope ["self", "people", "ties", "tie"] ["self", "people"] (defScope s_Thing_fullest) := ⟨rfl, rfl, rfl, by decide +kernel, rfl, by decide +kernel, by decide +kernel⟩
def b_Thing_fullest (c_Party_F : List D → Option (List D)) (c_all_ties : FD) (c_check_people : FD) : FS :=
  (sSeq (sExpr (fCall c_check_people (fCons (fVar 1) (fCons (fC (.int 10)) fNil))))
    (sSeq (sAsg (fLc (iTup (fCall c_all_ties (fCons (fVar 1) fNil))) (gN 3) (fTest fNever) (fVar 3) [3]) (gN 2))
    (sRet (fMakeF "Party" ["many", "held"] c_Party_F [] (fCons (fVar 1) (fCons (fCall cTuple (fCons (fVar 2) fNil)) fNil))))))
def d_Thing_fullest (c_Party_F : List D → Option (List D)) (c_all_ties : FD) (c_check_people : FD) : FD := runD 4 (b_Thing_fullest c_Party_F c_all_ties c_check_people)
theorem ok_Thing_fullest {c_Party_F : List D → Option (List D)} {c_all_ties : FD} {c_check_people : FD} {k : Nat} (T : Txt w K mg ct C_Thing C_Party et_Party cq__law_right cp__law_right) (C_Party_mf2 : MakerF P w K mg base ct k "Party" ["many", "held"] [] 3 c_Party_F) (C_all_ties : Callee P w K mg base ct k "all_ties" 1 c_all_ties) (C_check_people : Callee P w K mg base ct k "check_people" 2 c_check_people) : CalleeM P w K mg base ct (k + 1) C_Thing "fullest" 2 (d_Thing_fullest c_Party_F c_all_ties c_check_people) [(["people"], [0])] :=
  calleeM_of T.m_Thing_fullest sc_Thing_fullest fun f cdv A outer s H E hr =>
    (sss_cons (ss_expr (se_fn C_check_people hr (by rfl) (sa_cons (se_var 1) (sa_cons (se_globC (d := (.int 10)) (by rfl) T.c_MOST_PEOPLE (fun _ _ => rfl)) sa_nil)) (fCons_len (fCons_len (fun _ _ _ _ h => fNil_len h)))))
      (sss_cons (ss_setLc (i := 2) (own := [("tie", 3)]) rfl sc_Thing_fullest.nd rfl rfl (sw_true rfl rfl rfl (by decide +kernel)) (si_tup (se_fn C_all_ties hr (by rfl) (sa_cons (se_var 1) sa_nil) (fCons_len (fun _ _ _ _ h => fNil_len h)))) (blkOk_by (own := [("tie", 3)]) (N := ["self", "people", "ties", "tie"]) (sc := defScope s_Thing_fullest) (by decide +kernel)) (fun _ _ _ _ _ => (sgw_name (i := 3) sc_Thing_fullest.nd rfl (Or.inl rfl) (by decide))) (fun _ _ _ _ _ => (sts_one (st_val se_never))) (fun _ _ _ _ _ => (se_var 3)))
      (sss_one (ss_ret (se_mkF (n := 2) (dds := []) C_Party_mf2 hr (by rfl) (sa_cons (se_var 1) (sa_cons (se_callTy call_tuple_of cd_tuple (by rfl) T.n_tuple (by decide +kernel) (sa_cons (se_var 2) sa_nil)) sa_nil)) (fCons_len (fCons_len (fun _ _ _ _ h => fNil_len h))))))))
def bx_Thing_fullest (cx_check_people : XD) (c_check_people : FD) : FX :=
  (xSeq (sExpr (fCall c_check_people (fCons (fVar 1) (fCons (fC (.int 10)) fNil)))) (xCall cx_check_people (fCons (fVar 1) (fCons (fC (.int 10)) fNil))) xNo)
def dx_Thing_fullest (cx_check_people : XD) (c_check_people : FD) : XD := runX 4 (bx_Thing_fullest cx_check_people c_check_people)
theorem okx_Thing_fullest {cx_check_people : XD} {c_check_people : FD} {k : Nat} (T : Txt w K mg ct C_Thing C_Party et_Party cq__law_right cp__law_right) (CX_check_people : CalleeX P w K mg base ct k "check_people" 2 cx_check_people) (C_check_people : Callee P w K mg base ct k "check_people" 2 c_check_people) : CalleeMX P w K mg base ct (k + 1) C_Thing "fullest" 2 (dx_Thing_fullest cx_check_people c_check_people) [(["people"], [0])] :=
  calleeMX_of T.m_Thing_fullest sc_Thing_fullest fun f cdv A outer s H E hr =>
    (xss_cons (ss_expr (se_fn C_check_people hr (by rfl) (sa_cons (se_var 1) (sa_cons (se_globC (d := (.int 10)) (by rfl) T.c_MOST_PEOPLE (fun _ _ => rfl)) sa_nil)) (fCons_len (fCons_len (fun _ _ _ _ h => fNil_len h))))) (xs_expr (xe_fn CX_check_people hr lets_def (by rfl) (sa_cons (se_var 1) (sa_cons (se_globC (d := (.int 10)) (by rfl) T.c_MOST_PEOPLE (fun _ _ => rfl)) sa_nil)) (fCons_len (fCons_len (fun _ _ _ _ h => fNil_len h))))) xss_no)
abbrev s__law_purse : Stmt := topS 62
theorem sc__law_purse : FnScope ["_law_script", "_law_spot", "_law_cell", "_law_seed", "_law_item"] ["_law_script", "_law_spot"] (defScope s__law_purse) := ⟨rfl, rfl, rfl, by decide +kernel, rfl, by decide +kernel, by decide +kernel⟩
def b__law_purse : FS :=
  (sSeq (sAsg (fIf (fTest (fBin gLt (fVar 1) (fCall cLen (fCons (fVar 0) fNil)))) (fBin gIx (fVar 0) (fVar 1)) (fBin gMul (fC (.int 7919)) (fBin gAdd (fVar 1) (fC (.int 5))))) (gN 2))
    (sSeq (sAsg (fBin gAdd (fC (.int 211)) (fVar 1)) (gN 3))
    (sSeq (sFor (iLst (fBin gAdd (fSl (fVar 0) oNone (oSome (fC (.int 5)))) (fLst (fCons (fVar 2) fNil)))) (gN 4) (sAsg (fBin gMod (fCall cInt (fCons (fBin gAdd (fBin gAdd (fBin gMul (fVar 3) (fC (.int 48271))) (fBin gMod (fCall cInt (fCons (fVar 4) fNil)) (fC (.int 2147483647)))) (fC (.int 101))) fNil)) (fC (.int 2147483647))) (gN 3)))
    (sRet (fLstM (fCons (fIf (fTest (fBin gGe (fCall cAbs (fCons (fVar 2) fNil)) (fBin gPow (fC (.int 10)) (fC (.int 18))))) (fCall cAbs (fCons (fVar 2) fNil)) (fC (.int 0))) (fCons (fVar 3) fNil)))))))
def d__law_purse : FD := runD 5 (b__law_purse)
theorem ok__law_purse {k : Nat} (T : Txt w K mg ct C_Thing C_Party et_Party cq__law_right cp__law_right) : Callee P w K mg base ct (k + 1) "_law_purse" 2 (d__law_purse) :=
  callee_of T.d__law_purse sc__law_purse fun f cdv A outer s H E hr =>
    (sss_cons (ss_set (i := 2) sc__law_purse.nd rfl (Or.inl rfl) (se_if (st_cmp op_lt od_lt (se_var 1) (se_callB call_lenAll cd_len (by rfl) T.n_len (by decide +kernel) (sa_cons (se_var 0) sa_nil)) (nomark _)) (se_ix ix_seq od_ix (se_var 0) (se_var 1) (fun _ _ => rfl)) (se_op op_mulW od_mul se_int (se_op op_addAll od_add (se_var 1) se_int))))
      (sss_cons (ss_set (i := 3) sc__law_purse.nd rfl (Or.inl rfl) (se_op op_addAll od_add se_int (se_var 1)))
      (sss_cons (ss_for PassesOwn.never rfl (si_list (se_op op_addAll od_add (se_slice (se_var 0) so_none (so_some se_int)) (se_lst (sa_cons (se_var 2) sa_nil)))) (sg_name (i := 4) sc__law_purse.nd rfl (Or.inl rfl)) (sss_one (ss_set (i := 3) sc__law_purse.nd rfl (Or.inl rfl) (se_op op_mod od_mod (se_callTy call_intAll cd_int (by rfl) T.n_int (by decide +kernel) (sa_cons (se_op op_addAll od_add (se_op op_addAll od_add (se_op op_mulW od_mul (se_var 3) se_int) (se_op op_mod od_mod (se_callTy call_intAll cd_int (by rfl) T.n_int (by decide +kernel) (sa_cons (se_var 4) sa_nil)) se_int)) se_int) sa_nil)) se_int))))
      (sss_one (ss_ret (se_lstM (sa_cons (se_if (st_cmp op_ge od_ge (se_callB call_abs cd_abs (by rfl) T.n_abs (by decide +kernel) (sa_cons (se_var 2) sa_nil)) (se_op op_pow od_pow se_int se_int) (nomark _)) (se_callB call_abs cd_abs (by rfl) T.n_abs (by decide +kernel) (sa_cons (se_var 2) sa_nil)) se_int) (sa_cons (se_var 3) sa_nil))))))))
abbrev s__law_draw : Stmt := topS 63
theorem sc__law_draw : FnScope ["_law_purse_here", "_law_many", "_law_digit"] ["_law_purse_here", "_law_many"] (defScope s__law_draw) := ⟨rfl, rfl, rfl, by decide +kernel, rfl, by decide +kernel, by decide +kernel⟩
def b__law_draw : FS :=
  (sSeq (sIf (fTest (fBin gGt (fBin gIx (fVar 0) (fC (.int 0))) (fC (.int 0)))) (sSeq (sAsg (fCall cDivmod (fCons (fBin gIx (fVar 0) (fC (.int 0))) (fCons (fVar 1) fNil))) (gTup 2 (gCons (gSub gSetA (fVar 0) (fC (.int 0))) (gCons (gN 2) gNil))))
    (sRet (fVar 2))) sSkip)
    (sSeq (sAsg (fBin gMod (fCall cInt (fCons (fBin gAdd (fBin gMul (fBin gIx (fVar 0) (fC (.int 1))) (fC (.int 69621))) (fC (.int 40503))) fNil)) (fC (.int 2147483647))) (gSub gSetA (fVar 0) (fC (.int 1))))
    (sRet (fBin gMod (fCall cInt (fCons (fBin gFdiv (fBin gIx (fVar 0) (fC (.int 1))) (fC (.int 1024))) fNil)) (fVar 1)))))
def d__law_draw : FD := runD 3 (b__law_draw)
theorem ok__law_draw {k : Nat} (T : Txt w K mg ct C_Thing C_Party et_Party cq__law_right cp__law_right) : Callee P w K mg base ct (k + 1) "_law_draw" 2 (d__law_draw) :=
  callee_of T.d__law_draw sc__law_draw fun f cdv A outer s H E hr =>
    (sss_cons (ss_if (st_cmp op_gt od_gt (se_ix ix_seq od_ix (se_var 0) se_int (fun _ _ => rfl)) se_int (nomark _)) (sss_cons (ss_asg (se_callB call_divmodW cd_divmod (by rfl) T.n_divmod (by decide +kernel) (sa_cons (se_ix ix_seq od_ix (se_var 0) se_int (fun _ _ => rfl)) (sa_cons (se_var 1) sa_nil))) (sg_tup rfl (sgs_cons (sg_sub (se_var 0) se_int (set_all hr) sd_all) (sgs_cons (sg_name (i := 2) sc__law_draw.nd rfl (Or.inl rfl)) sgs_nil))))
      (sss_one (ss_ret (se_var 2)))) sss_nil)
      (sss_cons (ss_asg (se_op op_mod od_mod (se_callTy call_intAll cd_int (by rfl) T.n_int (by decide +kernel) (sa_cons (se_op op_addAll od_add (se_op op_mulW od_mul (se_ix ix_seq od_ix (se_var 0) se_int (fun _ _ => rfl)) se_int) se_int) sa_nil)) se_int) (sg_sub (se_var 0) se_int (set_all hr) sd_all))
      (sss_one (ss_ret (se_op op_mod od_mod (se_callTy call_intAll cd_int (by rfl) T.n_int (by decide +kernel) (sa_cons (se_op op_fdivW od_fdiv (se_ix ix_seq od_ix (se_var 0) se_int (fun _ _ => rfl)) se_int) sa_nil)) (se_var 1))))))
abbrev s__law_things : Stmt := topS 64
theorem sc__law_things : FnScope ["_law_most", "_law_found", "_law_kind", "_law_least", "_law_k"] ["_law_most"] (defScope s__law_things) := ⟨rfl, rfl, rfl, by decide +kernel, rfl, by decide +kernel, by decide +kernel⟩
def b__law_things : FS :=
  (sSeq (sAsg (fLst (fCons (fTup (fCons (fC (.str "odd ring")) (fCons (fC .non) fNil))) (fCons (fTup (fCons (fC (.str "even ring")) (fCons (fC .non) fNil))) fNil))) (gN 1))
    (sSeq (sFor (iLst (fLst (fCons (fTup (fCons (fC (.str "crowd")) (fCons (fC (.int 2)) fNil))) (fCons (fTup (fCons (fC (.str "star")) (fCons (fC (.int 1)) fNil))) (fCons (fTup (fCons (fC (.str "pairs")) (fCons (fC (.int 1)) fNil))) (fCons (fTup (fCons (fC (.str "row")) (fCons (fC (.int 2)) fNil))) (fCons (fTup (fCons (fC (.str "ring")) (fCons (fC (.int 3)) fNil))) (fCons (fTup (fCons (fC (.str "core")) (fCons (fC (.int 1)) fNil))) (fCons (fTup (fCons (fC (.str "linked")) (fCons (fC (.int 1)) fNil))) fNil))))))))) (gTup 2 (gCons (gN 2) (gCons (gN 3) gNil))) (sAsg (fBin gAdd (fVar 1) (fLc (iRange2 (fCons (fVar 3) (fCons (fBin gAdd (fVar 0) (fC (.int 1))) fNil))) (gN 4) tYesD (fTup (fCons (fVar 2) (fCons (fVar 4) fNil))) [4])) (gN 1)))
    (sRet (fVar 1))))
def d__law_things : FD := runD 5 (b__law_things)
theorem ok__law_things {k : Nat} (T : Txt w K mg ct C_Thing C_Party et_Party cq__law_right cp__law_right) : Callee P w K mg base ct (k + 1) "_law_things" 1 (d__law_things) :=
  callee_of T.d__law_things sc__law_things fun f cdv A outer s H E hr =>
    (sss_cons (ss_set (i := 1) sc__law_things.nd rfl (Or.inl rfl) (se_lst (sa_cons (se_tup (sa_cons se_str (sa_cons se_non sa_nil))) (sa_cons (se_tup (sa_cons se_str (sa_cons se_non sa_nil))) sa_nil))))
      (sss_cons (ss_for PassesOwn.never rfl (si_list (se_lst (sa_cons (se_tup (sa_cons se_str (sa_cons se_int sa_nil))) (sa_cons (se_tup (sa_cons se_str (sa_cons se_int sa_nil))) (sa_cons (se_tup (sa_cons se_str (sa_cons se_int sa_nil))) (sa_cons (se_tup (sa_cons se_str (sa_cons se_int sa_nil))) (sa_cons (se_tup (sa_cons se_str (sa_cons se_int sa_nil))) (sa_cons (se_tup (sa_cons se_str (sa_cons se_int sa_nil))) (sa_cons (se_tup (sa_cons se_str (sa_cons se_int sa_nil))) sa_nil))))))))) (sg_tup rfl (sgs_cons (sg_name (i := 2) sc__law_things.nd rfl (Or.inr rfl)) (sgs_cons (sg_name (i := 3) sc__law_things.nd rfl (Or.inl rfl)) sgs_nil))) (sss_one (ss_set (i := 1) sc__law_things.nd rfl (Or.inl rfl) (se_op op_addAll od_add (se_var 1) (se_lc (own := [("_law_k", 4)]) rfl sc__law_things.nd (si_range2 (by rfl) T.n_range (sa_cons (se_var 3) (sa_cons (se_op op_addAll od_add (se_var 0) se_int) sa_nil))) (blkOk_by (own := [("_law_k", 4)]) (N := ["_law_most", "_law_found", "_law_kind", "_law_least", "_law_k"]) (sc := defScope s__law_things) (by decide +kernel)) (fun _ _ _ _ _ => (sgw_name (i := 4) sc__law_things.nd rfl (Or.inl rfl) (by decide))) (fun _ _ _ _ _ => sts_nil) (fun _ _ _ _ _ => (se_tup (sa_cons (se_var 2) (sa_cons (se_var 4) sa_nil)))))))))
      (sss_one (ss_ret (se_var 1)))))
abbrev s__law_sort : Stmt := topS 65
theorem sc__law_sort : FnScope ["_law_e", "_law_words", "_law_flags", "_law_bases", "_law_at"] ["_law_e"] (defScope s__law_sort) := ⟨rfl, rfl, rfl, by decide +kernel, rfl, by decide +kernel, by decide +kernel⟩
def b__law_sort : FS :=
  (sSeq (sAsg (fLst (fCons (fC (.str "InvalidText")) (fCons (fC (.str "InvalidNumber")) (fCons (fC (.str "InvalidKind")) (fCons (fC (.str "InvalidPerson")) (fCons (fC (.str "InvalidIndex")) (fCons (fC (.str "InvalidName")) fNil))))))) (gN 1))
    (sSeq (sAsg (fBin gAdd (fVar 1) (fLst (fCons (fC (.str "NotAThing")) (fCons (fC (.str "NotAParty")) (fCons (fC (.str "NotAGathering")) (fCons (fC (.str "OtherSize")) (fCons (fC (.str "InvalidTies")) (fCons (fC (.str "InvalidPeople")) fNil)))))))) (gN 1))
    (sSeq (sAsg (fBin gAdd (fVar 1) (fLst (fCons (fC (.str "TooMany")) (fCons (fC (.str "AlreadyTied")) (fCons (fC (.str "NotTied")) (fCons (fC (.str "Broken")) (fCons (fC (.str "Unruly")) (fCons (fC (.str "Holding")) (fCons (fC (.str "UnknownName")) (fCons (fC (.str "NothingToUndo")) fNil)))))))))) (gN 1))
    (sSeq (sAsg (fLst (fCons (fIsX tb_InvalidText (fVar 0)) (fCons (fIsX tb_InvalidNumber (fVar 0)) (fCons (fIsX tb_InvalidKind (fVar 0)) fNil)))) (gN 2))
    (sSeq (sAsg (fBin gAdd (fVar 2) (fLst (fCons (fIsX tb_InvalidPerson (fVar 0)) (fCons (fIsX tb_InvalidIndex (fVar 0)) (fCons (fIsX tb_InvalidName (fVar 0)) fNil))))) (gN 2))
    (sSeq (sAsg (fBin gAdd (fVar 2) (fLst (fCons (fIsX tb_NotAThing (fVar 0)) (fCons (fIsX tb_NotAParty (fVar 0)) (fCons (fIsX tb_NotAGathering (fVar 0)) fNil))))) (gN 2))
    (sSeq (sAsg (fBin gAdd (fVar 2) (fLst (fCons (fIsX tb_OtherSize (fVar 0)) (fCons (fIsX tb_InvalidTies (fVar 0)) (fCons (fIsX tb_InvalidPeople (fVar 0)) fNil))))) (gN 2))
    (sSeq (sAsg (fBin gAdd (fVar 2) (fLst (fCons (fIsX tb_TooMany (fVar 0)) (fCons (fIsX tb_AlreadyTied (fVar 0)) (fCons (fIsX tb_NotTied (fVar 0)) fNil))))) (gN 2))
    (sSeq (sAsg (fBin gAdd (fVar 2) (fLst (fCons (fIsX tb_Broken (fVar 0)) (fCons (fIsX tb_Unruly (fVar 0)) (fCons (fIsX tb_Holding (fVar 0)) fNil))))) (gN 2))
    (sSeq (sAsg (fBin gAdd (fVar 2) (fLst (fCons (fIsX tb_UnknownName (fVar 0)) (fCons (fIsX tb_NothingToUndo (fVar 0)) fNil)))) (gN 2))
    (sSeq (sAsg (fLst (fCons (fIsX tb_WrongValue (fVar 0)) (fCons (fIsX tb_NoAnswer (fVar 0)) fNil))) (gN 3))
    (sSeq (sIf (tOrD (fTest (fBin gNe (fCount (fVar 2) (fC (.bl true))) (fC (.int 1)))) (fTest (fBin gNe (fCount (fVar 3) (fC (.bl true))) (fC (.int 1))))) (sRet (fC (.str "other"))) sSkip)
    (sSeq (sAsg (fIndex (fVar 2) (fC (.bl true))) (gN 4))
    (sRet (fIf (fTest (fBin gEq (fIndex (fVar 3) (fC (.bl true))) (fIf (fTest (fBin gLt (fVar 4) (fC (.int 12)))) (fC (.int 0)) (fC (.int 1))))) (fBin gIx (fVar 1) (fVar 4)) (fC (.str "other")))))))))))))))))
def d__law_sort : FD := runD 5 (b__law_sort)
theorem ok__law_sort {k : Nat} (T : Txt w K mg ct C_Thing C_Party et_Party cq__law_right cp__law_right) : CalleeQ P w K mg base ct (k + 1) "_law_sort" 1 (d__law_sort) :=
  calleeQ_of T.d__law_sort sc__law_sort fun f cdv A outer s H E hr =>
    (sss_cons (ss_set (i := 1) sc__law_sort.nd rfl (Or.inl rfl) (se_lst (sa_cons se_str (sa_cons se_str (sa_cons se_str (sa_cons se_str (sa_cons se_str (sa_cons se_str sa_nil))))))))
      (sss_cons (ss_set (i := 1) sc__law_sort.nd rfl (Or.inl rfl) (se_op op_addAll od_add (se_var 1) (se_lst (sa_cons se_str (sa_cons se_str (sa_cons se_str (sa_cons se_str (sa_cons se_str (sa_cons se_str sa_nil)))))))))
      (sss_cons (ss_set (i := 1) sc__law_sort.nd rfl (Or.inl rfl) (se_op op_addAll od_add (se_var 1) (se_lst (sa_cons se_str (sa_cons se_str (sa_cons se_str (sa_cons se_str (sa_cons se_str (sa_cons se_str (sa_cons se_str (sa_cons se_str sa_nil)))))))))))
      (sss_cons (ss_set (i := 2) sc__law_sort.nd rfl (Or.inl rfl) (se_lst (sa_cons (se_isX T.is_InvalidText (by rfl) T.n_isinstance (se_var 0) (by rfl)) (sa_cons (se_isX T.is_InvalidNumber (by rfl) T.n_isinstance (se_var 0) (by rfl)) (sa_cons (se_isX T.is_InvalidKind (by rfl) T.n_isinstance (se_var 0) (by rfl)) sa_nil)))))
      (sss_cons (ss_set (i := 2) sc__law_sort.nd rfl (Or.inl rfl) (se_op op_addAll od_add (se_var 2) (se_lst (sa_cons (se_isX T.is_InvalidPerson (by rfl) T.n_isinstance (se_var 0) (by rfl)) (sa_cons (se_isX T.is_InvalidIndex (by rfl) T.n_isinstance (se_var 0) (by rfl)) (sa_cons (se_isX T.is_InvalidName (by rfl) T.n_isinstance (se_var 0) (by rfl)) sa_nil))))))
      (sss_cons (ss_set (i := 2) sc__law_sort.nd rfl (Or.inl rfl) (se_op op_addAll od_add (se_var 2) (se_lst (sa_cons (se_isX T.is_NotAThing (by rfl) T.n_isinstance (se_var 0) (by rfl)) (sa_cons (se_isX T.is_NotAParty (by rfl) T.n_isinstance (se_var 0) (by rfl)) (sa_cons (se_isX T.is_NotAGathering (by rfl) T.n_isinstance (se_var 0) (by rfl)) sa_nil))))))
      (sss_cons (ss_set (i := 2) sc__law_sort.nd rfl (Or.inl rfl) (se_op op_addAll od_add (se_var 2) (se_lst (sa_cons (se_isX T.is_OtherSize (by rfl) T.n_isinstance (se_var 0) (by rfl)) (sa_cons (se_isX T.is_InvalidTies (by rfl) T.n_isinstance (se_var 0) (by rfl)) (sa_cons (se_isX T.is_InvalidPeople (by rfl) T.n_isinstance (se_var 0) (by rfl)) sa_nil))))))
      (sss_cons (ss_set (i := 2) sc__law_sort.nd rfl (Or.inl rfl) (se_op op_addAll od_add (se_var 2) (se_lst (sa_cons (se_isX T.is_TooMany (by rfl) T.n_isinstance (se_var 0) (by rfl)) (sa_cons (se_isX T.is_AlreadyTied (by rfl) T.n_isinstance (se_var 0) (by rfl)) (sa_cons (se_isX T.is_NotTied (by rfl) T.n_isinstance (se_var 0) (by rfl)) sa_nil))))))
      (sss_cons (ss_set (i := 2) sc__law_sort.nd rfl (Or.inl rfl) (se_op op_addAll od_add (se_var 2) (se_lst (sa_cons (se_isX T.is_Broken (by rfl) T.n_isinstance (se_var 0) (by rfl)) (sa_cons (se_isX T.is_Unruly (by rfl) T.n_isinstance (se_var 0) (by rfl)) (sa_cons (se_isX T.is_Holding (by rfl) T.n_isinstance (se_var 0) (by rfl)) sa_nil))))))
      (sss_cons (ss_set (i := 2) sc__law_sort.nd rfl (Or.inl rfl) (se_op op_addAll od_add (se_var 2) (se_lst (sa_cons (se_isX T.is_UnknownName (by rfl) T.n_isinstance (se_var 0) (by rfl)) (sa_cons (se_isX T.is_NothingToUndo (by rfl) T.n_isinstance (se_var 0) (by rfl)) sa_nil)))))
      (sss_cons (ss_set (i := 3) sc__law_sort.nd rfl (Or.inl rfl) (se_lst (sa_cons (se_isX T.is_WrongValue (by rfl) T.n_isinstance (se_var 0) (by rfl)) (sa_cons (se_isX T.is_NoAnswer (by rfl) T.n_isinstance (se_var 0) (by rfl)) sa_nil))))
      (sss_cons (ss_if (SW.st (sw_or (st_cmp (op_neQ hr) od_ne (se_count (se_var 2) se_bl) se_int (nomark _)) (sw_or1 (st_cmp (op_neQ hr) od_ne (se_count (se_var 3) se_bl) se_int (nomark _))))) (sss_one (ss_ret se_str)) sss_nil)
      (sss_cons (ss_set (i := 4) sc__law_sort.nd rfl (Or.inl rfl) (se_index (se_var 2) se_bl))
      (sss_one (ss_ret (se_if (st_cmp (op_eqQ hr) od_eq (se_index (se_var 3) se_bl) (se_if (st_cmp op_lt od_lt (se_var 4) se_int (nomark _)) se_int se_int) (nomark _)) (se_ix ix_seq od_ix (se_var 1) (se_var 4) (fun _ _ => rfl)) se_str))))))))))))))))
abbrev s__law_attribute : Stmt := topS 66
theorem sc__law_attribute : FnScope ["_law_e", "_law_word"] ["_law_e", "_law_word"] (defScope s__law_attribute) := ⟨rfl, rfl, rfl, by decide +kernel, rfl, by decide +kernel, by decide +kernel⟩
def b__law_attribute : FS :=
  (sSeq (sIf (fTest (fBin gIn (fVar 1) (fLst (fCons (fC (.str "other")) (fCons (fC (.str "NothingToUndo")) fNil))))) (sRet (fC (.str ""))) sSkip)
    (sSeq (sIf (fTest (fBin gIn (fVar 1) (fLst (fCons (fC (.str "AlreadyTied")) (fCons (fC (.str "NotTied")) fNil))))) (sRet (fCall cReprA (fCons (fTup (fCons (fXf [] "one" (fVar 0)) (fCons (fXf [] "other" (fVar 0)) fNil))) fNil))) sSkip)
    (sSeq (sIf (fTest (fBin gEq (fVar 1) (fC (.str "TooMany")))) (sRet (fCall cReprA (fCons (fXf ["TooMany"] "number" (fVar 0)) fNil))) sSkip)
    (sSeq (sIf (fTest (fBin gEq (fVar 1) (fC (.str "Holding")))) (sRet (fCall cReprA (fCons (fXf [] "name" (fVar 0)) fNil))) sSkip)
    (sRet (fIf (fTest (fBin gIn (fVar 1) (fLst (fCons (fC (.str "InvalidTies")) (fCons (fC (.str "InvalidPeople")) (fCons (fC (.str "Broken")) (fCons (fC (.str "Unruly")) fNil))))))) (fCall cReprA (fCons (fXf [] "index" (fVar 0)) fNil)) (fCall cReprA (fCons (fXf ["InvalidNumber", "InvalidPerson"] "given" (fVar 0)) fNil))))))))
def d__law_attribute : FD := runD 2 (b__law_attribute)
theorem ok__law_attribute {k : Nat} (T : Txt w K mg ct C_Thing C_Party et_Party cq__law_right cp__law_right) : CalleeQ P w K mg base ct (k + 1) "_law_attribute" 2 (d__law_attribute) :=
  calleeQ_of T.d__law_attribute sc__law_attribute fun f cdv A outer s H E hr =>
    (sss_cons (ss_if (st_cmp op_inAll od_in (se_var 1) (se_lst (sa_cons se_str (sa_cons se_str sa_nil))) (by rfl)) (sss_one (ss_ret se_str)) sss_nil)
      (sss_cons (ss_if (st_cmp op_inAll od_in (se_var 1) (se_lst (sa_cons se_str (sa_cons se_str sa_nil))) (by rfl)) (sss_one (ss_ret (se_callB (call_reprA hr) cd_reprA (by rfl) T.n_repr (by decide +kernel) (sa_cons (se_tup (sa_cons (se_xf T.xf_one (se_var 0)) (sa_cons (se_xf T.xf_other (se_var 0)) sa_nil))) sa_nil)))) sss_nil)
      (sss_cons (ss_if (st_cmp (op_eqQ hr) od_eq (se_var 1) se_str (nomark _)) (sss_one (ss_ret (se_callB (call_reprA hr) cd_reprA (by rfl) T.n_repr (by decide +kernel) (sa_cons (se_xf T.xf_number (se_var 0)) sa_nil)))) sss_nil)
      (sss_cons (ss_if (st_cmp (op_eqQ hr) od_eq (se_var 1) se_str (nomark _)) (sss_one (ss_ret (se_callB (call_reprA hr) cd_reprA (by rfl) T.n_repr (by decide +kernel) (sa_cons (se_xf T.xf_name (se_var 0)) sa_nil)))) sss_nil)
      (sss_one (ss_ret (se_if (st_cmp op_inAll od_in (se_var 1) (se_lst (sa_cons se_str (sa_cons se_str (sa_cons se_str (sa_cons se_str sa_nil))))) (by rfl)) (se_callB (call_reprA hr) cd_reprA (by rfl) T.n_repr (by decide +kernel) (sa_cons (se_xf T.xf_index (se_var 0)) sa_nil)) (se_callB (call_reprA hr) cd_reprA (by rfl) T.n_repr (by decide +kernel) (sa_cons (se_xf T.xf_given (se_var 0)) sa_nil)))))))))
abbrev s__law_told : Stmt := topS 67
abbrev s__law_right : Stmt := topS 68
theorem sc__law_right : FnScope ["_law_purse_here", "_law_some", "_law_sort_here", "_law_k", "_law_what", "_law_far", "_law_turn", "_law_x", "_law_told_here", "_law_many", "_law_y", "_law_due"] ["_law_purse_here"] (defScope s__law_right) := ⟨rfl, rfl, rfl, by decide +kernel, rfl, by decide +kernel, by decide +kernel⟩
def b__law_right (c_Thing_most : FD) (c_Thing_forced : FD) (c_Party_people : FD) (c_Thing_fullest : FD) (c_Thing_tied : FD) (cx_Thing_tied : XD) (c__law_sort : FD) (c__law_attribute : FD) (c__law_draw : FD) (cx_Thing_fullest : XD) (cx_Thing_forced : XD) (cx_Thing_most : XD) (c_Thing_F : List D → Option (List D)) (c__law_things : FD) : FS :=
  (sSeq (sAsg (fCall c__law_things (fCons (fC (.int 5)) fNil)) (gN 1))
    (sSeq (sAsg (fBin gIx (fVar 1) (fCall c__law_draw (fCons (fVar 0) (fCons (fCall cLen (fCons (fVar 1) fNil)) fNil)))) (gTup 2 (gCons (gN 2) (gCons (gN 3) gNil))))
    (sSeq (sAsg (fTup (fCons (fMakeF "Thing" ["word", "many"] c_Thing_F [] (fCons (fVar 2) (fCons (fVar 3) fNil))) (fCons (fBin gAdd (fBin gPow (fC (.int 10)) (fC (.int 40))) (fC (.int 1))) fNil))) (gTup 2 (gCons (gN 4) (gCons (gN 5) gNil))))
    (sSeq (sFor (iRange1 (fCons (fC (.int 4)) fNil)) (gN 6) (sSeq (sAsg (fBin gIx (fLst (fCons (fC .non) (fCons (fC (.bl true)) (fCons (fC (.str "1")) (fCons (fTup fNil) (fCons (fLst fNil) (fCons (fC (.dct [] [])) (fCons (fUn gNeg (fC (.int 1))) (fCons (fC (.bl false)) (fCons (fUn gNeg (fBin gPow (fC (.int 10)) (fC (.int 30)))) fNil)))))))))) (fCall c__law_draw (fCons (fVar 0) (fCons (fC (.int 9)) fNil)))) (gN 7))
    (sSeq (sAsg (fLstM (fCons (fTold 0 (lamQ "_law_right") ["InvalidNumber", "TooMany", "InvalidPerson"] (fMeth "Thing" "most" c_Thing_most (fVar 4) (fCons (fVar 7) fNil)) (xMeth "Thing" "most" cx_Thing_most (fVar 4) (fCons (fVar 7) fNil)) c__law_sort c__law_attribute) fNil)) (gN 8))
    (sSeq (sExpr (fAppend (fVar 8) (fTold 0 (lamQ "_law_right") ["InvalidNumber", "TooMany", "InvalidPerson"] (fMeth "Thing" "forced" c_Thing_forced (fVar 4) (fCons (fVar 7) fNil)) (xMeth "Thing" "forced" cx_Thing_forced (fVar 4) (fCons (fVar 7) fNil)) c__law_sort c__law_attribute)))
    (sSeq (sExpr (fAppend (fVar 8) (fTold 0 (lamQ "_law_right") ["InvalidNumber", "TooMany", "InvalidPerson"] (fMeth "Thing" "tied" c_Thing_tied (fVar 4) (fCons (fVar 7) (fCons (fVar 7) (fCons (fVar 7) fNil)))) (xMeth "Thing" "tied" cx_Thing_tied (fVar 4) (fCons (fVar 7) (fCons (fVar 7) (fCons (fVar 7) fNil)))) c__law_sort c__law_attribute)))
    (sSeq (sExpr (fAppend (fVar 8) (fTold 0 (lamQ "_law_right") ["InvalidNumber", "TooMany", "InvalidPerson"] (fMeth "Thing" "fullest" c_Thing_fullest (fVar 4) (fCons (fVar 7) fNil)) (xMeth "Thing" "fullest" cx_Thing_fullest (fVar 4) (fCons (fVar 7) fNil)) c__law_sort c__law_attribute)))
    (sSeq (sIf (fTest (fBin gNeR (fVar 8) (fBin gRep (fLst (fCons (fTup (fCons (fC (.str "InvalidNumber")) (fCons (fCall cReprA (fCons (fVar 7) fNil)) fNil))) fNil)) (fC (.int 4))))) (sRet (fC (.bl false))) sSkip)
    (sSeq (sAsg (fLstM (fCons (fTold 0 (lamQ "_law_right") ["InvalidNumber", "TooMany", "InvalidPerson"] (fMethK "Thing" "most" c_Thing_most [0] (fVar 4) (fCons (fVar 5) fNil)) (xMethK "Thing" "most" cx_Thing_most [0] (fVar 4) (fCons (fVar 5) fNil)) c__law_sort c__law_attribute) fNil)) (gN 8))
    (sSeq (sExpr (fAppend (fVar 8) (fTold 0 (lamQ "_law_right") ["InvalidNumber", "TooMany", "InvalidPerson"] (fMethK "Thing" "forced" c_Thing_forced [0] (fVar 4) (fCons (fVar 5) fNil)) (xMethK "Thing" "forced" cx_Thing_forced [0] (fVar 4) (fCons (fVar 5) fNil)) c__law_sort c__law_attribute)))
    (sSeq (sExpr (fAppend (fVar 8) (fTold 0 (lamQ "_law_right") ["InvalidNumber", "TooMany", "InvalidPerson"] (fMeth "Thing" "tied" c_Thing_tied (fVar 4) (fCons (fVar 5) (fCons (fVar 7) (fCons (fVar 7) fNil)))) (xMeth "Thing" "tied" cx_Thing_tied (fVar 4) (fCons (fVar 5) (fCons (fVar 7) (fCons (fVar 7) fNil)))) c__law_sort c__law_attribute)))
    (sSeq (sExpr (fAppend (fVar 8) (fTold 0 (lamQ "_law_right") ["InvalidNumber", "TooMany", "InvalidPerson"] (fMethK "Thing" "fullest" c_Thing_fullest [0] (fVar 4) (fCons (fC (.int 11)) fNil)) (xMethK "Thing" "fullest" cx_Thing_fullest [0] (fVar 4) (fCons (fC (.int 11)) fNil)) c__law_sort c__law_attribute)))
    (sSeq (sIf (fTest (fBin gNeR (fVar 8) (fBin gAdd (fBin gRep (fLst (fCons (fTup (fCons (fC (.str "TooMany")) (fCons (fCall cReprA (fCons (fVar 5) fNil)) fNil))) fNil)) (fC (.int 3))) (fLst (fCons (fTup (fCons (fC (.str "TooMany")) (fCons (fC (.str "11")) fNil))) fNil))))) (sRet (fC (.bl false))) sSkip)
    (sSeq (sAsg (fBin gAdd (fC (.int 2)) (fCall c__law_draw (fCons (fVar 0) (fCons (fC (.int 30)) fNil)))) (gN 9))
    (sSeq (sAsg (fBin gIx (fLst (fCons (fUn gNeg (fC (.int 1))) (fCons (fVar 9) (fCons (fC .non) (fCons (fC (.bl true)) (fCons (fC (.str "0")) (fCons (fTup fNil) (fCons (fBin gPow (fC (.int 10)) (fC (.int 30))) (fCons (fC (.bl false)) fNil))))))))) (fCall c__law_draw (fCons (fVar 0) (fCons (fC (.int 8)) fNil)))) (gN 10))
    (sSeq (sAsg (fLstM (fCons (fTold 0 (lamQ "_law_right") ["InvalidNumber", "TooMany", "InvalidPerson"] (fMeth "Thing" "tied" c_Thing_tied (fVar 4) (fCons (fVar 9) (fCons (fVar 10) (fCons (fUn gNeg (fC (.int 7))) fNil)))) (xMeth "Thing" "tied" cx_Thing_tied (fVar 4) (fCons (fVar 9) (fCons (fVar 10) (fCons (fUn gNeg (fC (.int 7))) fNil)))) c__law_sort c__law_attribute) fNil)) (gN 8))
    (sSeq (sExpr (fAppend (fVar 8) (fTold 0 (lamQ "_law_right") ["InvalidNumber", "TooMany", "InvalidPerson"] (fMeth "Thing" "tied" c_Thing_tied (fVar 4) (fCons (fVar 9) (fCons (fC (.int 1)) (fCons (fVar 10) fNil)))) (xMeth "Thing" "tied" cx_Thing_tied (fVar 4) (fCons (fVar 9) (fCons (fC (.int 1)) (fCons (fVar 10) fNil)))) c__law_sort c__law_attribute)))
    (sSeq (sExpr (fAppend (fVar 8) (fTold 0 (lamQ "_law_right") ["InvalidNumber", "TooMany", "InvalidPerson"] (fMethK "Thing" "tied" c_Thing_tied [2, 1, 0] (fVar 4) (fCons (fC (.int 1)) (fCons (fC (.int 1)) (fCons (fVar 9) fNil)))) (xMethK "Thing" "tied" cx_Thing_tied [2, 1, 0] (fVar 4) (fCons (fC (.int 1)) (fCons (fC (.int 1)) (fCons (fVar 9) fNil)))) c__law_sort c__law_attribute)))
    (sSeq (sExpr (fAppend (fVar 8) (fTold 0 (lamQ "_law_right") ["InvalidNumber", "TooMany", "InvalidPerson"] (fMeth "Thing" "tied" c_Thing_tied (fVar 4) (fCons (fC (.int 0)) (fCons (fC (.int 0)) (fCons (fC (.int 1)) fNil)))) (xMeth "Thing" "tied" cx_Thing_tied (fVar 4) (fCons (fC (.int 0)) (fCons (fC (.int 0)) (fCons (fC (.int 1)) fNil)))) c__law_sort c__law_attribute)))
    (sSeq (sAsg (fBin gAdd (fBin gRep (fLst (fCons (fTup (fCons (fC (.str "InvalidPerson")) (fCons (fCall cReprA (fCons (fVar 10) fNil)) fNil))) fNil)) (fC (.int 2))) (fLst (fCons (fTup (fCons (fC (.str "InvalidPerson")) (fCons (fC (.str "1")) fNil))) (fCons (fTup (fCons (fC (.str "InvalidPerson")) (fCons (fC (.str "0")) fNil))) fNil)))) (gN 11))
    (sIf (fTest (fBin gNeR (fVar 8) (fVar 11))) (sRet (fC (.bl false))) sSkip))))))))))))))))))))
    (sRet (fAnd (fBin gEq (fMeth "Thing" "most" c_Thing_most (fVar 4) (fCons (fC (.int 0)) fNil)) (fC (.int 0))) (fAnd (fBin gIsN (fMethK "Thing" "forced" c_Thing_forced [0] (fVar 4) (fCons (fC (.int 0)) fNil)) (fC .non)) (fBin gEq (fProp "Party" c_Party_people (fMeth "Thing" "fullest" c_Thing_fullest (fVar 4) (fCons (fC (.int 0)) fNil))) (fC (.int 0))))))))))
def d__law_right (c_Thing_most : FD) (c_Thing_forced : FD) (c_Party_people : FD) (c_Thing_fullest : FD) (c_Thing_tied : FD) (cx_Thing_tied : XD) (c__law_sort : FD) (c__law_attribute : FD) (c__law_draw : FD) (cx_Thing_fullest : XD) (cx_Thing_forced : XD) (cx_Thing_most : XD) (c_Thing_F : List D → Option (List D)) (c__law_things : FD) : FD := runD 12 (b__law_right c_Thing_most c_Thing_forced c_Party_people c_Thing_fullest c_Thing_tied cx_Thing_tied c__law_sort c__law_attribute c__law_draw cx_Thing_fullest cx_Thing_forced cx_Thing_most c_Thing_F c__law_things)
theorem ok__law_right {c_Thing_most : FD} {c_Thing_forced : FD} {c_Party_people : FD} {c_Thing_fullest : FD} {c_Thing_tied : FD} {cx_Thing_tied : XD} {c__law_sort : FD} {c__law_attribute : FD} {c__law_draw : FD} {cx_Thing_fullest : XD} {cx_Thing_forced : XD} {cx_Thing_most : XD} {c_Thing_F : List D → Option (List D)} {c__law_things : FD} {k : Nat} (T : Txt w K mg ct C_Thing C_Party et_Party cq__law_right cp__law_right) (TB : LamX.TabB base mg cq__law_right cp__law_right) (C_Thing_most : CalleeM P w K mg base ct k C_Thing "most" 2 c_Thing_most [(["people"], [0])]) (C_Thing_forced : CalleeM P w K mg base ct k C_Thing "forced" 2 c_Thing_forced [(["people"], [0])]) (C_Party_people : CalleeP P w K mg base ct k C_Party "people" c_Party_people) (C_Thing_fullest : CalleeM P w K mg base ct k C_Thing "fullest" 2 c_Thing_fullest [(["people"], [0])]) (C_Thing_tied : CalleeM P w K mg base ct k C_Thing "tied" 4 c_Thing_tied [(["other", "one", "people"], [2, 1, 0])]) (CX_Thing_tied : CalleeMX P w K mg base ct k C_Thing "tied" 4 cx_Thing_tied [(["other", "one", "people"], [2, 1, 0])]) (C_told : ToldOk P w K mg base ct k "_law_told" ["InvalidNumber", "TooMany", "InvalidPerson"] c__law_sort c__law_attribute) (C__law_draw : Callee P w K mg base ct k "_law_draw" 2 c__law_draw) (CX_Thing_fullest : CalleeMX P w K mg base ct k C_Thing "fullest" 2 cx_Thing_fullest [(["people"], [0])]) (CX_Thing_forced : CalleeMX P w K mg base ct k C_Thing "forced" 2 cx_Thing_forced [(["people"], [0])]) (CX_Thing_most : CalleeMX P w K mg base ct k C_Thing "most" 2 cx_Thing_most [(["people"], [0])]) (C_Thing_mf2 : MakerF P w K mg base ct k "Thing" ["word", "many"] [] 3 c_Thing_F) (C__law_things : Callee P w K mg base ct k "_law_things" 1 c__law_things) : Callee P w K mg base ct (k + 3) "_law_right" 1 (d__law_right c_Thing_most c_Thing_forced c_Party_people c_Thing_fullest c_Thing_tied cx_Thing_tied c__law_sort c__law_attribute c__law_draw cx_Thing_fullest cx_Thing_forced cx_Thing_most c_Thing_F c__law_things) :=
  calleeC_of T.d__law_right sc__law_right fun f A outer s H E hr2 => have hr := RoomG.mono hr2 (Nat.le_add_right k 2)
    (sss_cons (ss_set (i := 1) sc__law_right.nd rfl (Or.inl rfl) (se_fn C__law_things hr (by rfl) (sa_cons se_int sa_nil) (fCons_len (fun _ _ _ _ h => fNil_len h))))
      (sss_cons (ss_asg (se_ix ix_seq od_ix (se_var 1) (se_fn C__law_draw hr (by rfl) (sa_cons (se_var 0) (sa_cons (se_callB call_lenAll cd_len (by rfl) T.n_len (by decide +kernel) (sa_cons (se_var 1) sa_nil)) sa_nil)) (fCons_len (fCons_len (fun _ _ _ _ h => fNil_len h)))) (fun _ _ => rfl)) (sg_tup rfl (sgs_cons (sg_name (i := 2) sc__law_right.nd rfl (Or.inl rfl)) (sgs_cons (sg_name (i := 3) sc__law_right.nd rfl (Or.inl rfl)) sgs_nil))))
      (sss_cons (ss_asg (se_tup (sa_cons (se_mkF (n := 2) (dds := []) C_Thing_mf2 hr (by rfl) (sa_cons (se_var 2) (sa_cons (se_var 3) sa_nil)) (fCons_len (fCons_len (fun _ _ _ _ h => fNil_len h)))) (sa_cons (se_op op_addAll od_add (se_op op_pow od_pow se_int se_int) se_int) sa_nil))) (sg_tup rfl (sgs_cons (sg_name (i := 4) sc__law_right.nd rfl (Or.inr rfl)) (sgs_cons (sg_name (i := 5) sc__law_right.nd rfl (Or.inr rfl)) sgs_nil))))
      (sss_cons (ss_for PassesOwn.never rfl (si_range1 (by rfl) T.n_range (sa_cons se_int sa_nil)) (sg_name (i := 6) sc__law_right.nd rfl (Or.inl rfl)) (sss_cons (ss_set (i := 7) sc__law_right.nd rfl (Or.inr rfl) (se_ix ix_seq od_ix (se_lst (sa_cons se_non (sa_cons se_bl (sa_cons se_str (sa_cons (se_tup sa_nil) (sa_cons (se_lst sa_nil) (sa_cons se_dnewF (sa_cons (se_neg se_int) (sa_cons se_bl (sa_cons (se_neg (se_op op_pow od_pow se_int se_int)) sa_nil)))))))))) (se_fn C__law_draw hr (by rfl) (sa_cons (se_var 0) (sa_cons se_int sa_nil)) (fCons_len (fCons_len (fun _ _ _ _ h => fNil_len h)))) (fun _ _ => rfl)))
      (sss_cons (ss_set (i := 8) sc__law_right.nd rfl (Or.inl rfl) (se_lstM (sa_cons (se_told (j := 0) C_told hr2 (by rfl) TB rfl T.q__law_right (LamX.lamS_by (sc := defScope s__law_right) (by decide +kernel)) rfl (fun _ _ _ _ _ => rfl) (fun A outer s H E f c' hr => (se_meth T.kc_Thing C_Thing_most hr (se_var 4) (sa_cons (se_var 7) sa_nil) (fCons_len (fun _ _ _ _ h => fNil_len h)))) (fun A outer s H E f c' hr => (xe_meth T.kc_Thing CX_Thing_most hr lets_lam (se_var 4) (sa_cons (se_var 7) sa_nil) (fCons_len (fun _ _ _ _ h => fNil_len h))))) sa_nil)))
      (sss_cons (ss_expr (se_append (se_var 8) (se_told (j := 0) C_told hr2 (by rfl) TB rfl T.q__law_right (LamX.lamS_by (sc := defScope s__law_right) (by decide +kernel)) rfl (fun _ _ _ _ _ => rfl) (fun A outer s H E f c' hr => (se_meth T.kc_Thing C_Thing_forced hr (se_var 4) (sa_cons (se_var 7) sa_nil) (fCons_len (fun _ _ _ _ h => fNil_len h)))) (fun A outer s H E f c' hr => (xe_meth T.kc_Thing CX_Thing_forced hr lets_lam (se_var 4) (sa_cons (se_var 7) sa_nil) (fCons_len (fun _ _ _ _ h => fNil_len h)))))))
      (sss_cons (ss_expr (se_append (se_var 8) (se_told (j := 0) C_told hr2 (by rfl) TB rfl T.q__law_right (LamX.lamS_by (sc := defScope s__law_right) (by decide +kernel)) rfl (fun _ _ _ _ _ => rfl) (fun A outer s H E f c' hr => (se_meth T.kc_Thing C_Thing_tied hr (se_var 4) (sa_cons (se_var 7) (sa_cons (se_var 7) (sa_cons (se_var 7) sa_nil))) (fCons_len (fCons_len (fCons_len (fun _ _ _ _ h => fNil_len h)))))) (fun A outer s H E f c' hr => (xe_meth T.kc_Thing CX_Thing_tied hr lets_lam (se_var 4) (sa_cons (se_var 7) (sa_cons (se_var 7) (sa_cons (se_var 7) sa_nil))) (fCons_len (fCons_len (fCons_len (fun _ _ _ _ h => fNil_len h)))))))))
      (sss_cons (ss_expr (se_append (se_var 8) (se_told (j := 0) C_told hr2 (by rfl) TB rfl T.q__law_right (LamX.lamS_by (sc := defScope s__law_right) (by decide +kernel)) rfl (fun _ _ _ _ _ => rfl) (fun A outer s H E f c' hr => (se_meth T.kc_Thing C_Thing_fullest hr (se_var 4) (sa_cons (se_var 7) sa_nil) (fCons_len (fun _ _ _ _ h => fNil_len h)))) (fun A outer s H E f c' hr => (xe_meth T.kc_Thing CX_Thing_fullest hr lets_lam (se_var 4) (sa_cons (se_var 7) sa_nil) (fCons_len (fun _ _ _ _ h => fNil_len h)))))))
      (sss_cons (ss_if (st_cmp (op_neAll hr) od_neR (se_var 8) (se_op op_rep od_rep (se_lst (sa_cons (se_tup (sa_cons se_str (sa_cons (se_callB (call_reprA hr.q) cd_reprA (by rfl) T.n_repr (by decide +kernel) (sa_cons (se_var 7) sa_nil)) sa_nil))) sa_nil)) se_int) (nomark _)) (sss_one (ss_ret se_bl)) sss_nil)
      (sss_cons (ss_set (i := 8) sc__law_right.nd rfl (Or.inl rfl) (se_lstM (sa_cons (se_told (j := 0) C_told hr2 (by rfl) TB rfl T.q__law_right (LamX.lamS_by (sc := defScope s__law_right) (by decide +kernel)) rfl (fun _ _ _ _ _ => rfl) (fun A outer s H E f c' hr => (se_methK (ks := ["people"]) (idx := [0]) T.kc_Thing C_Thing_most (by simp) hr (se_var 4) (sk_cons (se_var 5) sk_nil) (fCons_len (fun _ _ _ _ h => fNil_len h)) (fun _ zs h => match zs, h with | [_], _ => rfl))) (fun A outer s H E f c' hr => (xe_methK (ks := ["people"]) (idx := [0]) T.kc_Thing CX_Thing_most (by simp) hr lets_lam (se_var 4) (sk_cons (se_var 5) sk_nil) (fCons_len (fun _ _ _ _ h => fNil_len h)) (fun _ zs h => match zs, h with | [_], _ => rfl)))) sa_nil)))
      (sss_cons (ss_expr (se_append (se_var 8) (se_told (j := 0) C_told hr2 (by rfl) TB rfl T.q__law_right (LamX.lamS_by (sc := defScope s__law_right) (by decide +kernel)) rfl (fun _ _ _ _ _ => rfl) (fun A outer s H E f c' hr => (se_methK (ks := ["people"]) (idx := [0]) T.kc_Thing C_Thing_forced (by simp) hr (se_var 4) (sk_cons (se_var 5) sk_nil) (fCons_len (fun _ _ _ _ h => fNil_len h)) (fun _ zs h => match zs, h with | [_], _ => rfl))) (fun A outer s H E f c' hr => (xe_methK (ks := ["people"]) (idx := [0]) T.kc_Thing CX_Thing_forced (by simp) hr lets_lam (se_var 4) (sk_cons (se_var 5) sk_nil) (fCons_len (fun _ _ _ _ h => fNil_len h)) (fun _ zs h => match zs, h with | [_], _ => rfl))))))
      (sss_cons (ss_expr (se_append (se_var 8) (se_told (j := 0) C_told hr2 (by rfl) TB rfl T.q__law_right (LamX.lamS_by (sc := defScope s__law_right) (by decide +kernel)) rfl (fun _ _ _ _ _ => rfl) (fun A outer s H E f c' hr => (se_meth T.kc_Thing C_Thing_tied hr (se_var 4) (sa_cons (se_var 5) (sa_cons (se_var 7) (sa_cons (se_var 7) sa_nil))) (fCons_len (fCons_len (fCons_len (fun _ _ _ _ h => fNil_len h)))))) (fun A outer s H E f c' hr => (xe_meth T.kc_Thing CX_Thing_tied hr lets_lam (se_var 4) (sa_cons (se_var 5) (sa_cons (se_var 7) (sa_cons (se_var 7) sa_nil))) (fCons_len (fCons_len (fCons_len (fun _ _ _ _ h => fNil_len h)))))))))
      (sss_cons (ss_expr (se_append (se_var 8) (se_told (j := 0) C_told hr2 (by rfl) TB rfl T.q__law_right (LamX.lamS_by (sc := defScope s__law_right) (by decide +kernel)) rfl (fun _ _ _ _ _ => rfl) (fun A outer s H E f c' hr => (se_methK (ks := ["people"]) (idx := [0]) T.kc_Thing C_Thing_fullest (by simp) hr (se_var 4) (sk_cons se_int sk_nil) (fCons_len (fun _ _ _ _ h => fNil_len h)) (fun _ zs h => match zs, h with | [_], _ => rfl))) (fun A outer s H E f c' hr => (xe_methK (ks := ["people"]) (idx := [0]) T.kc_Thing CX_Thing_fullest (by simp) hr lets_lam (se_var 4) (sk_cons se_int sk_nil) (fCons_len (fun _ _ _ _ h => fNil_len h)) (fun _ zs h => match zs, h with | [_], _ => rfl))))))
      (sss_cons (ss_if (st_cmp (op_neAll hr) od_neR (se_var 8) (se_op op_addAll od_add (se_op op_rep od_rep (se_lst (sa_cons (se_tup (sa_cons se_str (sa_cons (se_callB (call_reprA hr.q) cd_reprA (by rfl) T.n_repr (by decide +kernel) (sa_cons (se_var 5) sa_nil)) sa_nil))) sa_nil)) se_int) (se_lst (sa_cons (se_tup (sa_cons se_str (sa_cons se_str sa_nil))) sa_nil))) (nomark _)) (sss_one (ss_ret se_bl)) sss_nil)
      (sss_cons (ss_set (i := 9) sc__law_right.nd rfl (Or.inr rfl) (se_op op_addAll od_add se_int (se_fn C__law_draw hr (by rfl) (sa_cons (se_var 0) (sa_cons se_int sa_nil)) (fCons_len (fCons_len (fun _ _ _ _ h => fNil_len h))))))
      (sss_cons (ss_set (i := 10) sc__law_right.nd rfl (Or.inr rfl) (se_ix ix_seq od_ix (se_lst (sa_cons (se_neg se_int) (sa_cons (se_var 9) (sa_cons se_non (sa_cons se_bl (sa_cons se_str (sa_cons (se_tup sa_nil) (sa_cons (se_op op_pow od_pow se_int se_int) (sa_cons se_bl sa_nil))))))))) (se_fn C__law_draw hr (by rfl) (sa_cons (se_var 0) (sa_cons se_int sa_nil)) (fCons_len (fCons_len (fun _ _ _ _ h => fNil_len h)))) (fun _ _ => rfl)))
      (sss_cons (ss_set (i := 8) sc__law_right.nd rfl (Or.inl rfl) (se_lstM (sa_cons (se_told (j := 0) C_told hr2 (by rfl) TB rfl T.q__law_right (LamX.lamS_by (sc := defScope s__law_right) (by decide +kernel)) rfl (fun _ _ _ _ _ => rfl) (fun A outer s H E f c' hr => (se_meth T.kc_Thing C_Thing_tied hr (se_var 4) (sa_cons (se_var 9) (sa_cons (se_var 10) (sa_cons (se_neg se_int) sa_nil))) (fCons_len (fCons_len (fCons_len (fun _ _ _ _ h => fNil_len h)))))) (fun A outer s H E f c' hr => (xe_meth T.kc_Thing CX_Thing_tied hr lets_lam (se_var 4) (sa_cons (se_var 9) (sa_cons (se_var 10) (sa_cons (se_neg se_int) sa_nil))) (fCons_len (fCons_len (fCons_len (fun _ _ _ _ h => fNil_len h))))))) sa_nil)))
      (sss_cons (ss_expr (se_append (se_var 8) (se_told (j := 0) C_told hr2 (by rfl) TB rfl T.q__law_right (LamX.lamS_by (sc := defScope s__law_right) (by decide +kernel)) rfl (fun _ _ _ _ _ => rfl) (fun A outer s H E f c' hr => (se_meth T.kc_Thing C_Thing_tied hr (se_var 4) (sa_cons (se_var 9) (sa_cons se_int (sa_cons (se_var 10) sa_nil))) (fCons_len (fCons_len (fCons_len (fun _ _ _ _ h => fNil_len h)))))) (fun A outer s H E f c' hr => (xe_meth T.kc_Thing CX_Thing_tied hr lets_lam (se_var 4) (sa_cons (se_var 9) (sa_cons se_int (sa_cons (se_var 10) sa_nil))) (fCons_len (fCons_len (fCons_len (fun _ _ _ _ h => fNil_len h)))))))))
      (sss_cons (ss_expr (se_append (se_var 8) (se_told (j := 0) C_told hr2 (by rfl) TB rfl T.q__law_right (LamX.lamS_by (sc := defScope s__law_right) (by decide +kernel)) rfl (fun _ _ _ _ _ => rfl) (fun A outer s H E f c' hr => (se_methK (ks := ["other", "one", "people"]) (idx := [2, 1, 0]) T.kc_Thing C_Thing_tied (by simp) hr (se_var 4) (sk_cons se_int (sk_cons se_int (sk_cons (se_var 9) sk_nil))) (fCons_len (fCons_len (fCons_len (fun _ _ _ _ h => fNil_len h)))) (fun _ zs h => match zs, h with | [_, _, _], _ => rfl))) (fun A outer s H E f c' hr => (xe_methK (ks := ["other", "one", "people"]) (idx := [2, 1, 0]) T.kc_Thing CX_Thing_tied (by simp) hr lets_lam (se_var 4) (sk_cons se_int (sk_cons se_int (sk_cons (se_var 9) sk_nil))) (fCons_len (fCons_len (fCons_len (fun _ _ _ _ h => fNil_len h)))) (fun _ zs h => match zs, h with | [_, _, _], _ => rfl))))))
      (sss_cons (ss_expr (se_append (se_var 8) (se_told (j := 0) C_told hr2 (by rfl) TB rfl T.q__law_right (LamX.lamS_by (sc := defScope s__law_right) (by decide +kernel)) rfl (fun _ _ _ _ _ => rfl) (fun A outer s H E f c' hr => (se_meth T.kc_Thing C_Thing_tied hr (se_var 4) (sa_cons se_int (sa_cons se_int (sa_cons se_int sa_nil))) (fCons_len (fCons_len (fCons_len (fun _ _ _ _ h => fNil_len h)))))) (fun A outer s H E f c' hr => (xe_meth T.kc_Thing CX_Thing_tied hr lets_lam (se_var 4) (sa_cons se_int (sa_cons se_int (sa_cons se_int sa_nil))) (fCons_len (fCons_len (fCons_len (fun _ _ _ _ h => fNil_len h)))))))))
      (sss_cons (ss_set (i := 11) sc__law_right.nd rfl (Or.inl rfl) (se_op op_addAll od_add (se_op op_rep od_rep (se_lst (sa_cons (se_tup (sa_cons se_str (sa_cons (se_callB (call_reprA hr.q) cd_reprA (by rfl) T.n_repr (by decide +kernel) (sa_cons (se_var 10) sa_nil)) sa_nil))) sa_nil)) se_int) (se_lst (sa_cons (se_tup (sa_cons se_str (sa_cons se_str sa_nil))) (sa_cons (se_tup (sa_cons se_str (sa_cons se_str sa_nil))) sa_nil)))))
      (sss_one (ss_if (st_cmp (op_neAll hr) od_neR (se_var 8) (se_var 11) (nomark _)) (sss_one (ss_ret se_bl)) sss_nil)))))))))))))))))))))
      (sss_one (ss_ret (se_and (se_cmp (op_eqAll hr) od_eq (se_meth T.kc_Thing C_Thing_most hr (se_var 4) (sa_cons se_int sa_nil) (fCons_len (fun _ _ _ _ h => fNil_len h))) se_int (nomark _)) (se_and (se_cmp op_isN od_isN (se_methK (ks := ["people"]) (idx := [0]) T.kc_Thing C_Thing_forced (by simp) hr (se_var 4) (sk_cons se_int sk_nil) (fCons_len (fun _ _ _ _ h => fNil_len h)) (fun _ zs h => match zs, h with | [_], _ => rfl)) se_non (nomark _)) (se_one (se_cmp (op_eqAll hr) od_eq (se_prop T.kc_Party C_Party_people hr (se_meth T.kc_Thing C_Thing_fullest hr (se_var 4) (sa_cons se_int sa_nil) (fCons_len (fun _ _ _ _ h => fNil_len h)))) se_int (nomark _)))))))))))
abbrev s_law : Stmt := topS 69
theorem sc_law : FnScope ["_law_script", "_law_spot"] ["_law_script"] (defScope s_law) := ⟨rfl, rfl, rfl, by decide +kernel, rfl, by decide +kernel, by decide +kernel⟩
def b_law (c__law_right : FD) (c__law_purse : FD) : FS :=
  (sRet (fCall cAll (fCons (fLc (iRange1 (fCons (fCall cMax2 (fCons (fC (.int 2)) (fCons (fCall cMin2 (fCons (fCall cLen (fCons (fVar 0) fNil)) (fCons (fC (.int 4)) fNil))) fNil))) fNil)) (gN 1) tYesD (fCall c__law_right (fCons (fCall c__law_purse (fCons (fVar 0) (fCons (fVar 1) fNil))) fNil)) [1]) fNil)))
def d_law (c__law_right : FD) (c__law_purse : FD) : FD := runD 2 (b_law c__law_right c__law_purse)
theorem fn_law {c__law_right : FD} {c__law_purse : FD} {k : Nat} {f : Addr} {fd : FuncData} (F : Fun K "law" "law" s_law f fd) (T : Txt w K mg ct C_Thing C_Party et_Party cq__law_right cp__law_right) (C__law_right : Callee P w K mg base ct k "_law_right" 1 c__law_right) (C__law_purse : Callee P w K mg base ct k "_law_purse" 2 c__law_purse) : FnG P w K mg base (k + 1) f fd ["_law_script"] (spD K ct 1 (d_law c__law_right c__law_purse)) :=
  def_ok F sc_law fun cdv A outer s H E hr =>
    (sss_one (ss_ret (se_callB (cr_all rfl) cd_all (by rfl) T.n_all (by decide +kernel) (sa_cons (se_lc (own := [("_law_spot", 1)]) rfl sc_law.nd (si_range1 (by rfl) T.n_range (sa_cons (se_callB (call_max2 rfl) cd_max2 (by rfl) T.n_max (by decide +kernel) (sa_cons se_int (sa_cons (se_callB (call_min2 rfl) cd_min2 (by rfl) T.n_min (by decide +kernel) (sa_cons (se_callB call_lenAll cd_len (by rfl) T.n_len (by decide +kernel) (sa_cons (se_var 0) sa_nil)) (sa_cons se_int sa_nil))) sa_nil))) sa_nil)) (blkOk_by (own := [("_law_spot", 1)]) (N := ["_law_script", "_law_spot"]) (sc := defScope s_law) (by decide +kernel)) (fun _ _ _ _ _ => (sgw_name (i := 1) sc_law.nd rfl (Or.inl rfl) (by decide))) (fun _ _ _ _ _ => sts_nil) (fun _ _ _ _ _ => (se_fn C__law_right hr (by rfl) (sa_cons (se_fn C__law_purse hr (by rfl) (sa_cons (se_var 0) (sa_cons (se_var 1) sa_nil)) (fCons_len (fCons_len (fun _ _ _ _ h => fNil_len h)))) sa_nil) (fCons_len (fun _ _ _ _ h => fNil_len h))))) sa_nil))))
abbrev w_is_integer : FD := d_is_integer
theorem wk_is_integer (T : Txt w K mg ct C_Thing C_Party et_Party cq__law_right cp__law_right) : Callee P w K mg base ct 1 "is_integer" 1 w_is_integer :=
  ok_is_integer (k := 0) T
abbrev w_is_between : FD := d_is_between w_is_integer
theorem wk_is_between (T : Txt w K mg ct C_Thing C_Party et_Party cq__law_right cp__law_right) : Callee P w K mg base ct 2 "is_between" 3 w_is_between :=
  ok_is_between (k := 1) T ((wk_is_integer T).mono (by decide))
abbrev w_check_people : FD := d_check_people w_is_integer
theorem wk_check_people (T : Txt w K mg ct C_Thing C_Party et_Party cq__law_right cp__law_right) : Callee P w K mg base ct 2 "check_people" 2 w_check_people :=
  ok_check_people (k := 1) T ((wk_is_integer T).mono (by decide))
abbrev wx_check_people : XD := dx_check_people w_is_integer
theorem wkx_check_people (T : Txt w K mg ct C_Thing C_Party et_Party cq__law_right cp__law_right) : CalleeX P w K mg base ct 3 "check_people" 2 wx_check_people :=
  okx_check_people (k := 2) T ((rz_TooMany T).mono (by decide)) ((rz_InvalidNumber T).mono (by decide)) ((wk_is_integer T).mono (by decide))
abbrev w_check_two : FD := d_check_two w_is_between
theorem wk_check_two (T : Txt w K mg ct C_Thing C_Party et_Party cq__law_right cp__law_right) : Callee P w K mg base ct 3 "check_two" 3 w_check_two :=
  ok_check_two (k := 2) T ((wk_is_between T).mono (by decide))
abbrev wx_check_two : XD := dx_check_two w_is_between
theorem wkx_check_two (T : Txt w K mg ct C_Thing C_Party et_Party cq__law_right cp__law_right) : CalleeX P w K mg base ct 3 "check_two" 3 wx_check_two :=
  okx_check_two (k := 2) T ((rz_InvalidPerson T).mono (by decide)) ((wk_is_between T).mono (by decide))
abbrev w_pairs_of : FD := d_pairs_of
theorem wk_pairs_of (T : Txt w K mg ct C_Thing C_Party et_Party cq__law_right cp__law_right) : Callee P w K mg base ct 1 "pairs_of" 1 w_pairs_of :=
  ok_pairs_of (k := 0) T
abbrev w_most_rings : FD := d_most_rings w_pairs_of
theorem wk_most_rings (T : Txt w K mg ct C_Thing C_Party et_Party cq__law_right cp__law_right) : Callee P w K mg base ct 2 "most_rings" 3 w_most_rings :=
  ok_most_rings (k := 1) T ((wk_pairs_of T).mono (by decide))
abbrev w_most_groups : FD := d_most_groups w_pairs_of
theorem wk_most_groups (T : Txt w K mg ct C_Thing C_Party et_Party cq__law_right cp__law_right) : Callee P w K mg base ct 2 "most_groups" 3 w_most_groups :=
  ok_most_groups (k := 1) T ((wk_pairs_of T).mono (by decide))
abbrev w_most_pairs : FD := d_most_pairs w_pairs_of
theorem wk_most_pairs (T : Txt w K mg ct C_Thing C_Party et_Party cq__law_right cp__law_right) : Callee P w K mg base ct 2 "most_pairs" 2 w_most_pairs :=
  ok_most_pairs (k := 1) T ((wk_pairs_of T).mono (by decide))
abbrev w_is_all_tied : FD := d_is_all_tied
theorem wk_is_all_tied (T : Txt w K mg ct C_Thing C_Party et_Party cq__law_right cp__law_right) : Callee P w K mg base ct 1 "is_all_tied" 3 w_is_all_tied :=
  ok_is_all_tied (k := 0) T
abbrev w_most_of : FD := d_most_of w_pairs_of w_most_pairs w_is_all_tied w_most_groups w_most_rings
theorem wk_most_of (T : Txt w K mg ct C_Thing C_Party et_Party cq__law_right cp__law_right) : Callee P w K mg base ct 3 "most_of" 3 w_most_of :=
  ok_most_of (k := 2) T ((wk_pairs_of T).mono (by decide)) ((wk_most_pairs T).mono (by decide)) ((wk_is_all_tied T).mono (by decide)) ((wk_most_groups T).mono (by decide)) ((wk_most_rings T).mono (by decide))
abbrev w_Thing___init__ : FD := d_Thing___init__ w_is_between
theorem wk_Thing___init__ (T : Txt w K mg ct C_Thing C_Party et_Party cq__law_right cp__law_right) : Initer P w K mg base ct 3 "Thing" [.non] 3 w_Thing___init__ :=
  ok_Thing___init__ (k := 2) T ((wk_is_between T).mono (by decide))
theorem isint_int (i : Int) (S : Sto) : w_is_integer [.int i] S = some (.bl true, S) := by
  rw [← R_eq]
  unfold w_is_integer d_is_integer b_is_integer
  simp only [R_some, wb_bl, wi_int, wstr_str, wtup_tup, wlst_lst, wref_ref, wp_var0, wp_varS, wp_C, wp_Bin, wp_neg, wp_nil, wp_cons, wp_tup, wp_lst, wp_lstM, wp_Call, wp_And, wp_Or, wp_Not, wp_Test, wp_tAnd, wp_tOr, wp_tNot, wp_If, wp_Chain, wp_Skip, wp_Break, wp_Cont, wp_Never, wp_fNever, wp_Seq, wp_pfl_nx, wp_pfl_rt, wp_pfl_bk, wp_pfl_ct, wp_Expr, wp_Ret, wp_sIf, wp_Asg, wp_N, wp_gNil, wp_gCons, wp_gTup, wp_gSub, wp_Par, wp_two, wp_Run, wp_run_rt, wp_run_nx, wp_bk_nx, wp_bk_ct, wp_bk_bk, wp_bk_rt, wp_r1, wp_r2, wp_add, wp_addL, wp_addS, wp_mul, wp_fdiv, wp_mod, wp_I0, wp_eqI, wp_eqS, wp_eqB, wp_neI, wp_neS, wp_neB, wp_isN, wp_notN, isn_int, isn_non, isn_str, isn_tup, isn_lst, isn_ref, isn_bl, wp_isi, wp_someB, isi_str_str, isi_int_int, isi_int_bl, isi_bool_int, isi_bool_bl, isi_int_non, isi_int_str, isi_tuple_tup, wp_abs, wp_max2, wp_min2, wp_maxT, wp_intI, wp_intB, wp_lenS, wp_lenT, wp_lenL, wp_lenC, wp_divmod, wp_listL, wp_listT, wp_tupL, wp_tupT, wp_KIn, wp_strE, wp_Fld, wp_FldO, wp_Meth, wp_MakeF, wp_someL, wp_iR1, wp_iR2, wp_iLst, wp_iTup, wp_Prop, wp_IsC, wp_DGet1, wp_DIn, wp_gUnl, wp_DictK, wp_rep, wp_MethK, wp_CallK, wp_DispF, wp_DIx, wp_someX, wp_ixL, wp_ixT, wp_ixC, atI0, atI1, atI2, ixN0, ixN1, wp_Sl, wp_oNone, wp_oSome, wp_slC, wp_slL, wp_slS, str_eq, String.reduceEq, in_ring_crowd, in_ring_star, in_ring_pairs, in_ring_row, in_ring_ring, in_ring_core, in_ring_linked, in_ring_odd_ring, in_ring_even_ring, Bool.or_self, Bool.and_self, wp_Lc, wp_Yes, wp_pow10_9, wp_pow10_18, wp_pow10_40, wp_For, wp_sFld, wp_last, set_last, wp_KIx, wp_inT, wp_inL, eqF_str, flat_str, flat_int, flat_non, List.any_cons, List.any_nil, List.all_cons, List.all_nil, Bool.and_true, Bool.or_false, Bool.true_and, Bool.false_and, Bool.and_false, Bool.false_or, Bool.or_true, Bool.true_or, Bool.not_not, List.map_cons, List.map_nil, List.length_cons, List.length_nil, List.cons_append, List.nil_append, List.append_nil, List.set_cons_zero, List.set_cons_succ, List.replicate_succ, List.replicate_zero, Nat.reduceSub, Nat.reduceAdd, Nat.reduceLeDiff, Nat.zero_add, Nat.sub_self, decide_eq_true_eq, Bool.not_eq_true', Bool.not_eq_eq_eq_not, Bool.not_true, Bool.not_false, decide_eq_false_iff_not, if_true, if_false, reduceIte, Bool.false_eq_true, true_and, and_true, decide_true, decide_false, Bool.true_eq_false, eq_self]
theorem between_int (i a b : Int) (S : Sto) : w_is_between [.int i, .int a, .int b] S = some (.bl (decide (a ≤ i) && decide (i ≤ b)), S) := by
  rw [← R_eq]
  unfold w_is_between d_is_between b_is_between
  simp only [R_some, wb_bl, wi_int, wstr_str, wtup_tup, wlst_lst, wref_ref, wp_var0, wp_varS, wp_C, wp_Bin, wp_neg, wp_nil, wp_cons, wp_tup, wp_lst, wp_lstM, wp_Call, wp_And, wp_Or, wp_Not, wp_Test, wp_tAnd, wp_tOr, wp_tNot, wp_If, wp_Chain, wp_Skip, wp_Break, wp_Cont, wp_Never, wp_fNever, wp_Seq, wp_pfl_nx, wp_pfl_rt, wp_pfl_bk, wp_pfl_ct, wp_Expr, wp_Ret, wp_sIf, wp_Asg, wp_N, wp_gNil, wp_gCons, wp_gTup, wp_gSub, wp_Par, wp_two, wp_Run, wp_run_rt, wp_run_nx, wp_bk_nx, wp_bk_ct, wp_bk_bk, wp_bk_rt, wp_r1, wp_r2, wp_add, wp_addL, wp_addS, wp_mul, wp_fdiv, wp_mod, wp_I0, wp_eqI, wp_eqS, wp_eqB, wp_neI, wp_neS, wp_neB, wp_isN, wp_notN, isn_int, isn_non, isn_str, isn_tup, isn_lst, isn_ref, isn_bl, wp_isi, wp_someB, isi_str_str, isi_int_int, isi_int_bl, isi_bool_int, isi_bool_bl, isi_int_non, isi_int_str, isi_tuple_tup, wp_abs, wp_max2, wp_min2, wp_maxT, wp_intI, wp_intB, wp_lenS, wp_lenT, wp_lenL, wp_lenC, wp_divmod, wp_listL, wp_listT, wp_tupL, wp_tupT, wp_KIn, wp_strE, wp_Fld, wp_FldO, wp_Meth, wp_MakeF, wp_someL, wp_iR1, wp_iR2, wp_iLst, wp_iTup, wp_Prop, wp_IsC, wp_DGet1, wp_DIn, wp_gUnl, wp_DictK, wp_rep, wp_MethK, wp_CallK, wp_DispF, wp_DIx, wp_someX, wp_ixL, wp_ixT, wp_ixC, atI0, atI1, atI2, ixN0, ixN1, wp_Sl, wp_oNone, wp_oSome, wp_slC, wp_slL, wp_slS, str_eq, String.reduceEq, in_ring_crowd, in_ring_star, in_ring_pairs, in_ring_row, in_ring_ring, in_ring_core, in_ring_linked, in_ring_odd_ring, in_ring_even_ring, Bool.or_self, Bool.and_self, wp_Lc, wp_Yes, wp_pow10_9, wp_pow10_18, wp_pow10_40, wp_For, wp_sFld, wp_last, set_last, wp_KIx, wp_inT, wp_inL, eqF_str, flat_str, flat_int, flat_non, List.any_cons, List.any_nil, List.all_cons, List.all_nil, Bool.and_true, Bool.or_false, Bool.true_and, Bool.false_and, Bool.and_false, Bool.false_or, Bool.or_true, Bool.true_or, Bool.not_not, List.map_cons, List.map_nil, List.length_cons, List.length_nil, List.cons_append, List.nil_append, List.append_nil, List.set_cons_zero, List.set_cons_succ, List.replicate_succ, List.replicate_zero, Nat.reduceSub, Nat.reduceAdd, Nat.reduceLeDiff, Nat.zero_add, Nat.sub_self, decide_eq_true_eq, Bool.not_eq_true', Bool.not_eq_eq_eq_not, Bool.not_true, Bool.not_false, decide_eq_false_iff_not, if_true, if_false, reduceIte, Bool.false_eq_true, true_and, and_true, decide_true, decide_false, Bool.true_eq_false, eq_self, eq_R (isint_int _ _)]
  by_cases h : a ≤ i
  · simp [h]
  · simp [h]
def mkF_Thing : List D → Option (List D)
  | [.str k, .non] => if k = "odd ring" ∨ k = "even ring" then some [.str k, .non] else none
  | [.str k, .int n] => match tab_LEAST.lookup k with
    | some lo => if lo ≤ n ∧ n ≤ 10000000000000000000000000000000000000000 then some [.str k, .int n] else none
    | none => none
  | _ => none
theorem mkF_Thing_ok : MkSpec "Thing" ["word", "many"] w_Thing___init__ mkF_Thing := by
  intro S args vals h
  unfold mkF_Thing at h
  split at h
  · rename_i k
    split at h
    · rename_i hk
      cases h
      refine ⟨?_, rfl⟩
      rw [← R_eq]
      have hl : (tab_LEAST.lookup k) = none := by rcases hk with rfl | rfl <;> decide +kernel
      have hk' : (decide (("odd ring" : Str) = k) || decide (("even ring" : Str) = k)) = true := by rcases hk with rfl | rfl <;> simp
      unfold w_Thing___init__ d_Thing___init__ b_Thing___init__
      simp only [R_some, wb_bl, wi_int, wstr_str, wtup_tup, wlst_lst, wref_ref, wp_var0, wp_varS, wp_C, wp_Bin, wp_neg, wp_nil, wp_cons, wp_tup, wp_lst, wp_lstM, wp_Call, wp_And, wp_Or, wp_Not, wp_Test, wp_tAnd, wp_tOr, wp_tNot, wp_If, wp_Chain, wp_Skip, wp_Break, wp_Cont, wp_Never, wp_fNever, wp_Seq, wp_pfl_nx, wp_pfl_rt, wp_pfl_bk, wp_pfl_ct, wp_Expr, wp_Ret, wp_sIf, wp_Asg, wp_N, wp_gNil, wp_gCons, wp_gTup, wp_gSub, wp_Par, wp_two, wp_Run, wp_run_rt, wp_run_nx, wp_bk_nx, wp_bk_ct, wp_bk_bk, wp_bk_rt, wp_r1, wp_r2, wp_add, wp_addL, wp_addS, wp_mul, wp_fdiv, wp_mod, wp_I0, wp_eqI, wp_eqS, wp_eqB, wp_neI, wp_neS, wp_neB, wp_isN, wp_notN, isn_int, isn_non, isn_str, isn_tup, isn_lst, isn_ref, isn_bl, wp_isi, wp_someB, isi_str_str, isi_int_int, isi_int_bl, isi_bool_int, isi_bool_bl, isi_int_non, isi_int_str, isi_tuple_tup, wp_abs, wp_max2, wp_min2, wp_maxT, wp_intI, wp_intB, wp_lenS, wp_lenT, wp_lenL, wp_lenC, wp_divmod, wp_listL, wp_listT, wp_tupL, wp_tupT, wp_KIn, wp_strE, wp_Fld, wp_FldO, wp_Meth, wp_MakeF, wp_someL, wp_iR1, wp_iR2, wp_iLst, wp_iTup, wp_Prop, wp_IsC, wp_DGet1, wp_DIn, wp_gUnl, wp_DictK, wp_rep, wp_MethK, wp_CallK, wp_DispF, wp_DIx, wp_someX, wp_ixL, wp_ixT, wp_ixC, atI0, atI1, atI2, ixN0, ixN1, wp_Sl, wp_oNone, wp_oSome, wp_slC, wp_slL, wp_slS, str_eq, String.reduceEq, in_ring_crowd, in_ring_star, in_ring_pairs, in_ring_row, in_ring_ring, in_ring_core, in_ring_linked, in_ring_odd_ring, in_ring_even_ring, Bool.or_self, Bool.and_self, wp_Lc, wp_Yes, wp_pow10_9, wp_pow10_18, wp_pow10_40, wp_For, wp_sFld, wp_last, set_last, wp_KIx, wp_inT, wp_inL, eqF_str, flat_str, flat_int, flat_non, List.any_cons, List.any_nil, List.all_cons, List.all_nil, Bool.and_true, Bool.or_false, Bool.true_and, Bool.false_and, Bool.and_false, Bool.false_or, Bool.or_true, Bool.true_or, Bool.not_not, List.map_cons, List.map_nil, List.length_cons, List.length_nil, List.cons_append, List.nil_append, List.append_nil, List.set_cons_zero, List.set_cons_succ, List.replicate_succ, List.replicate_zero, Nat.reduceSub, Nat.reduceAdd, Nat.reduceLeDiff, Nat.zero_add, Nat.sub_self, decide_eq_true_eq, Bool.not_eq_true', Bool.not_eq_eq_eq_not, Bool.not_true, Bool.not_false, decide_eq_false_iff_not, if_true, if_false, reduceIte, Bool.false_eq_true, true_and, and_true, decide_true, decide_false, Bool.true_eq_false, eq_self, hl, Option.isSome_none, hk']
      exact ⟨by decide, by decide, rfl⟩
    · cases h
  · rename_i k n
    split at h
    · rename_i lo hl
      split at h
      · rename_i hn
        cases h
        refine ⟨?_, rfl⟩
        rw [← R_eq]
        have hk' : (decide (("odd ring" : Str) = k) || decide (("even ring" : Str) = k)) = false := by
          rw [Bool.or_eq_false_iff]
          refine ⟨decide_eq_false ?_, decide_eq_false ?_⟩ <;> (rintro rfl; rw [show (tab_LEAST.lookup _) = none by decide +kernel] at hl; cases hl)
        unfold w_Thing___init__ d_Thing___init__ b_Thing___init__
        simp only [R_some, wb_bl, wi_int, wstr_str, wtup_tup, wlst_lst, wref_ref, wp_var0, wp_varS, wp_C, wp_Bin, wp_neg, wp_nil, wp_cons, wp_tup, wp_lst, wp_lstM, wp_Call, wp_And, wp_Or, wp_Not, wp_Test, wp_tAnd, wp_tOr, wp_tNot, wp_If, wp_Chain, wp_Skip, wp_Break, wp_Cont, wp_Never, wp_fNever, wp_Seq, wp_pfl_nx, wp_pfl_rt, wp_pfl_bk, wp_pfl_ct, wp_Expr, wp_Ret, wp_sIf, wp_Asg, wp_N, wp_gNil, wp_gCons, wp_gTup, wp_gSub, wp_Par, wp_two, wp_Run, wp_run_rt, wp_run_nx, wp_bk_nx, wp_bk_ct, wp_bk_bk, wp_bk_rt, wp_r1, wp_r2, wp_add, wp_addL, wp_addS, wp_mul, wp_fdiv, wp_mod, wp_I0, wp_eqI, wp_eqS, wp_eqB, wp_neI, wp_neS, wp_neB, wp_isN, wp_notN, isn_int, isn_non, isn_str, isn_tup, isn_lst, isn_ref, isn_bl, wp_isi, wp_someB, isi_str_str, isi_int_int, isi_int_bl, isi_bool_int, isi_bool_bl, isi_int_non, isi_int_str, isi_tuple_tup, wp_abs, wp_max2, wp_min2, wp_maxT, wp_intI, wp_intB, wp_lenS, wp_lenT, wp_lenL, wp_lenC, wp_divmod, wp_listL, wp_listT, wp_tupL, wp_tupT, wp_KIn, wp_strE, wp_Fld, wp_FldO, wp_Meth, wp_MakeF, wp_someL, wp_iR1, wp_iR2, wp_iLst, wp_iTup, wp_Prop, wp_IsC, wp_DGet1, wp_DIn, wp_gUnl, wp_DictK, wp_rep, wp_MethK, wp_CallK, wp_DispF, wp_DIx, wp_someX, wp_ixL, wp_ixT, wp_ixC, atI0, atI1, atI2, ixN0, ixN1, wp_Sl, wp_oNone, wp_oSome, wp_slC, wp_slL, wp_slS, str_eq, String.reduceEq, in_ring_crowd, in_ring_star, in_ring_pairs, in_ring_row, in_ring_ring, in_ring_core, in_ring_linked, in_ring_odd_ring, in_ring_even_ring, Bool.or_self, Bool.and_self, wp_Lc, wp_Yes, wp_pow10_9, wp_pow10_18, wp_pow10_40, wp_For, wp_sFld, wp_last, set_last, wp_KIx, wp_inT, wp_inL, eqF_str, flat_str, flat_int, flat_non, List.any_cons, List.any_nil, List.all_cons, List.all_nil, Bool.and_true, Bool.or_false, Bool.true_and, Bool.false_and, Bool.and_false, Bool.false_or, Bool.or_true, Bool.true_or, Bool.not_not, List.map_cons, List.map_nil, List.length_cons, List.length_nil, List.cons_append, List.nil_append, List.append_nil, List.set_cons_zero, List.set_cons_succ, List.replicate_succ, List.replicate_zero, Nat.reduceSub, Nat.reduceAdd, Nat.reduceLeDiff, Nat.zero_add, Nat.sub_self, decide_eq_true_eq, Bool.not_eq_true', Bool.not_eq_eq_eq_not, Bool.not_true, Bool.not_false, decide_eq_false_iff_not, if_true, if_false, reduceIte, Bool.false_eq_true, true_and, and_true, decide_true, decide_false, Bool.true_eq_false, eq_self, hl, Option.isSome_some, hk', eq_R (between_int _ _ _ _), hn.1, hn.2]
        exact ⟨by decide, by decide, rfl⟩
      · cases h
    · cases h
  · cases h

abbrev w_wrong_tie : FD := pureD (d_wrong_tie)
theorem wk_wrong_tie (T : Txt w K mg ct C_Thing C_Party et_Party cq__law_right cp__law_right) : Callee P w K mg base ct 1 "wrong_tie" 2 w_wrong_tie :=
  (ok_wrong_tie (k := 0) T).pure
abbrev w_all_ties : FD := pureD (d_all_ties)
theorem wk_all_ties (T : Txt w K mg ct C_Thing C_Party et_Party cq__law_right cp__law_right) : Callee P w K mg base ct 1 "all_ties" 1 w_all_ties :=
  (ok_all_ties (k := 0) T).pure
abbrev w_Party___init__ : FD := d_Party___init__ w_wrong_tie w_check_people
theorem wk_Party___init__ (T : Txt w K mg ct C_Thing C_Party et_Party cq__law_right cp__law_right) : Initer P w K mg base ct 3 "Party" [.ref et_Party] 3 w_Party___init__ :=
  ok_Party___init__ (k := 2) T ((wk_wrong_tie T).mono (by decide)) ((wk_check_people T).mono (by decide))
theorem chkp_ok {n m : Int} (h0 : 0 ≤ n) (h1 : n ≤ m) (S : Sto) : w_check_people [.int n, .int m] S = some (.non, S) := by
  rw [← R_eq]
  unfold w_check_people d_check_people b_check_people
  simp only [R_some, wb_bl, wi_int, wstr_str, wtup_tup, wlst_lst, wref_ref, wp_var0, wp_varS, wp_C, wp_Bin, wp_neg, wp_nil, wp_cons, wp_tup, wp_lst, wp_lstM, wp_Call, wp_And, wp_Or, wp_Not, wp_Test, wp_tAnd, wp_tOr, wp_tNot, wp_If, wp_Chain, wp_Skip, wp_Break, wp_Cont, wp_Never, wp_fNever, wp_Seq, wp_pfl_nx, wp_pfl_rt, wp_pfl_bk, wp_pfl_ct, wp_Expr, wp_Ret, wp_sIf, wp_Asg, wp_N, wp_gNil, wp_gCons, wp_gTup, wp_gSub, wp_Par, wp_two, wp_Run, wp_run_rt, wp_run_nx, wp_bk_nx, wp_bk_ct, wp_bk_bk, wp_bk_rt, wp_r1, wp_r2, wp_add, wp_addL, wp_addS, wp_mul, wp_fdiv, wp_mod, wp_I0, wp_eqI, wp_eqS, wp_eqB, wp_neI, wp_neS, wp_neB, wp_isN, wp_notN, isn_int, isn_non, isn_str, isn_tup, isn_lst, isn_ref, isn_bl, wp_isi, wp_someB, isi_str_str, isi_int_int, isi_int_bl, isi_bool_int, isi_bool_bl, isi_int_non, isi_int_str, isi_tuple_tup, wp_abs, wp_max2, wp_min2, wp_maxT, wp_intI, wp_intB, wp_lenS, wp_lenT, wp_lenL, wp_lenC, wp_divmod, wp_listL, wp_listT, wp_tupL, wp_tupT, wp_KIn, wp_strE, wp_Fld, wp_FldO, wp_Meth, wp_MakeF, wp_someL, wp_iR1, wp_iR2, wp_iLst, wp_iTup, wp_Prop, wp_IsC, wp_DGet1, wp_DIn, wp_gUnl, wp_DictK, wp_rep, wp_MethK, wp_CallK, wp_DispF, wp_DIx, wp_someX, wp_ixL, wp_ixT, wp_ixC, atI0, atI1, atI2, ixN0, ixN1, wp_Sl, wp_oNone, wp_oSome, wp_slC, wp_slL, wp_slS, str_eq, String.reduceEq, in_ring_crowd, in_ring_star, in_ring_pairs, in_ring_row, in_ring_ring, in_ring_core, in_ring_linked, in_ring_odd_ring, in_ring_even_ring, Bool.or_self, Bool.and_self, wp_Lc, wp_Yes, wp_pow10_9, wp_pow10_18, wp_pow10_40, wp_For, wp_sFld, wp_last, set_last, wp_KIx, wp_inT, wp_inL, eqF_str, flat_str, flat_int, flat_non, List.any_cons, List.any_nil, List.all_cons, List.all_nil, Bool.and_true, Bool.or_false, Bool.true_and, Bool.false_and, Bool.and_false, Bool.false_or, Bool.or_true, Bool.true_or, Bool.not_not, List.map_cons, List.map_nil, List.length_cons, List.length_nil, List.cons_append, List.nil_append, List.append_nil, List.set_cons_zero, List.set_cons_succ, List.replicate_succ, List.replicate_zero, Nat.reduceSub, Nat.reduceAdd, Nat.reduceLeDiff, Nat.zero_add, Nat.sub_self, decide_eq_true_eq, Bool.not_eq_true', Bool.not_eq_eq_eq_not, Bool.not_true, Bool.not_false, decide_eq_false_iff_not, if_true, if_false, reduceIte, Bool.false_eq_true, true_and, and_true, decide_true, decide_false, Bool.true_eq_false, eq_self, eq_R (isint_int _ _)]
  have e1 : ¬ n < 0 := by omega
  have e2 : ¬ m < n := by omega
  simp [e1, e2]
theorem wrong_nil (n : Int) (S : Sto) : w_wrong_tie [.tup [], .int n] S = some (.int (-1), S) := by kernel_rfl
def mkF_Party : List D → Option (List D)
  | [.int n, .tup []] => if 0 ≤ n ∧ n ≤ 10 then some [.int n, .tup []] else none
  | _ => none
theorem mkF_Party_ok : MkSpec "Party" ["many", "held"] w_Party___init__ mkF_Party := by
  intro S args vals h
  unfold mkF_Party at h
  split at h
  · rename_i n
    split at h
    · rename_i hn
      cases h
      refine ⟨?_, rfl⟩
      rw [← R_eq]
      unfold w_Party___init__ d_Party___init__ b_Party___init__
      simp only [R_some, wb_bl, wi_int, wstr_str, wtup_tup, wlst_lst, wref_ref, wp_var0, wp_varS, wp_C, wp_Bin, wp_neg, wp_nil, wp_cons, wp_tup, wp_lst, wp_lstM, wp_Call, wp_And, wp_Or, wp_Not, wp_Test, wp_tAnd, wp_tOr, wp_tNot, wp_If, wp_Chain, wp_Skip, wp_Break, wp_Cont, wp_Never, wp_fNever, wp_Seq, wp_pfl_nx, wp_pfl_rt, wp_pfl_bk, wp_pfl_ct, wp_Expr, wp_Ret, wp_sIf, wp_Asg, wp_N, wp_gNil, wp_gCons, wp_gTup, wp_gSub, wp_Par, wp_two, wp_Run, wp_run_rt, wp_run_nx, wp_bk_nx, wp_bk_ct, wp_bk_bk, wp_bk_rt, wp_r1, wp_r2, wp_add, wp_addL, wp_addS, wp_mul, wp_fdiv, wp_mod, wp_I0, wp_eqI, wp_eqS, wp_eqB, wp_neI, wp_neS, wp_neB, wp_isN, wp_notN, isn_int, isn_non, isn_str, isn_tup, isn_lst, isn_ref, isn_bl, wp_isi, wp_someB, isi_str_str, isi_int_int, isi_int_bl, isi_bool_int, isi_bool_bl, isi_int_non, isi_int_str, isi_tuple_tup, wp_abs, wp_max2, wp_min2, wp_maxT, wp_intI, wp_intB, wp_lenS, wp_lenT, wp_lenL, wp_lenC, wp_divmod, wp_listL, wp_listT, wp_tupL, wp_tupT, wp_KIn, wp_strE, wp_Fld, wp_FldO, wp_Meth, wp_MakeF, wp_someL, wp_iR1, wp_iR2, wp_iLst, wp_iTup, wp_Prop, wp_IsC, wp_DGet1, wp_DIn, wp_gUnl, wp_DictK, wp_rep, wp_MethK, wp_CallK, wp_DispF, wp_DIx, wp_someX, wp_ixL, wp_ixT, wp_ixC, atI0, atI1, atI2, ixN0, ixN1, wp_Sl, wp_oNone, wp_oSome, wp_slC, wp_slL, wp_slS, str_eq, String.reduceEq, in_ring_crowd, in_ring_star, in_ring_pairs, in_ring_row, in_ring_ring, in_ring_core, in_ring_linked, in_ring_odd_ring, in_ring_even_ring, Bool.or_self, Bool.and_self, wp_Lc, wp_Yes, wp_pow10_9, wp_pow10_18, wp_pow10_40, wp_For, wp_sFld, wp_last, set_last, wp_KIx, wp_inT, wp_inL, eqF_str, flat_str, flat_int, flat_non, List.any_cons, List.any_nil, List.all_cons, List.all_nil, Bool.and_true, Bool.or_false, Bool.true_and, Bool.false_and, Bool.and_false, Bool.false_or, Bool.or_true, Bool.true_or, Bool.not_not, List.map_cons, List.map_nil, List.length_cons, List.length_nil, List.cons_append, List.nil_append, List.append_nil, List.set_cons_zero, List.set_cons_succ, List.replicate_succ, List.replicate_zero, Nat.reduceSub, Nat.reduceAdd, Nat.reduceLeDiff, Nat.zero_add, Nat.sub_self, decide_eq_true_eq, Bool.not_eq_true', Bool.not_eq_eq_eq_not, Bool.not_true, Bool.not_false, decide_eq_false_iff_not, if_true, if_false, reduceIte, Bool.false_eq_true, true_and, and_true, decide_true, decide_false, Bool.true_eq_false, eq_self, eq_R (chkp_ok hn.1 hn.2 _), eq_R (wrong_nil _ _)]
      exact ⟨by decide, by decide, rfl⟩
    · cases h
  · cases h

abbrev w_Party_people : FD := d_Party_people
theorem wk_Party_people (T : Txt w K mg ct C_Thing C_Party et_Party cq__law_right cp__law_right) : CalleeP P w K mg base ct 2 C_Party "people" w_Party_people :=
  ok_Party_people (k := 0) T
abbrev w_Thing_most : FD := d_Thing_most w_most_of w_check_people
theorem wk_Thing_most (T : Txt w K mg ct C_Thing C_Party et_Party cq__law_right cp__law_right) : CalleeM P w K mg base ct 4 C_Thing "most" 2 w_Thing_most [(["people"], [0])] :=
  ok_Thing_most (k := 3) T ((wk_most_of T).mono (by decide)) ((wk_check_people T).mono (by decide))
abbrev wx_Thing_most : XD := dx_Thing_most wx_check_people w_check_people
theorem wkx_Thing_most (T : Txt w K mg ct C_Thing C_Party et_Party cq__law_right cp__law_right) : CalleeMX P w K mg base ct 4 C_Thing "most" 2 wx_Thing_most [(["people"], [0])] :=
  okx_Thing_most (k := 3) T ((wkx_check_people T).mono (by decide)) ((wk_check_people T).mono (by decide))
abbrev w_Thing_forced : FD := d_Thing_forced w_pairs_of w_most_of w_check_people
theorem wk_Thing_forced (T : Txt w K mg ct C_Thing C_Party et_Party cq__law_right cp__law_right) : CalleeM P w K mg base ct 4 C_Thing "forced" 2 w_Thing_forced [(["people"], [0])] :=
  ok_Thing_forced (k := 3) T ((wk_pairs_of T).mono (by decide)) ((wk_most_of T).mono (by decide)) ((wk_check_people T).mono (by decide))
abbrev wx_Thing_forced : XD := dx_Thing_forced wx_check_people w_check_people
theorem wkx_Thing_forced (T : Txt w K mg ct C_Thing C_Party et_Party cq__law_right cp__law_right) : CalleeMX P w K mg base ct 4 C_Thing "forced" 2 wx_Thing_forced [(["people"], [0])] :=
  okx_Thing_forced (k := 3) T ((wkx_check_people T).mono (by decide)) ((wk_check_people T).mono (by decide))
abbrev w_Thing_tied : FD := d_Thing_tied w_check_two w_check_people
theorem wk_Thing_tied (T : Txt w K mg ct C_Thing C_Party et_Party cq__law_right cp__law_right) : CalleeM P w K mg base ct 4 C_Thing "tied" 4 w_Thing_tied [(["other", "one", "people"], [2, 1, 0])] :=
  ok_Thing_tied (k := 3) T ((wk_check_two T).mono (by decide)) ((wk_check_people T).mono (by decide))
abbrev wx_Thing_tied : XD := dx_Thing_tied wx_check_two w_check_two wx_check_people w_check_people
theorem wkx_Thing_tied (T : Txt w K mg ct C_Thing C_Party et_Party cq__law_right cp__law_right) : CalleeMX P w K mg base ct 4 C_Thing "tied" 4 wx_Thing_tied [(["other", "one", "people"], [2, 1, 0])] :=
  okx_Thing_tied (k := 3) T ((wkx_check_two T).mono (by decide)) ((wk_check_two T).mono (by decide)) ((wkx_check_people T).mono (by decide)) ((wk_check_people T).mono (by decide))
abbrev w_Thing_fullest : FD := d_Thing_fullest mkF_Party w_all_ties w_check_people
theorem wk_Thing_fullest (T : Txt w K mg ct C_Thing C_Party et_Party cq__law_right cp__law_right) : CalleeM P w K mg base ct 5 C_Thing "fullest" 2 w_Thing_fullest [(["people"], [0])] :=
  ok_Thing_fullest (k := 4) T ((makerF_of (maker_of (dds := []) (wk_Party___init__ T) 1 (by simp) (fun _ _ => rfl)) mkF_Party_ok).mono (by decide)) ((wk_all_ties T).mono (by decide)) ((wk_check_people T).mono (by decide))
abbrev wx_Thing_fullest : XD := dx_Thing_fullest wx_check_people w_check_people
theorem wkx_Thing_fullest (T : Txt w K mg ct C_Thing C_Party et_Party cq__law_right cp__law_right) : CalleeMX P w K mg base ct 4 C_Thing "fullest" 2 wx_Thing_fullest [(["people"], [0])] :=
  okx_Thing_fullest (k := 3) T ((wkx_check_people T).mono (by decide)) ((wk_check_people T).mono (by decide))
abbrev w__law_purse : FD := d__law_purse
theorem wk__law_purse (T : Txt w K mg ct C_Thing C_Party et_Party cq__law_right cp__law_right) : Callee P w K mg base ct 1 "_law_purse" 2 w__law_purse :=
  ok__law_purse (k := 0) T
abbrev w__law_draw : FD := d__law_draw
theorem wk__law_draw (T : Txt w K mg ct C_Thing C_Party et_Party cq__law_right cp__law_right) : Callee P w K mg base ct 1 "_law_draw" 2 w__law_draw :=
  ok__law_draw (k := 0) T
abbrev w__law_things : FD := d__law_things
theorem wk__law_things (T : Txt w K mg ct C_Thing C_Party et_Party cq__law_right cp__law_right) : Callee P w K mg base ct 1 "_law_things" 1 w__law_things :=
  ok__law_things (k := 0) T
abbrev w__law_sort : FD := d__law_sort
theorem wk__law_sort (T : Txt w K mg ct C_Thing C_Party et_Party cq__law_right cp__law_right) : CalleeQ P w K mg base ct 1 "_law_sort" 1 w__law_sort :=
  ok__law_sort (k := 0) T
abbrev w__law_attribute : FD := d__law_attribute
theorem wk__law_attribute (T : Txt w K mg ct C_Thing C_Party et_Party cq__law_right cp__law_right) : CalleeQ P w K mg base ct 1 "_law_attribute" 2 w__law_attribute :=
  ok__law_attribute (k := 0) T
theorem tshape : TShape (defScope s__law_told) (defBody s__law_told) := ⟨⟨_, _, _, _, _, _, _, _, _, _, _, _, _, _, _, _, _, _, _, _, _, _, _, _, _, _, _, _, _, rfl⟩, rfl, rfl, rfl, rfl, rfl, rfl, rfl, rfl, ⟨rfl, rfl, rfl, by decide +kernel, rfl, by decide +kernel, by decide +kernel⟩⟩
theorem told_T (T : Txt w K mg ct C_Thing C_Party et_Party cq__law_right cp__law_right) : ToldOk P w K mg base ct 1 "_law_told" ["InvalidNumber", "TooMany", "InvalidPerson"] w__law_sort w__law_attribute := by
  obtain ⟨c1, c2, h1, h2, h3⟩ := T.tc
  obtain ⟨f, fd, F, g1, g2, g3⟩ := T.d__law_told
  exact ⟨_, f, fd, c1, c2, F, g1, g2, tshape, h1, h2, h3, (wk__law_sort T).mono (by decide), (wk__law_attribute T).mono (by decide)⟩
abbrev w__law_right : FD := d__law_right w_Thing_most w_Thing_forced w_Party_people w_Thing_fullest w_Thing_tied wx_Thing_tied w__law_sort w__law_attribute w__law_draw wx_Thing_fullest wx_Thing_forced wx_Thing_most mkF_Thing w__law_things
theorem wk__law_right (T : Txt w K mg ct C_Thing C_Party et_Party cq__law_right cp__law_right) (TB : LamX.TabB base mg cq__law_right cp__law_right) : Callee P w K mg base ct 8 "_law_right" 1 w__law_right :=
  ok__law_right (k := 5) T TB ((wk_Thing_most T).mono (by decide)) ((wk_Thing_forced T).mono (by decide)) ((wk_Party_people T).mono (by decide)) ((wk_Thing_fullest T).mono (by decide)) ((wk_Thing_tied T).mono (by decide)) ((wkx_Thing_tied T).mono (by decide)) ((told_T T).mono (by decide)) ((wk__law_draw T).mono (by decide)) ((wkx_Thing_fullest T).mono (by decide)) ((wkx_Thing_forced T).mono (by decide)) ((wkx_Thing_most T).mono (by decide)) ((makerF_of (maker_of (dds := []) (wk_Thing___init__ T) 1 (by simp) (fun _ _ => rfl)) mkF_Thing_ok).mono (by decide)) ((wk__law_things T).mono (by decide))
def lawD : FD := d_law w__law_right w__law_purse
theorem law_fn {f : Addr} {fd : FuncData} (F : Fun K "law" "law" s_law f fd) (T : Txt w K mg ct C_Thing C_Party et_Party cq__law_right cp__law_right) (TB : LamX.TabB base mg cq__law_right cp__law_right) : FnG P w K mg base 16 f fd ["_law_script"] (spD K ct 1 lawD) :=
  fn_law (k := 15) F T ((wk__law_right T TB).mono (by decide)) ((wk__law_purse T).mono (by decide))
end LW

set_option exponentiation.threshold 2000
namespace LW
open PySem PySem.Spec PyProof.Rows L2 DL
/-! ## the purse: what is left of a great number, a mixed number -/
def Prs (S : Sto) (i : Nat) : Prop := ∃ a b : Int, S[i]? = some (.lst [.int a, .int b]) ∧ 0 ≤ b ∧ b < 2147483647
theorem small_lit {i : Int} (h : -1000000000000000000000 ≤ i) (h2 : i ≤ 1000000000000000000000) : smallI i = true := small_bd (a := 80) (by
  unfold Bd
  have : (2 : Nat) ^ 80 = 1208925819614629174706176 := by decide
  omega) (by decide) (by decide)
theorem lg_lit {i : Int} (h : 0 ≤ i) (h2 : i ≤ 10000000000000000000000000000000000000000000000000000000000000000000000000000000000) : lgI i := lg_bd (a := 300) (by
  unfold Bd
  have : (2 : Nat) ^ 300 = 2037035976334486086268445688409378161051468393665936250636140449354381299763336706183397376 := by decide
  omega) (by decide)
theorem r_draw {S : Sto} {i : Nat} {m : Int} {P : D → Sto → Prop} (h : Prs S i) (hm : 0 < m) (hm2 : m ≤ 10000000000000000000000000000000000000000000000000000000000000000000000000000000000)
    (k : ∀ r S', 0 ≤ r → r < m → Prs S' i → Apart S S' i → P (.int r) S') : R (w__law_draw [.ref i, .int m] S) P := by
  obtain ⟨a, b, hc, hb, hb2⟩ := h
  unfold w__law_draw d__law_draw b__law_draw
  simp only [R_some, wb_bl, wi_int, wstr_str, wtup_tup, wlst_lst, wref_ref, wp_var0, wp_varS, wp_C, wp_Bin, wp_neg, wp_nil, wp_cons, wp_tup, wp_lst, wp_lstM, wp_Call, wp_And, wp_Or, wp_Not, wp_Test, wp_tAnd, wp_tOr, wp_tNot, wp_If, wp_Chain, wp_Skip, wp_Break, wp_Cont, wp_Never, wp_fNever, wp_Seq, wp_pfl_nx, wp_pfl_rt, wp_pfl_bk, wp_pfl_ct, wp_Expr, wp_Ret, wp_sIf, wp_Asg, wp_N, wp_gNil, wp_gCons, wp_gTup, wp_gSub, wp_Par, wp_two, wp_Run, wp_run_rt, wp_run_nx, wp_bk_nx, wp_bk_ct, wp_bk_bk, wp_bk_rt, wp_r1, wp_r2, wp_add, wp_addL, wp_addS, wp_mul, wp_fdiv, wp_mod, wp_I0, wp_eqI, wp_eqS, wp_eqB, wp_neI, wp_neS, wp_neB, wp_isN, wp_notN, isn_int, isn_non, isn_str, isn_tup, isn_lst, isn_ref, isn_bl, wp_isi, wp_someB, isi_str_str, isi_int_int, isi_int_bl, isi_bool_int, isi_bool_bl, isi_int_non, isi_int_str, isi_tuple_tup, wp_abs, wp_max2, wp_min2, wp_maxT, wp_intI, wp_intB, wp_lenS, wp_lenT, wp_lenL, wp_lenC, wp_divmod, wp_listL, wp_listT, wp_tupL, wp_tupT, wp_KIn, wp_strE, wp_Fld, wp_FldO, wp_Meth, wp_MakeF, wp_someL, wp_iR1, wp_iR2, wp_iLst, wp_iTup, wp_Prop, wp_IsC, wp_DGet1, wp_DIn, wp_gUnl, wp_DictK, wp_rep, wp_MethK, wp_CallK, wp_DispF, wp_DIx, wp_someX, wp_ixL, wp_ixT, wp_ixC, atI0, atI1, atI2, ixN0, ixN1, wp_Sl, wp_oNone, wp_oSome, wp_slC, wp_slL, wp_slS, str_eq, String.reduceEq, in_ring_crowd, in_ring_star, in_ring_pairs, in_ring_row, in_ring_ring, in_ring_core, in_ring_linked, in_ring_odd_ring, in_ring_even_ring, Bool.or_self, Bool.and_self, wp_Lc, wp_Yes, wp_pow10_9, wp_pow10_18, wp_pow10_40, wp_For, wp_sFld, wp_last, set_last, wp_KIx, wp_inT, wp_inL, eqF_str, flat_str, flat_int, flat_non, List.any_cons, List.any_nil, List.all_cons, List.all_nil, Bool.and_true, Bool.or_false, Bool.true_and, Bool.false_and, Bool.and_false, Bool.false_or, Bool.or_true, Bool.true_or, Bool.not_not, List.map_cons, List.map_nil, List.length_cons, List.length_nil, List.cons_append, List.nil_append, List.append_nil, List.set_cons_zero, List.set_cons_succ, List.replicate_succ, List.replicate_zero, Nat.reduceSub, Nat.reduceAdd, Nat.reduceLeDiff, Nat.zero_add, Nat.sub_self, decide_eq_true_eq, Bool.not_eq_true', Bool.not_eq_eq_eq_not, Bool.not_true, Bool.not_false, decide_eq_false_iff_not, if_true, if_false, reduceIte, Bool.false_eq_true, true_and, and_true, decide_true, decide_false, Bool.true_eq_false, eq_self, wp_ixR hc, wp_setR hc]
  have hs : smallI b = true := small_lit (by omega) (by omega)
  by_cases ha : 0 < a
  · rw [if_pos ha]
    refine ⟨⟨hm, lg_lit (by omega) hm2⟩, k _ _ (Int.emod_nonneg _ (by omega)) (Int.emod_lt_of_pos _ hm) ⟨a / m, b, set_at hc, hb, hb2⟩ (Apart.set _ _ _)⟩
  · rw [if_neg ha]
    have hc2 : (S.set i (Cell.lst [.int a, .int ((b * 69621 + 40503) % 2147483647)]))[i]? = some (.lst [.int a, .int ((b * 69621 + 40503) % 2147483647)]) := set_at hc
    simp only [R_some, wb_bl, wi_int, wstr_str, wtup_tup, wlst_lst, wref_ref, wp_var0, wp_varS, wp_C, wp_Bin, wp_neg, wp_nil, wp_cons, wp_tup, wp_lst, wp_lstM, wp_Call, wp_And, wp_Or, wp_Not, wp_Test, wp_tAnd, wp_tOr, wp_tNot, wp_If, wp_Chain, wp_Skip, wp_Break, wp_Cont, wp_Never, wp_fNever, wp_Seq, wp_pfl_nx, wp_pfl_rt, wp_pfl_bk, wp_pfl_ct, wp_Expr, wp_Ret, wp_sIf, wp_Asg, wp_N, wp_gNil, wp_gCons, wp_gTup, wp_gSub, wp_Par, wp_two, wp_Run, wp_run_rt, wp_run_nx, wp_bk_nx, wp_bk_ct, wp_bk_bk, wp_bk_rt, wp_r1, wp_r2, wp_add, wp_addL, wp_addS, wp_mul, wp_fdiv, wp_mod, wp_I0, wp_eqI, wp_eqS, wp_eqB, wp_neI, wp_neS, wp_neB, wp_isN, wp_notN, isn_int, isn_non, isn_str, isn_tup, isn_lst, isn_ref, isn_bl, wp_isi, wp_someB, isi_str_str, isi_int_int, isi_int_bl, isi_bool_int, isi_bool_bl, isi_int_non, isi_int_str, isi_tuple_tup, wp_abs, wp_max2, wp_min2, wp_maxT, wp_intI, wp_intB, wp_lenS, wp_lenT, wp_lenL, wp_lenC, wp_divmod, wp_listL, wp_listT, wp_tupL, wp_tupT, wp_KIn, wp_strE, wp_Fld, wp_FldO, wp_Meth, wp_MakeF, wp_someL, wp_iR1, wp_iR2, wp_iLst, wp_iTup, wp_Prop, wp_IsC, wp_DGet1, wp_DIn, wp_gUnl, wp_DictK, wp_rep, wp_MethK, wp_CallK, wp_DispF, wp_DIx, wp_someX, wp_ixL, wp_ixT, wp_ixC, atI0, atI1, atI2, ixN0, ixN1, wp_Sl, wp_oNone, wp_oSome, wp_slC, wp_slL, wp_slS, str_eq, String.reduceEq, in_ring_crowd, in_ring_star, in_ring_pairs, in_ring_row, in_ring_ring, in_ring_core, in_ring_linked, in_ring_odd_ring, in_ring_even_ring, Bool.or_self, Bool.and_self, wp_Lc, wp_Yes, wp_pow10_9, wp_pow10_18, wp_pow10_40, wp_For, wp_sFld, wp_last, set_last, wp_KIx, wp_inT, wp_inL, eqF_str, flat_str, flat_int, flat_non, List.any_cons, List.any_nil, List.all_cons, List.all_nil, Bool.and_true, Bool.or_false, Bool.true_and, Bool.false_and, Bool.and_false, Bool.false_or, Bool.or_true, Bool.true_or, Bool.not_not, List.map_cons, List.map_nil, List.length_cons, List.length_nil, List.cons_append, List.nil_append, List.append_nil, List.set_cons_zero, List.set_cons_succ, List.replicate_succ, List.replicate_zero, Nat.reduceSub, Nat.reduceAdd, Nat.reduceLeDiff, Nat.zero_add, Nat.sub_self, decide_eq_true_eq, Bool.not_eq_true', Bool.not_eq_eq_eq_not, Bool.not_true, Bool.not_false, decide_eq_false_iff_not, if_true, if_false, reduceIte, Bool.false_eq_true, true_and, and_true, decide_true, decide_false, Bool.true_eq_false, eq_self, wp_ixR hc2]
    refine ⟨⟨hs, small_lit (by decide) (by decide)⟩, by decide, ⟨by decide, lg_lit (by decide) (by decide)⟩, hm, ?_⟩
    exact k _ _ (Int.emod_nonneg _ (by omega)) (Int.emod_lt_of_pos _ hm) ⟨a, _, hc2, Int.emod_nonneg _ (by decide), Int.emod_lt_of_pos _ (by decide)⟩ (Apart.set _ _ _)
theorem r_purse (ns : List Int) (hns : ns.length ≤ 63) (k : Int) (h0 : 0 ≤ k) (hk : k ≤ 1000) (S : Sto) {P : D → Sto → Prop} (hP : ∀ S', S'.length = S.length + 1 → Prs S' S.length → (∀ j, j < S.length → S'[j]? = S[j]?) → P (.ref S.length) S') : R (w__law_purse [.scr ns, .int k] S) P := by
  have hcell : ∀ Q : D → Sto → Prop, (∀ z, Q (.int z) S) → R ((fIf (fTest (fBin gLt (fVar 1) (fCall cLen (fCons (fVar 0) fNil)))) (fBin gIx (fVar 0) (fVar 1)) (fBin gMul (fC (.int 7919)) (fBin gAdd (fVar 1) (fC (.int 5))))) [some (.scr ns), some (.int k), none, none, none] S) Q := by
    intro Q hQ
    simp only [R_some, wb_bl, wi_int, wstr_str, wtup_tup, wlst_lst, wref_ref, wp_var0, wp_varS, wp_C, wp_Bin, wp_neg, wp_nil, wp_cons, wp_tup, wp_lst, wp_lstM, wp_Call, wp_And, wp_Or, wp_Not, wp_Test, wp_tAnd, wp_tOr, wp_tNot, wp_If, wp_Chain, wp_Skip, wp_Break, wp_Cont, wp_Never, wp_fNever, wp_Seq, wp_pfl_nx, wp_pfl_rt, wp_pfl_bk, wp_pfl_ct, wp_Expr, wp_Ret, wp_sIf, wp_Asg, wp_N, wp_gNil, wp_gCons, wp_gTup, wp_gSub, wp_Par, wp_two, wp_Run, wp_run_rt, wp_run_nx, wp_bk_nx, wp_bk_ct, wp_bk_bk, wp_bk_rt, wp_r1, wp_r2, wp_add, wp_addL, wp_addS, wp_mul, wp_fdiv, wp_mod, wp_I0, wp_eqI, wp_eqS, wp_eqB, wp_neI, wp_neS, wp_neB, wp_isN, wp_notN, isn_int, isn_non, isn_str, isn_tup, isn_lst, isn_ref, isn_bl, wp_isi, wp_someB, isi_str_str, isi_int_int, isi_int_bl, isi_bool_int, isi_bool_bl, isi_int_non, isi_int_str, isi_tuple_tup, wp_abs, wp_max2, wp_min2, wp_maxT, wp_intI, wp_intB, wp_lenS, wp_lenT, wp_lenL, wp_lenC, wp_divmod, wp_listL, wp_listT, wp_tupL, wp_tupT, wp_KIn, wp_strE, wp_Fld, wp_FldO, wp_Meth, wp_MakeF, wp_someL, wp_iR1, wp_iR2, wp_iLst, wp_iTup, wp_Prop, wp_IsC, wp_DGet1, wp_DIn, wp_gUnl, wp_DictK, wp_rep, wp_MethK, wp_CallK, wp_DispF, wp_DIx, wp_someX, wp_ixL, wp_ixT, wp_ixC, atI0, atI1, atI2, ixN0, ixN1, wp_Sl, wp_oNone, wp_oSome, wp_slC, wp_slL, wp_slS, str_eq, String.reduceEq, in_ring_crowd, in_ring_star, in_ring_pairs, in_ring_row, in_ring_ring, in_ring_core, in_ring_linked, in_ring_odd_ring, in_ring_even_ring, Bool.or_self, Bool.and_self, wp_Lc, wp_Yes, wp_pow10_9, wp_pow10_18, wp_pow10_40, wp_For, wp_sFld, wp_last, set_last, wp_KIx, wp_inT, wp_inL, eqF_str, flat_str, flat_int, flat_non, List.any_cons, List.any_nil, List.all_cons, List.all_nil, Bool.and_true, Bool.or_false, Bool.true_and, Bool.false_and, Bool.and_false, Bool.false_or, Bool.or_true, Bool.true_or, Bool.not_not, List.map_cons, List.map_nil, List.length_cons, List.length_nil, List.cons_append, List.nil_append, List.append_nil, List.set_cons_zero, List.set_cons_succ, List.replicate_succ, List.replicate_zero, Nat.reduceSub, Nat.reduceAdd, Nat.reduceLeDiff, Nat.zero_add, Nat.sub_self, decide_eq_true_eq, Bool.not_eq_true', Bool.not_eq_eq_eq_not, Bool.not_true, Bool.not_false, decide_eq_false_iff_not, if_true, if_false, reduceIte, Bool.false_eq_true, true_and, and_true, decide_true, decide_false, Bool.true_eq_false, eq_self]
    split
    · rename_i hk
      obtain ⟨x, hx, _⟩ := atI_in (xs := ns) h0 hk
      exact ⟨x, hx, hQ x⟩
    · exact ⟨⟨small_lit (by decide) (by decide), small_lit (by omega) (by omega)⟩, hQ _⟩
  unfold w__law_purse d__law_purse b__law_purse
  simp only [R_some, wb_bl, wi_int, wstr_str, wtup_tup, wlst_lst, wref_ref, wp_var0, wp_varS, wp_C, wp_Bin, wp_neg, wp_nil, wp_cons, wp_tup, wp_lst, wp_lstM, wp_Call, wp_And, wp_Or, wp_Not, wp_Test, wp_tAnd, wp_tOr, wp_tNot, wp_Chain, wp_Skip, wp_Break, wp_Cont, wp_Never, wp_fNever, wp_Seq, wp_pfl_nx, wp_pfl_rt, wp_pfl_bk, wp_pfl_ct, wp_Expr, wp_Ret, wp_sIf, wp_Asg, wp_N, wp_gNil, wp_gCons, wp_gTup, wp_gSub, wp_Par, wp_two, wp_Run, wp_run_rt, wp_run_nx, wp_bk_nx, wp_bk_ct, wp_bk_bk, wp_bk_rt, wp_r1, wp_r2, wp_add, wp_addL, wp_addS, wp_mul, wp_fdiv, wp_mod, wp_I0, wp_eqI, wp_eqS, wp_eqB, wp_neI, wp_neS, wp_neB, wp_isN, wp_notN, isn_int, isn_non, isn_str, isn_tup, isn_lst, isn_ref, isn_bl, wp_isi, wp_someB, isi_str_str, isi_int_int, isi_int_bl, isi_bool_int, isi_bool_bl, isi_int_non, isi_int_str, isi_tuple_tup, wp_abs, wp_max2, wp_min2, wp_maxT, wp_intI, wp_intB, wp_lenS, wp_lenT, wp_lenL, wp_lenC, wp_divmod, wp_listL, wp_listT, wp_tupL, wp_tupT, wp_KIn, wp_strE, wp_Fld, wp_FldO, wp_Meth, wp_MakeF, wp_someL, wp_iR1, wp_iR2, wp_iLst, wp_iTup, wp_Prop, wp_IsC, wp_DGet1, wp_DIn, wp_gUnl, wp_DictK, wp_rep, wp_MethK, wp_CallK, wp_DispF, wp_DIx, wp_someX, wp_ixL, wp_ixT, wp_ixC, atI0, atI1, atI2, ixN0, ixN1, wp_Sl, wp_oNone, wp_oSome, wp_slC, wp_slL, wp_slS, str_eq, String.reduceEq, in_ring_crowd, in_ring_star, in_ring_pairs, in_ring_row, in_ring_ring, in_ring_core, in_ring_linked, in_ring_odd_ring, in_ring_even_ring, Bool.or_self, Bool.and_self, wp_Lc, wp_Yes, wp_pow10_9, wp_pow10_18, wp_pow10_40, wp_sFld, wp_last, set_last, wp_KIx, wp_inT, wp_inL, eqF_str, flat_str, flat_int, flat_non, List.any_cons, List.any_nil, List.all_cons, List.all_nil, Bool.and_true, Bool.or_false, Bool.true_and, Bool.false_and, Bool.and_false, Bool.false_or, Bool.or_true, Bool.true_or, Bool.not_not, List.map_cons, List.map_nil, List.length_cons, List.length_nil, List.cons_append, List.nil_append, List.append_nil, List.set_cons_zero, List.set_cons_succ, List.replicate_succ, List.replicate_zero, Nat.reduceSub, Nat.reduceAdd, Nat.reduceLeDiff, Nat.zero_add, Nat.sub_self, decide_eq_true_eq, Bool.not_eq_true', Bool.not_eq_eq_eq_not, Bool.not_true, Bool.not_false, decide_eq_false_iff_not, if_true, if_false, reduceIte, Bool.false_eq_true, true_and, and_true, decide_true, decide_false, Bool.true_eq_false, eq_self]
  refine hcell _ fun z => ?_
  refine r_forM (S1 := S) (items := (cutD ns none (some 5)).map D.int ++ [D.int z]) ?_ (fun env S2 => S2 = S ∧ ∃ (b : Int) (e : Option D), env = [some (.scr ns), some (.int k), some (.int z), some (.int b), e] ∧ 0 ≤ b ∧ b < 2147483647) ⟨rfl, _, _, rfl, by omega, by omega⟩ ?_ ?_
  · rw [← R_eq]
    simp only [R_some, wb_bl, wi_int, wstr_str, wtup_tup, wlst_lst, wref_ref, wp_var0, wp_varS, wp_C, wp_Bin, wp_neg, wp_nil, wp_cons, wp_tup, wp_lst, wp_lstM, wp_Call, wp_And, wp_Or, wp_Not, wp_Test, wp_tAnd, wp_tOr, wp_tNot, wp_If, wp_Chain, wp_Skip, wp_Break, wp_Cont, wp_Never, wp_fNever, wp_Seq, wp_pfl_nx, wp_pfl_rt, wp_pfl_bk, wp_pfl_ct, wp_Expr, wp_Ret, wp_sIf, wp_Asg, wp_N, wp_gNil, wp_gCons, wp_gTup, wp_gSub, wp_Par, wp_two, wp_Run, wp_run_rt, wp_run_nx, wp_bk_nx, wp_bk_ct, wp_bk_bk, wp_bk_rt, wp_r1, wp_r2, wp_add, wp_addL, wp_addS, wp_mul, wp_fdiv, wp_mod, wp_I0, wp_eqI, wp_eqS, wp_eqB, wp_neI, wp_neS, wp_neB, wp_isN, wp_notN, isn_int, isn_non, isn_str, isn_tup, isn_lst, isn_ref, isn_bl, wp_isi, wp_someB, isi_str_str, isi_int_int, isi_int_bl, isi_bool_int, isi_bool_bl, isi_int_non, isi_int_str, isi_tuple_tup, wp_abs, wp_max2, wp_min2, wp_maxT, wp_intI, wp_intB, wp_lenS, wp_lenT, wp_lenL, wp_lenC, wp_divmod, wp_listL, wp_listT, wp_tupL, wp_tupT, wp_KIn, wp_strE, wp_Fld, wp_FldO, wp_Meth, wp_MakeF, wp_someL, wp_iR1, wp_iR2, wp_iLst, wp_iTup, wp_Prop, wp_IsC, wp_DGet1, wp_DIn, wp_gUnl, wp_DictK, wp_rep, wp_MethK, wp_CallK, wp_DispF, wp_DIx, wp_someX, wp_ixL, wp_ixT, wp_ixC, atI0, atI1, atI2, ixN0, ixN1, wp_Sl, wp_oNone, wp_oSome, wp_slC, wp_slL, wp_slS, str_eq, String.reduceEq, in_ring_crowd, in_ring_star, in_ring_pairs, in_ring_row, in_ring_ring, in_ring_core, in_ring_linked, in_ring_odd_ring, in_ring_even_ring, Bool.or_self, Bool.and_self, wp_Lc, wp_Yes, wp_pow10_9, wp_pow10_18, wp_pow10_40, wp_For, wp_sFld, wp_last, set_last, wp_KIx, wp_inT, wp_inL, eqF_str, flat_str, flat_int, flat_non, List.any_cons, List.any_nil, List.all_cons, List.all_nil, Bool.and_true, Bool.or_false, Bool.true_and, Bool.false_and, Bool.and_false, Bool.false_or, Bool.or_true, Bool.true_or, Bool.not_not, List.map_cons, List.map_nil, List.length_cons, List.length_nil, List.cons_append, List.nil_append, List.append_nil, List.set_cons_zero, List.set_cons_succ, List.replicate_succ, List.replicate_zero, Nat.reduceSub, Nat.reduceAdd, Nat.reduceLeDiff, Nat.zero_add, Nat.sub_self, decide_eq_true_eq, Bool.not_eq_true', Bool.not_eq_eq_eq_not, Bool.not_true, Bool.not_false, decide_eq_false_iff_not, if_true, if_false, reduceIte, Bool.false_eq_true, true_and, and_true, decide_true, decide_false, Bool.true_eq_false, eq_self]
    rw [List.length_map]
    unfold DL.cutD
    rw [List.length_take, List.length_drop]
    omega
  · rintro d hd env S2 ⟨rfl, b, e, rfl, hb, hb2⟩
    have hz : ∃ y, d = .int y := by
      rcases List.mem_append.mp hd with q | q
      · obtain ⟨y, _, rfl⟩ := List.mem_map.mp q
        exact ⟨y, rfl⟩
      · exact ⟨z, by simpa using q⟩
    obtain ⟨y, rfl⟩ := hz
    simp only [R_some, wb_bl, wi_int, wstr_str, wtup_tup, wlst_lst, wref_ref, wp_var0, wp_varS, wp_C, wp_Bin, wp_neg, wp_nil, wp_cons, wp_tup, wp_lst, wp_lstM, wp_Call, wp_And, wp_Or, wp_Not, wp_Test, wp_tAnd, wp_tOr, wp_tNot, wp_If, wp_Chain, wp_Skip, wp_Break, wp_Cont, wp_Never, wp_fNever, wp_Seq, wp_pfl_nx, wp_pfl_rt, wp_pfl_bk, wp_pfl_ct, wp_Expr, wp_Ret, wp_sIf, wp_Asg, wp_N, wp_gNil, wp_gCons, wp_gTup, wp_gSub, wp_Par, wp_two, wp_Run, wp_run_rt, wp_run_nx, wp_bk_nx, wp_bk_ct, wp_bk_bk, wp_bk_rt, wp_r1, wp_r2, wp_add, wp_addL, wp_addS, wp_mul, wp_fdiv, wp_mod, wp_I0, wp_eqI, wp_eqS, wp_eqB, wp_neI, wp_neS, wp_neB, wp_isN, wp_notN, isn_int, isn_non, isn_str, isn_tup, isn_lst, isn_ref, isn_bl, wp_isi, wp_someB, isi_str_str, isi_int_int, isi_int_bl, isi_bool_int, isi_bool_bl, isi_int_non, isi_int_str, isi_tuple_tup, wp_abs, wp_max2, wp_min2, wp_maxT, wp_intI, wp_intB, wp_lenS, wp_lenT, wp_lenL, wp_lenC, wp_divmod, wp_listL, wp_listT, wp_tupL, wp_tupT, wp_KIn, wp_strE, wp_Fld, wp_FldO, wp_Meth, wp_MakeF, wp_someL, wp_iR1, wp_iR2, wp_iLst, wp_iTup, wp_Prop, wp_IsC, wp_DGet1, wp_DIn, wp_gUnl, wp_DictK, wp_rep, wp_MethK, wp_CallK, wp_DispF, wp_DIx, wp_someX, wp_ixL, wp_ixT, wp_ixC, atI0, atI1, atI2, ixN0, ixN1, wp_Sl, wp_oNone, wp_oSome, wp_slC, wp_slL, wp_slS, str_eq, String.reduceEq, in_ring_crowd, in_ring_star, in_ring_pairs, in_ring_row, in_ring_ring, in_ring_core, in_ring_linked, in_ring_odd_ring, in_ring_even_ring, Bool.or_self, Bool.and_self, wp_Lc, wp_Yes, wp_pow10_9, wp_pow10_18, wp_pow10_40, wp_For, wp_sFld, wp_last, set_last, wp_KIx, wp_inT, wp_inL, eqF_str, flat_str, flat_int, flat_non, List.any_cons, List.any_nil, List.all_cons, List.all_nil, Bool.and_true, Bool.or_false, Bool.true_and, Bool.false_and, Bool.and_false, Bool.false_or, Bool.or_true, Bool.true_or, Bool.not_not, List.map_cons, List.map_nil, List.length_cons, List.length_nil, List.cons_append, List.nil_append, List.append_nil, List.set_cons_zero, List.set_cons_succ, List.replicate_succ, List.replicate_zero, Nat.reduceSub, Nat.reduceAdd, Nat.reduceLeDiff, Nat.zero_add, Nat.sub_self, decide_eq_true_eq, Bool.not_eq_true', Bool.not_eq_eq_eq_not, Bool.not_true, Bool.not_false, decide_eq_false_iff_not, if_true, if_false, reduceIte, Bool.false_eq_true, true_and, and_true, decide_true, decide_false, Bool.true_eq_false, eq_self]
    refine ⟨⟨small_lit (by omega) (by omega), small_lit (by decide) (by decide)⟩, by decide, by decide, ⟨_, _, rfl, Int.emod_nonneg _ (by decide), Int.emod_lt_of_pos _ (by decide)⟩⟩
  · rintro env S2 ⟨rfl, b, e, rfl, hb, hb2⟩
    simp only [R_some, wb_bl, wi_int, wstr_str, wtup_tup, wlst_lst, wref_ref, wp_var0, wp_varS, wp_C, wp_Bin, wp_neg, wp_nil, wp_cons, wp_tup, wp_lst, wp_lstM, wp_Call, wp_And, wp_Or, wp_Not, wp_Test, wp_tAnd, wp_tOr, wp_tNot, wp_If, wp_Chain, wp_Skip, wp_Break, wp_Cont, wp_Never, wp_fNever, wp_Seq, wp_pfl_nx, wp_pfl_rt, wp_pfl_bk, wp_pfl_ct, wp_Expr, wp_Ret, wp_sIf, wp_Asg, wp_N, wp_gNil, wp_gCons, wp_gTup, wp_gSub, wp_Par, wp_two, wp_Run, wp_run_rt, wp_run_nx, wp_bk_nx, wp_bk_ct, wp_bk_bk, wp_bk_rt, wp_r1, wp_r2, wp_add, wp_addL, wp_addS, wp_mul, wp_fdiv, wp_mod, wp_I0, wp_eqI, wp_eqS, wp_eqB, wp_neI, wp_neS, wp_neB, wp_isN, wp_notN, isn_int, isn_non, isn_str, isn_tup, isn_lst, isn_ref, isn_bl, wp_isi, wp_someB, isi_str_str, isi_int_int, isi_int_bl, isi_bool_int, isi_bool_bl, isi_int_non, isi_int_str, isi_tuple_tup, wp_abs, wp_max2, wp_min2, wp_maxT, wp_intI, wp_intB, wp_lenS, wp_lenT, wp_lenL, wp_lenC, wp_divmod, wp_listL, wp_listT, wp_tupL, wp_tupT, wp_KIn, wp_strE, wp_Fld, wp_FldO, wp_Meth, wp_MakeF, wp_someL, wp_iR1, wp_iR2, wp_iLst, wp_iTup, wp_Prop, wp_IsC, wp_DGet1, wp_DIn, wp_gUnl, wp_DictK, wp_rep, wp_MethK, wp_CallK, wp_DispF, wp_DIx, wp_someX, wp_ixL, wp_ixT, wp_ixC, atI0, atI1, atI2, ixN0, ixN1, wp_Sl, wp_oNone, wp_oSome, wp_slC, wp_slL, wp_slS, str_eq, String.reduceEq, in_ring_crowd, in_ring_star, in_ring_pairs, in_ring_row, in_ring_ring, in_ring_core, in_ring_linked, in_ring_odd_ring, in_ring_even_ring, Bool.or_self, Bool.and_self, wp_Lc, wp_Yes, wp_pow10_9, wp_pow10_18, wp_pow10_40, wp_For, wp_sFld, wp_last, set_last, wp_KIx, wp_inT, wp_inL, eqF_str, flat_str, flat_int, flat_non, List.any_cons, List.any_nil, List.all_cons, List.all_nil, Bool.and_true, Bool.or_false, Bool.true_and, Bool.false_and, Bool.and_false, Bool.false_or, Bool.or_true, Bool.true_or, Bool.not_not, List.map_cons, List.map_nil, List.length_cons, List.length_nil, List.cons_append, List.nil_append, List.append_nil, List.set_cons_zero, List.set_cons_succ, List.replicate_succ, List.replicate_zero, Nat.reduceSub, Nat.reduceAdd, Nat.reduceLeDiff, Nat.zero_add, Nat.sub_self, decide_eq_true_eq, Bool.not_eq_true', Bool.not_eq_eq_eq_not, Bool.not_true, Bool.not_false, decide_eq_false_iff_not, if_true, if_false, reduceIte, Bool.false_eq_true, true_and, and_true, decide_true, decide_false, Bool.true_eq_false, eq_self]
    have q : ∀ a : Int, P (.ref S2.length) (S2 ++ [.lst [.int a, .int b]]) := fun a => hP _ (by simp) ⟨a, b, by simp, hb, hb2⟩ fun j hj => by rw [List.getElem?_append_left hj]
    repeat' split
    all_goals exact q _
theorem r_all (ns : List Int) (hns : ns.length ≤ 63) {env : DEnv} (h0 : env[0]? = some (some (.scr ns))) (hlen : env.length = 2) {S : Sto} {P : D → Sto → Prop} {fi : FA} {m : Int} (hm0 : 0 ≤ m) (hm : m ≤ 1000) (hi : ∀ S, fi env S = some (rangeD 0 m, S)) (hr : ∀ S i, Prs S i → R (w__law_right [.ref i] S) fun d _ => d = .bl true) (hP : ∀ S, P (.bl true) S) :
    R (fCall cAll (fCons (fLc fi (gN 1) tYesD (fCall w__law_right (fCons (fCall w__law_purse (fCons (fVar 0) (fCons (fVar 1) fNil))) fNil)) [1]) fNil) env S) P := by
  match env, hlen, h0 with
  | [e0, e1], _, h0 =>
    have h0 : e0 = some (.scr ns) := by simpa using h0
    subst h0
    simp only [R_some, wb_bl, wi_int, wstr_str, wtup_tup, wlst_lst, wref_ref, wp_var0, wp_varS, wp_C, wp_Bin, wp_neg, wp_nil, wp_cons, wp_tup, wp_lst, wp_lstM, wp_Call, wp_And, wp_Or, wp_Not, wp_Test, wp_tAnd, wp_tOr, wp_tNot, wp_If, wp_Chain, wp_Skip, wp_Break, wp_Cont, wp_Never, wp_fNever, wp_Seq, wp_pfl_nx, wp_pfl_rt, wp_pfl_bk, wp_pfl_ct, wp_Expr, wp_Ret, wp_sIf, wp_Asg, wp_N, wp_gNil, wp_gCons, wp_gTup, wp_gSub, wp_Par, wp_two, wp_Run, wp_run_rt, wp_run_nx, wp_bk_nx, wp_bk_ct, wp_bk_bk, wp_bk_rt, wp_r1, wp_r2, wp_add, wp_addL, wp_addS, wp_mul, wp_fdiv, wp_mod, wp_I0, wp_eqI, wp_eqS, wp_eqB, wp_neI, wp_neS, wp_neB, wp_isN, wp_notN, isn_int, isn_non, isn_str, isn_tup, isn_lst, isn_ref, isn_bl, wp_isi, wp_someB, isi_str_str, isi_int_int, isi_int_bl, isi_bool_int, isi_bool_bl, isi_int_non, isi_int_str, isi_tuple_tup, wp_abs, wp_max2, wp_min2, wp_maxT, wp_intI, wp_intB, wp_lenS, wp_lenT, wp_lenL, wp_lenC, wp_divmod, wp_listL, wp_listT, wp_tupL, wp_tupT, wp_KIn, wp_strE, wp_Fld, wp_FldO, wp_Meth, wp_MakeF, wp_someL, wp_iR1, wp_iR2, wp_iLst, wp_iTup, wp_Prop, wp_IsC, wp_DGet1, wp_DIn, wp_gUnl, wp_DictK, wp_rep, wp_MethK, wp_CallK, wp_DispF, wp_DIx, wp_someX, wp_ixL, wp_ixT, wp_ixC, atI0, atI1, atI2, ixN0, ixN1, wp_Sl, wp_oNone, wp_oSome, wp_slC, wp_slL, wp_slS, str_eq, String.reduceEq, in_ring_crowd, in_ring_star, in_ring_pairs, in_ring_row, in_ring_ring, in_ring_core, in_ring_linked, in_ring_odd_ring, in_ring_even_ring, Bool.or_self, Bool.and_self, wp_Lc, wp_Yes, wp_pow10_9, wp_pow10_18, wp_pow10_40, wp_For, wp_sFld, wp_last, set_last, wp_KIx, wp_inT, wp_inL, eqF_str, flat_str, flat_int, flat_non, List.any_cons, List.any_nil, List.all_cons, List.all_nil, Bool.and_true, Bool.or_false, Bool.true_and, Bool.false_and, Bool.and_false, Bool.false_or, Bool.or_true, Bool.true_or, Bool.not_not, List.map_cons, List.map_nil, List.length_cons, List.length_nil, List.cons_append, List.nil_append, List.append_nil, List.set_cons_zero, List.set_cons_succ, List.replicate_succ, List.replicate_zero, Nat.reduceSub, Nat.reduceAdd, Nat.reduceLeDiff, Nat.zero_add, Nat.sub_self, decide_eq_true_eq, Bool.not_eq_true', Bool.not_eq_eq_eq_not, Bool.not_true, Bool.not_false, decide_eq_false_iff_not, if_true, if_false, reduceIte, Bool.false_eq_true, true_and, and_true, decide_true, decide_false, Bool.true_eq_false, eq_self]
    refine ⟨_, _, hi S, by rw [len_range]; omega, ?_⟩
    refine (r_lcD (fun d => d = .bl true) (fun _ => True) ?_ trivial).imp fun ds S2 h => eq_R (all_true h.1) |>.mpr (hP _)
    intro d hd S _
    obtain ⟨k, rfl, hk0, hk⟩ := mem_range hd
    simp only [R_some, wb_bl, wi_int, wstr_str, wtup_tup, wlst_lst, wref_ref, wp_var0, wp_varS, wp_C, wp_Bin, wp_neg, wp_nil, wp_cons, wp_tup, wp_lst, wp_lstM, wp_Call, wp_And, wp_Or, wp_Not, wp_Test, wp_tAnd, wp_tOr, wp_tNot, wp_If, wp_Chain, wp_Skip, wp_Break, wp_Cont, wp_Never, wp_fNever, wp_Seq, wp_pfl_nx, wp_pfl_rt, wp_pfl_bk, wp_pfl_ct, wp_Expr, wp_Ret, wp_sIf, wp_Asg, wp_N, wp_gNil, wp_gCons, wp_gTup, wp_gSub, wp_Par, wp_two, wp_Run, wp_run_rt, wp_run_nx, wp_bk_nx, wp_bk_ct, wp_bk_bk, wp_bk_rt, wp_r1, wp_r2, wp_add, wp_addL, wp_addS, wp_mul, wp_fdiv, wp_mod, wp_I0, wp_eqI, wp_eqS, wp_eqB, wp_neI, wp_neS, wp_neB, wp_isN, wp_notN, isn_int, isn_non, isn_str, isn_tup, isn_lst, isn_ref, isn_bl, wp_isi, wp_someB, isi_str_str, isi_int_int, isi_int_bl, isi_bool_int, isi_bool_bl, isi_int_non, isi_int_str, isi_tuple_tup, wp_abs, wp_max2, wp_min2, wp_maxT, wp_intI, wp_intB, wp_lenS, wp_lenT, wp_lenL, wp_lenC, wp_divmod, wp_listL, wp_listT, wp_tupL, wp_tupT, wp_KIn, wp_strE, wp_Fld, wp_FldO, wp_Meth, wp_MakeF, wp_someL, wp_iR1, wp_iR2, wp_iLst, wp_iTup, wp_Prop, wp_IsC, wp_DGet1, wp_DIn, wp_gUnl, wp_DictK, wp_rep, wp_MethK, wp_CallK, wp_DispF, wp_DIx, wp_someX, wp_ixL, wp_ixT, wp_ixC, atI0, atI1, atI2, ixN0, ixN1, wp_Sl, wp_oNone, wp_oSome, wp_slC, wp_slL, wp_slS, str_eq, String.reduceEq, in_ring_crowd, in_ring_star, in_ring_pairs, in_ring_row, in_ring_ring, in_ring_core, in_ring_linked, in_ring_odd_ring, in_ring_even_ring, Bool.or_self, Bool.and_self, wp_Lc, wp_Yes, wp_pow10_9, wp_pow10_18, wp_pow10_40, wp_For, wp_sFld, wp_last, set_last, wp_KIx, wp_inT, wp_inL, eqF_str, flat_str, flat_int, flat_non, List.any_cons, List.any_nil, List.all_cons, List.all_nil, Bool.and_true, Bool.or_false, Bool.true_and, Bool.false_and, Bool.and_false, Bool.false_or, Bool.or_true, Bool.true_or, Bool.not_not, List.map_cons, List.map_nil, List.length_cons, List.length_nil, List.cons_append, List.nil_append, List.append_nil, List.set_cons_zero, List.set_cons_succ, List.replicate_succ, List.replicate_zero, Nat.reduceSub, Nat.reduceAdd, Nat.reduceLeDiff, Nat.zero_add, Nat.sub_self, decide_eq_true_eq, Bool.not_eq_true', Bool.not_eq_eq_eq_not, Bool.not_true, Bool.not_false, decide_eq_false_iff_not, if_true, if_false, reduceIte, Bool.false_eq_true, true_and, and_true, decide_true, decide_false, Bool.true_eq_false, eq_self, wipeD]
    refine r_purse ns hns k hk0 (by omega) S fun S' h1 h2 _ => (hr _ _ h2).imp fun d S3 h => h
theorem max_range (ns : List Int) (h : ns.length ≤ 63) (env : DEnv) (h0 : env[0]? = some (some (.scr ns))) {m4 : Int} (hm4 : 2 ≤ m4 ∧ m4 ≤ 100) : ∃ m, 0 ≤ m ∧ m ≤ 1000 ∧ ∀ S, (iRange1 (fCons (fCall cMax2 (fCons (fC (.int 2)) (fCons (fCall cMin2 (fCons (fCall cLen (fCons (fVar 0) fNil)) (fCons (fC (.int m4)) fNil))) fNil))) fNil)) env S = some (rangeD 0 m, S) := by
  match env, h0 with
  | e0 :: r, h0 =>
    have h0 : e0 = some (.scr ns) := by simpa using h0
    subst h0
    have main : ∃ m, 0 ≤ m ∧ m ≤ 1000 ∧ (if (if m4 < (ns.length : Int) then m4 else (ns.length : Int)) > 2 then (if m4 < (ns.length : Int) then m4 else (ns.length : Int)) else 2) = m := by
      refine ⟨_, ?_, ?_, rfl⟩ <;> (repeat' split) <;> omega
    obtain ⟨m, hm0, hm1, e⟩ := main
    refine ⟨m, hm0, hm1, fun S => ?_⟩
    rw [← R_eq]
    simp only [R_some, wb_bl, wi_int, wstr_str, wtup_tup, wlst_lst, wref_ref, wp_var0, wp_varS, wp_C, wp_Bin, wp_neg, wp_nil, wp_cons, wp_tup, wp_lst, wp_lstM, wp_Call, wp_And, wp_Or, wp_Not, wp_Test, wp_tAnd, wp_tOr, wp_tNot, wp_If, wp_Chain, wp_Skip, wp_Break, wp_Cont, wp_Never, wp_fNever, wp_Seq, wp_pfl_nx, wp_pfl_rt, wp_pfl_bk, wp_pfl_ct, wp_Expr, wp_Ret, wp_sIf, wp_Asg, wp_N, wp_gNil, wp_gCons, wp_gTup, wp_gSub, wp_Par, wp_two, wp_Run, wp_run_rt, wp_run_nx, wp_bk_nx, wp_bk_ct, wp_bk_bk, wp_bk_rt, wp_r1, wp_r2, wp_add, wp_addL, wp_addS, wp_mul, wp_fdiv, wp_mod, wp_I0, wp_eqI, wp_eqS, wp_eqB, wp_neI, wp_neS, wp_neB, wp_isN, wp_notN, isn_int, isn_non, isn_str, isn_tup, isn_lst, isn_ref, isn_bl, wp_isi, wp_someB, isi_str_str, isi_int_int, isi_int_bl, isi_bool_int, isi_bool_bl, isi_int_non, isi_int_str, isi_tuple_tup, wp_abs, wp_max2, wp_min2, wp_maxT, wp_intI, wp_intB, wp_lenS, wp_lenT, wp_lenL, wp_lenC, wp_divmod, wp_listL, wp_listT, wp_tupL, wp_tupT, wp_KIn, wp_strE, wp_Fld, wp_FldO, wp_Meth, wp_MakeF, wp_someL, wp_iR1, wp_iR2, wp_iLst, wp_iTup, wp_Prop, wp_IsC, wp_DGet1, wp_DIn, wp_gUnl, wp_DictK, wp_rep, wp_MethK, wp_CallK, wp_DispF, wp_DIx, wp_someX, wp_ixL, wp_ixT, wp_ixC, atI0, atI1, atI2, ixN0, ixN1, wp_Sl, wp_oNone, wp_oSome, wp_slC, wp_slL, wp_slS, str_eq, String.reduceEq, in_ring_crowd, in_ring_star, in_ring_pairs, in_ring_row, in_ring_ring, in_ring_core, in_ring_linked, in_ring_odd_ring, in_ring_even_ring, Bool.or_self, Bool.and_self, wp_Lc, wp_Yes, wp_pow10_9, wp_pow10_18, wp_pow10_40, wp_For, wp_sFld, wp_last, set_last, wp_KIx, wp_inT, wp_inL, eqF_str, flat_str, flat_int, flat_non, List.any_cons, List.any_nil, List.all_cons, List.all_nil, Bool.and_true, Bool.or_false, Bool.true_and, Bool.false_and, Bool.and_false, Bool.false_or, Bool.or_true, Bool.true_or, Bool.not_not, List.map_cons, List.map_nil, List.length_cons, List.length_nil, List.cons_append, List.nil_append, List.append_nil, List.set_cons_zero, List.set_cons_succ, List.replicate_succ, List.replicate_zero, Nat.reduceSub, Nat.reduceAdd, Nat.reduceLeDiff, Nat.zero_add, Nat.sub_self, decide_eq_true_eq, Bool.not_eq_true', Bool.not_eq_eq_eq_not, Bool.not_true, Bool.not_false, decide_eq_false_iff_not, if_true, if_false, reduceIte, Bool.false_eq_true, true_and, and_true, decide_true, decide_false, Bool.true_eq_false, eq_self, e]
    exact okR_of (by omega) (by omega)
end LW

set_option exponentiation.threshold 2000
namespace LW
open PySem PySem.Spec PyProof.Rows L2 DL
/-! ## the most ties, by kinds -/
def two (n : Int) : Int := n * (n - 1) / 2
theorem two_two (n : Int) : 2 * two n = n * (n - 1) := by
  have h : n * (n - 1) % 2 = 0 := by
    rcases (by omega : n % 2 = 0 ∨ n % 2 = 1) with h | h
    · rw [Int.mul_emod, h]; simp
    · rw [Int.mul_emod, show (n - 1) % 2 = 0 by omega]; simp
  unfold two
  omega
theorem bd_lit {n : Int} (h : -100000000000000000000000000000000000000000000 ≤ n) (h2 : n ≤ 100000000000000000000000000000000000000000000) : Bd 150 n := by
  unfold Bd
  have : (2 : Nat) ^ 150 = 1427247692705959881058285969449495136382746624 := by decide
  omega
theorem bd_two {n : Int} (h : Bd 150 n) (h' : Bd 150 (n - 1)) : Bd 301 (two n) := bd_div (bd_mul h h') (by decide)
theorem sm {n : Int} (h : Bd 150 n) : smallI n = true := small_bd h (by decide) (by decide)
theorem sm' {n : Int} (h : Bd 301 n) : smallI n = true := small_bd h (by decide) (by decide)
/-- a whole number of at most 44 figures -/
def Nb (n : Int) : Prop := -10000000000000000000000000000000000000000000 ≤ n ∧ n ≤ 10000000000000000000000000000000000000000000
theorem Nb.bd {n : Int} (h : Nb n) : Bd 150 n := by
  unfold Nb at h
  exact bd_lit (by omega) (by omega)
theorem Nb.sm {n : Int} (h : Nb n) : smallI n = true := LW.sm h.bd
theorem pairs_eq {n : Int} (h : Nb n) (S : Sto) : w_pairs_of [.int n] S = some (.int (two n), S) := by
  rw [← R_eq]
  unfold w_pairs_of d_pairs_of b_pairs_of
  simp only [R_some, wb_bl, wi_int, wstr_str, wtup_tup, wlst_lst, wref_ref, wp_var0, wp_varS, wp_C, wp_Bin, wp_neg, wp_nil, wp_cons, wp_tup, wp_lst, wp_lstM, wp_Call, wp_And, wp_Or, wp_Not, wp_Test, wp_tAnd, wp_tOr, wp_tNot, wp_If, wp_Chain, wp_Skip, wp_Break, wp_Cont, wp_Never, wp_fNever, wp_Seq, wp_pfl_nx, wp_pfl_rt, wp_pfl_bk, wp_pfl_ct, wp_Expr, wp_Ret, wp_sIf, wp_Asg, wp_N, wp_gNil, wp_gCons, wp_gTup, wp_gSub, wp_Par, wp_two, wp_Run, wp_run_rt, wp_run_nx, wp_bk_nx, wp_bk_ct, wp_bk_bk, wp_bk_rt, wp_r1, wp_r2, wp_add, wp_addL, wp_addS, wp_mul, wp_fdiv, wp_mod, wp_I0, wp_eqI, wp_eqS, wp_eqB, wp_neI, wp_neS, wp_neB, wp_isN, wp_notN, isn_int, isn_non, isn_str, isn_tup, isn_lst, isn_ref, isn_bl, wp_isi, wp_someB, isi_str_str, isi_int_int, isi_int_bl, isi_bool_int, isi_bool_bl, isi_int_non, isi_int_str, isi_tuple_tup, wp_abs, wp_max2, wp_min2, wp_maxT, wp_intI, wp_intB, wp_lenS, wp_lenT, wp_lenL, wp_lenC, wp_divmod, wp_listL, wp_listT, wp_tupL, wp_tupT, wp_KIn, wp_strE, wp_Fld, wp_FldO, wp_Meth, wp_MakeF, wp_someL, wp_iR1, wp_iR2, wp_iLst, wp_iTup, wp_Prop, wp_IsC, wp_DGet1, wp_DIn, wp_gUnl, wp_DictK, wp_rep, wp_MethK, wp_CallK, wp_DispF, wp_DIx, wp_someX, wp_ixL, wp_ixT, wp_ixC, atI0, atI1, atI2, ixN0, ixN1, wp_Sl, wp_oNone, wp_oSome, wp_slC, wp_slL, wp_slS, str_eq, String.reduceEq, in_ring_crowd, in_ring_star, in_ring_pairs, in_ring_row, in_ring_ring, in_ring_core, in_ring_linked, in_ring_odd_ring, in_ring_even_ring, Bool.or_self, Bool.and_self, wp_Lc, wp_Yes, wp_pow10_9, wp_pow10_18, wp_pow10_40, wp_For, wp_sFld, wp_last, set_last, wp_KIx, wp_inT, wp_inL, eqF_str, flat_str, flat_int, flat_non, List.any_cons, List.any_nil, List.all_cons, List.all_nil, Bool.and_true, Bool.or_false, Bool.true_and, Bool.false_and, Bool.and_false, Bool.false_or, Bool.or_true, Bool.true_or, Bool.not_not, List.map_cons, List.map_nil, List.length_cons, List.length_nil, List.cons_append, List.nil_append, List.append_nil, List.set_cons_zero, List.set_cons_succ, List.replicate_succ, List.replicate_zero, Nat.reduceSub, Nat.reduceAdd, Nat.reduceLeDiff, Nat.zero_add, Nat.sub_self, decide_eq_true_eq, Bool.not_eq_true', Bool.not_eq_eq_eq_not, Bool.not_true, Bool.not_false, decide_eq_false_iff_not, if_true, if_false, reduceIte, Bool.false_eq_true, true_and, and_true, decide_true, decide_false, Bool.true_eq_false, eq_self]
  exact ⟨⟨h.sm, sm (by unfold Nb at h; exact bd_lit (by omega) (by omega))⟩, ⟨by decide, lg_lit (by decide) (by decide)⟩, rfl⟩
theorem two_sm {n : Int} (h : Nb n) : smallI (two n) = true := sm' (bd_two h.bd (by unfold Nb at h; exact bd_lit (by omega) (by omega)))
/-- people, a number of a thing -/
def Pe (n : Int) : Prop := 0 ≤ n ∧ n ≤ 10000000000000000000000000000000000000000
theorem div_le {n j : Int} (h : 0 ≤ n) (hj : 0 < j) : 0 ≤ n / j ∧ n / j ≤ n := ⟨Int.ediv_nonneg h (by omega), Int.ediv_le_self _ h⟩
theorem mod_le {n j : Int} (h : 0 ≤ n) (hj : 0 < j) : 0 ≤ n % j ∧ n % j < j ∧ n % j ≤ n := ⟨Int.emod_nonneg _ (by omega), Int.emod_lt_of_pos _ hj, (by
  have h1 := Int.mul_ediv_add_emod n j
  have h2 := Int.mul_nonneg (show 0 ≤ j by omega) (Int.ediv_nonneg h (show 0 ≤ j by omega))
  omega)⟩
theorem lgk {n : Int} (h : 0 ≤ n) (h2 : n ≤ 10000000000000000000000000000000000000000) : lgI n := lg_lit h (by omega)
theorem check_eq {n m : Int} (h0 : 0 ≤ n) (hm : n ≤ m) (S : Sto) : w_check_people [.int n, .int m] S = some (.non, S) := by
  rw [← R_eq]
  unfold w_check_people d_check_people b_check_people
  simp only [R_some, wb_bl, wi_int, wstr_str, wtup_tup, wlst_lst, wref_ref, wp_var0, wp_varS, wp_C, wp_Bin, wp_neg, wp_nil, wp_cons, wp_tup, wp_lst, wp_lstM, wp_Call, wp_And, wp_Or, wp_Not, wp_Test, wp_tAnd, wp_tOr, wp_tNot, wp_If, wp_Chain, wp_Skip, wp_Break, wp_Cont, wp_Never, wp_fNever, wp_Seq, wp_pfl_nx, wp_pfl_rt, wp_pfl_bk, wp_pfl_ct, wp_Expr, wp_Ret, wp_sIf, wp_Asg, wp_N, wp_gNil, wp_gCons, wp_gTup, wp_gSub, wp_Par, wp_two, wp_Run, wp_run_rt, wp_run_nx, wp_bk_nx, wp_bk_ct, wp_bk_bk, wp_bk_rt, wp_r1, wp_r2, wp_add, wp_addL, wp_addS, wp_mul, wp_fdiv, wp_mod, wp_I0, wp_eqI, wp_eqS, wp_eqB, wp_neI, wp_neS, wp_neB, wp_isN, wp_notN, isn_int, isn_non, isn_str, isn_tup, isn_lst, isn_ref, isn_bl, wp_isi, wp_someB, isi_str_str, isi_int_int, isi_int_bl, isi_bool_int, isi_bool_bl, isi_int_non, isi_int_str, isi_tuple_tup, wp_abs, wp_max2, wp_min2, wp_maxT, wp_intI, wp_intB, wp_lenS, wp_lenT, wp_lenL, wp_lenC, wp_divmod, wp_listL, wp_listT, wp_tupL, wp_tupT, wp_KIn, wp_strE, wp_Fld, wp_FldO, wp_Meth, wp_MakeF, wp_someL, wp_iR1, wp_iR2, wp_iLst, wp_iTup, wp_Prop, wp_IsC, wp_DGet1, wp_DIn, wp_gUnl, wp_DictK, wp_rep, wp_MethK, wp_CallK, wp_DispF, wp_DIx, wp_someX, wp_ixL, wp_ixT, wp_ixC, atI0, atI1, atI2, ixN0, ixN1, wp_Sl, wp_oNone, wp_oSome, wp_slC, wp_slL, wp_slS, str_eq, String.reduceEq, in_ring_crowd, in_ring_star, in_ring_pairs, in_ring_row, in_ring_ring, in_ring_core, in_ring_linked, in_ring_odd_ring, in_ring_even_ring, Bool.or_self, Bool.and_self, wp_Lc, wp_Yes, wp_pow10_9, wp_pow10_18, wp_pow10_40, wp_For, wp_sFld, wp_last, set_last, wp_KIx, wp_inT, wp_inL, eqF_str, flat_str, flat_int, flat_non, List.any_cons, List.any_nil, List.all_cons, List.all_nil, Bool.and_true, Bool.or_false, Bool.true_and, Bool.false_and, Bool.and_false, Bool.false_or, Bool.or_true, Bool.true_or, Bool.not_not, List.map_cons, List.map_nil, List.length_cons, List.length_nil, List.cons_append, List.nil_append, List.append_nil, List.set_cons_zero, List.set_cons_succ, List.replicate_succ, List.replicate_zero, Nat.reduceSub, Nat.reduceAdd, Nat.reduceLeDiff, Nat.zero_add, Nat.sub_self, decide_eq_true_eq, Bool.not_eq_true', Bool.not_eq_eq_eq_not, Bool.not_true, Bool.not_false, decide_eq_false_iff_not, if_true, if_false, reduceIte, Bool.false_eq_true, true_and, and_true, decide_true, decide_false, Bool.true_eq_false, eq_self, eq_R (isint_int _ _)]
  rw [if_neg (by omega), if_neg (by omega)]
  trivial
/-- a thing as a value -/
abbrev thing (k : Str) (x : D) : D := .obj "Thing" ["word", "many"] [.str k, x]
theorem word_fld {k : Str} {x : D} : getF ["word", "many"] [.str k, x] "word" = some (.str k) := rfl
theorem many_fld {k : Str} {x : D} : getF ["word", "many"] [.str k, x] "many" = some x := by
  show (if ("word" : Str) = "many" then _ else _) = _
  rw [if_neg (by decide +kernel)]
  rfl
theorem mk_num {k : Str} {lo n : Int} (h : tab_LEAST.lookup k = some lo) (h1 : lo ≤ n) (h2 : n ≤ 10000000000000000000000000000000000000000) : mkF_Thing [.str k, .int n] = some [.str k, .int n] := by
  unfold mkF_Thing
  simp only [h]
  rw [if_pos ⟨h1, h2⟩]
theorem mk_odd : mkF_Thing [.str "odd ring", .non] = some [.str "odd ring", .non] := by
  show (if ("odd ring" : Str) = "odd ring" ∨ ("odd ring" : Str) = "even ring" then some [D.str "odd ring", .non] else none) = _
  rw [if_pos (.inl rfl)]
theorem mk_even : mkF_Thing [.str "even ring", .non] = some [.str "even ring", .non] := by
  show (if ("even ring" : Str) = "odd ring" ∨ ("even ring" : Str) = "even ring" then some [D.str "even ring", .non] else none) = _
  rw [if_pos (.inr rfl)]
theorem lk_crowd : tab_LEAST.lookup ("crowd" : Str) = some 2 := by decide +kernel
theorem lk_star : tab_LEAST.lookup ("star" : Str) = some 1 := by decide +kernel
theorem lk_pairs : tab_LEAST.lookup ("pairs" : Str) = some 1 := by decide +kernel
theorem lk_row : tab_LEAST.lookup ("row" : Str) = some 2 := by decide +kernel
theorem lk_ring : tab_LEAST.lookup ("ring" : Str) = some 3 := by decide +kernel
theorem lk_core : tab_LEAST.lookup ("core" : Str) = some 1 := by decide +kernel
theorem lk_linked : tab_LEAST.lookup ("linked" : Str) = some 1 := by decide +kernel
theorem ins_thing {k : Str} {x : D} {S : Sto} {m : Str} {Q : Prop} (h : hasF ["word", "many"] m = false) : ((∃ q, insOf "Thing" (thing k x) S = some q ∧ hasF q.1 m = false) ∧ Q) ↔ Q := by
  refine ⟨fun h => h.2, fun q => ⟨⟨(["word", "many"], [.str k, x]), ?_, h⟩, q⟩⟩
  show (if ("Thing" : Str) = "Thing" then some _ else none) = _
  rw [if_pos rfl]
end LW

set_option exponentiation.threshold 2000
namespace LW
open PySem PySem.Spec PyProof.Rows L2 DL
/-! ## repr of a pair of numbers; drawn numbers of many figures -/
def Big : Int := 10000000000000000000000000000000000000000000000000000000000000000000000000000000000000000000000000000000000
theorem int_shown {i : Int} (h : -Big ≤ i ∧ i ≤ Big) : i.natAbs.log2 < 1920 ∧ (Str.ofString (toString i)).length ≤ 2000000 := by
  have h1 : Bd 400 i := by
    unfold Bd
    have : (2 : Nat) ^ 400 = 2582249878086908589655919172003011874329705792829223512830659356540647622016841194629645353280137831435903171972747493376 := by decide
    unfold Big at h
    omega
  have h2 : i.natAbs.log2 < 400 := by
    by_cases e : i.natAbs = 0
    · rw [e]; decide
    · exact (Nat.log2_lt e).mpr h1
  refine ⟨by omega, ?_⟩
  have := int_text_length_le (a := i) (k := 400) (by decide) h2
  rw [PySem.ofString_length]
  omega
/-- None, or a whole number that is not too great -/
inductive Due : D → Prop
  | non : Due .non
  | int {i : Int} (h : -Big ≤ i ∧ i ≤ Big) : Due (.int i)
theorem due_p {d : D} (h : Due d) : ∃ p : PyData, toP d = some p ∧ p.showable = true ∧ p.hasDict = false ∧ p.depth = 0 ∧ p.shown.length ≤ 2000000 := by
  cases h with
  | non => exact ⟨.none, rfl, rfl, rfl, rfl, by decide⟩
  | int h => exact ⟨.int _, rfl, decide_eq_true (int_shown h).1, rfl, rfl, (int_shown h).2⟩
theorem repr_two {d : D} (h : Due d) : ∃ t, ∀ S, cRepr [.lst [d, d]] S = some (.str t, S) := by
  obtain ⟨p, h1, h2, h3, h4, h5⟩ := due_p h
  refine ⟨(PyData.list [p, p]).shown, fun S => ?_⟩
  have e : toP (.lst [d, d]) = some (.list [p, p]) := by
    show ((toP d).bind fun a => ((toP d).bind fun b => (some [] : Option (List PyData)).map fun r => b :: r).map fun r => a :: r).map PyData.list = _
    rw [h1]; rfl
  have e2 : (PyData.list [p, p]).shown = ((("[" : Str) ++ ("" : Str) ++ p.shown) ++ (", " : Str) ++ p.shown) ++ ("]" : Str) := rfl
  show (toP (.lst [d, d])).bind _ = _
  rw [e]
  refine if_pos ⟨?_, ?_, ?_, ?_⟩
  · show (p.showable && (p.showable && true)) = true
    rw [h2]; rfl
  · show (p.hasDict || (p.hasDict || false)) = false
    rw [h3]; rfl
  · show max p.depth (max p.depth 0) + 1 ≤ 50
    rw [h4]; decide
  · rw [e2]
    simp only [strLen_append]
    have : ("[" : Str).length = 1 := by decide +kernel
    have : ("]" : Str).length = 1 := by decide +kernel
    have : (", " : Str).length = 2 := by decide +kernel
    have : ("" : Str).length = 0 := by decide +kernel
    omega
theorem pow_le10 {a b : Nat} (h : a ≤ b) : (10 : Int) ^ a ≤ 10 ^ b := by
  have := Nat.pow_le_pow_right (show 0 < 10 by decide) h
  exact_mod_cast this
end LW

set_option maxHeartbeats 400000
set_option exponentiation.threshold 2000
namespace LW
open PySem PySem.Spec PyProof.Rows L2 DL
theorem sort_InvalidNumber {x : D} {S : Sto} : w__law_sort [.exc "InvalidNumber" ["given"] [x]] S = some (.str "InvalidNumber", S) := by kernel_rfl
theorem sort_TooMany {x : D} {S : Sto} : w__law_sort [.exc "TooMany" ["number"] [x]] S = some (.str "TooMany", S) := by kernel_rfl
theorem sort_InvalidPerson {x : D} {S : Sto} : w__law_sort [.exc "InvalidPerson" ["given"] [x]] S = some (.str "InvalidPerson", S) := by kernel_rfl
theorem wp_Xf {cs : List Str} {f : Str} {fe : FE} {env : DEnv} {S : Sto} {P : D → Sto → Prop} : R (fXf cs f fe env S) P ↔ R (fe env S) fun d S1 => ∃ c fs ds, d = .exc c fs ds ∧ (c ∈ cs ∧ fs.length = ds.length) ∧ ∃ y, getF fs ds f = some y ∧ P y S1 := by
  unfold fXf
  simp only [R_bind]
  refine ⟨fun ⟨d, S1, e, q⟩ => ⟨d, S1, e, ?_⟩, fun ⟨d, S1, e, q⟩ => ⟨d, S1, e, ?_⟩⟩
  · cases d with
    | exc c fs ds =>
      obtain ⟨y, S2, e2, p⟩ := q
      dsimp only at e2
      split at e2
      case isFalse => cases e2
      rename_i hc
      obtain ⟨z, h1, h2⟩ := map_some e2
      cases h2
      exact ⟨c, fs, ds, rfl, hc, y, h1, p⟩
    | _ => exact (R_none.mp q).elim
  · obtain ⟨c, fs, ds, rfl, hc, y, h1, p⟩ := q
    refine ⟨y, S1, ?_, p⟩
    show (if c ∈ cs ∧ fs.length = ds.length then _ else none) = _
    rw [if_pos hc, h1]
    rfl

theorem r_att_InvalidNumber {x : D} {S : Sto} {P : D → Sto → Prop} (h : R (cReprA [x] S) P) : R (w__law_attribute [.exc "InvalidNumber" ["given"] [x], .str "InvalidNumber"] S) P := by
  unfold w__law_attribute d__law_attribute b__law_attribute
  simp only [R_some, wb_bl, wi_int, wstr_str, wtup_tup, wlst_lst, wref_ref, wp_var0, wp_varS, wp_C, wp_Bin, wp_neg, wp_nil, wp_cons, wp_tup, wp_lst, wp_lstM, wp_Call, wp_And, wp_Or, wp_Not, wp_Test, wp_tAnd, wp_tOr, wp_tNot, wp_If, wp_Chain, wp_Skip, wp_Break, wp_Cont, wp_Never, wp_fNever, wp_Seq, wp_pfl_nx, wp_pfl_rt, wp_pfl_bk, wp_pfl_ct, wp_Expr, wp_Ret, wp_sIf, wp_Asg, wp_N, wp_gNil, wp_gCons, wp_gTup, wp_gSub, wp_Par, wp_two, wp_Run, wp_run_rt, wp_run_nx, wp_bk_nx, wp_bk_ct, wp_bk_bk, wp_bk_rt, wp_r1, wp_r2, wp_add, wp_addL, wp_addS, wp_mul, wp_fdiv, wp_mod, wp_I0, wp_eqI, wp_eqS, wp_eqB, wp_neI, wp_neS, wp_neB, wp_isN, wp_notN, isn_int, isn_non, isn_str, isn_tup, isn_lst, isn_ref, isn_bl, wp_isi, wp_someB, isi_str_str, isi_int_int, isi_int_bl, isi_bool_int, isi_bool_bl, isi_int_non, isi_int_str, isi_tuple_tup, wp_abs, wp_max2, wp_min2, wp_maxT, wp_intI, wp_intB, wp_lenS, wp_lenT, wp_lenL, wp_lenC, wp_divmod, wp_listL, wp_listT, wp_tupL, wp_tupT, wp_KIn, wp_strE, wp_Fld, wp_FldO, wp_Meth, wp_MakeF, wp_someL, wp_iR1, wp_iR2, wp_iLst, wp_iTup, wp_Prop, wp_IsC, wp_DGet1, wp_DIn, wp_gUnl, wp_DictK, wp_rep, wp_MethK, wp_CallK, wp_DispF, wp_DIx, wp_someX, wp_ixL, wp_ixT, wp_ixC, atI0, atI1, atI2, ixN0, ixN1, wp_Sl, wp_oNone, wp_oSome, wp_slC, wp_slL, wp_slS, str_eq, String.reduceEq, in_ring_crowd, in_ring_star, in_ring_pairs, in_ring_row, in_ring_ring, in_ring_core, in_ring_linked, in_ring_odd_ring, in_ring_even_ring, Bool.or_self, Bool.and_self, wp_Lc, wp_Yes, wp_pow10_9, wp_pow10_18, wp_pow10_40, wp_For, wp_sFld, wp_last, set_last, wp_KIx, wp_inT, wp_inL, eqF_str, flat_str, flat_int, flat_non, List.any_cons, List.any_nil, List.all_cons, List.all_nil, Bool.and_true, Bool.or_false, Bool.true_and, Bool.false_and, Bool.and_false, Bool.false_or, Bool.or_true, Bool.true_or, Bool.not_not, List.map_cons, List.map_nil, List.length_cons, List.length_nil, List.cons_append, List.nil_append, List.append_nil, List.set_cons_zero, List.set_cons_succ, List.replicate_succ, List.replicate_zero, Nat.reduceSub, Nat.reduceAdd, Nat.reduceLeDiff, Nat.zero_add, Nat.sub_self, decide_eq_true_eq, Bool.not_eq_true', Bool.not_eq_eq_eq_not, Bool.not_true, Bool.not_false, decide_eq_false_iff_not, if_true, if_false, reduceIte, Bool.false_eq_true, true_and, and_true, decide_true, decide_false, Bool.true_eq_false, eq_self, wp_Xf]
  exact ⟨_, _, _, rfl, ⟨by simp, rfl⟩, _, rfl, h⟩
theorem r_att_TooMany {x : D} {S : Sto} {P : D → Sto → Prop} (h : R (cReprA [x] S) P) : R (w__law_attribute [.exc "TooMany" ["number"] [x], .str "TooMany"] S) P := by
  unfold w__law_attribute d__law_attribute b__law_attribute
  simp only [R_some, wb_bl, wi_int, wstr_str, wtup_tup, wlst_lst, wref_ref, wp_var0, wp_varS, wp_C, wp_Bin, wp_neg, wp_nil, wp_cons, wp_tup, wp_lst, wp_lstM, wp_Call, wp_And, wp_Or, wp_Not, wp_Test, wp_tAnd, wp_tOr, wp_tNot, wp_If, wp_Chain, wp_Skip, wp_Break, wp_Cont, wp_Never, wp_fNever, wp_Seq, wp_pfl_nx, wp_pfl_rt, wp_pfl_bk, wp_pfl_ct, wp_Expr, wp_Ret, wp_sIf, wp_Asg, wp_N, wp_gNil, wp_gCons, wp_gTup, wp_gSub, wp_Par, wp_two, wp_Run, wp_run_rt, wp_run_nx, wp_bk_nx, wp_bk_ct, wp_bk_bk, wp_bk_rt, wp_r1, wp_r2, wp_add, wp_addL, wp_addS, wp_mul, wp_fdiv, wp_mod, wp_I0, wp_eqI, wp_eqS, wp_eqB, wp_neI, wp_neS, wp_neB, wp_isN, wp_notN, isn_int, isn_non, isn_str, isn_tup, isn_lst, isn_ref, isn_bl, wp_isi, wp_someB, isi_str_str, isi_int_int, isi_int_bl, isi_bool_int, isi_bool_bl, isi_int_non, isi_int_str, isi_tuple_tup, wp_abs, wp_max2, wp_min2, wp_maxT, wp_intI, wp_intB, wp_lenS, wp_lenT, wp_lenL, wp_lenC, wp_divmod, wp_listL, wp_listT, wp_tupL, wp_tupT, wp_KIn, wp_strE, wp_Fld, wp_FldO, wp_Meth, wp_MakeF, wp_someL, wp_iR1, wp_iR2, wp_iLst, wp_iTup, wp_Prop, wp_IsC, wp_DGet1, wp_DIn, wp_gUnl, wp_DictK, wp_rep, wp_MethK, wp_CallK, wp_DispF, wp_DIx, wp_someX, wp_ixL, wp_ixT, wp_ixC, atI0, atI1, atI2, ixN0, ixN1, wp_Sl, wp_oNone, wp_oSome, wp_slC, wp_slL, wp_slS, str_eq, String.reduceEq, in_ring_crowd, in_ring_star, in_ring_pairs, in_ring_row, in_ring_ring, in_ring_core, in_ring_linked, in_ring_odd_ring, in_ring_even_ring, Bool.or_self, Bool.and_self, wp_Lc, wp_Yes, wp_pow10_9, wp_pow10_18, wp_pow10_40, wp_For, wp_sFld, wp_last, set_last, wp_KIx, wp_inT, wp_inL, eqF_str, flat_str, flat_int, flat_non, List.any_cons, List.any_nil, List.all_cons, List.all_nil, Bool.and_true, Bool.or_false, Bool.true_and, Bool.false_and, Bool.and_false, Bool.false_or, Bool.or_true, Bool.true_or, Bool.not_not, List.map_cons, List.map_nil, List.length_cons, List.length_nil, List.cons_append, List.nil_append, List.append_nil, List.set_cons_zero, List.set_cons_succ, List.replicate_succ, List.replicate_zero, Nat.reduceSub, Nat.reduceAdd, Nat.reduceLeDiff, Nat.zero_add, Nat.sub_self, decide_eq_true_eq, Bool.not_eq_true', Bool.not_eq_eq_eq_not, Bool.not_true, Bool.not_false, decide_eq_false_iff_not, if_true, if_false, reduceIte, Bool.false_eq_true, true_and, and_true, decide_true, decide_false, Bool.true_eq_false, eq_self, wp_Xf]
  exact ⟨_, _, _, rfl, ⟨by simp, rfl⟩, _, rfl, h⟩
theorem r_att_InvalidPerson {x : D} {S : Sto} {P : D → Sto → Prop} (h : R (cReprA [x] S) P) : R (w__law_attribute [.exc "InvalidPerson" ["given"] [x], .str "InvalidPerson"] S) P := by
  unfold w__law_attribute d__law_attribute b__law_attribute
  simp only [R_some, wb_bl, wi_int, wstr_str, wtup_tup, wlst_lst, wref_ref, wp_var0, wp_varS, wp_C, wp_Bin, wp_neg, wp_nil, wp_cons, wp_tup, wp_lst, wp_lstM, wp_Call, wp_And, wp_Or, wp_Not, wp_Test, wp_tAnd, wp_tOr, wp_tNot, wp_If, wp_Chain, wp_Skip, wp_Break, wp_Cont, wp_Never, wp_fNever, wp_Seq, wp_pfl_nx, wp_pfl_rt, wp_pfl_bk, wp_pfl_ct, wp_Expr, wp_Ret, wp_sIf, wp_Asg, wp_N, wp_gNil, wp_gCons, wp_gTup, wp_gSub, wp_Par, wp_two, wp_Run, wp_run_rt, wp_run_nx, wp_bk_nx, wp_bk_ct, wp_bk_bk, wp_bk_rt, wp_r1, wp_r2, wp_add, wp_addL, wp_addS, wp_mul, wp_fdiv, wp_mod, wp_I0, wp_eqI, wp_eqS, wp_eqB, wp_neI, wp_neS, wp_neB, wp_isN, wp_notN, isn_int, isn_non, isn_str, isn_tup, isn_lst, isn_ref, isn_bl, wp_isi, wp_someB, isi_str_str, isi_int_int, isi_int_bl, isi_bool_int, isi_bool_bl, isi_int_non, isi_int_str, isi_tuple_tup, wp_abs, wp_max2, wp_min2, wp_maxT, wp_intI, wp_intB, wp_lenS, wp_lenT, wp_lenL, wp_lenC, wp_divmod, wp_listL, wp_listT, wp_tupL, wp_tupT, wp_KIn, wp_strE, wp_Fld, wp_FldO, wp_Meth, wp_MakeF, wp_someL, wp_iR1, wp_iR2, wp_iLst, wp_iTup, wp_Prop, wp_IsC, wp_DGet1, wp_DIn, wp_gUnl, wp_DictK, wp_rep, wp_MethK, wp_CallK, wp_DispF, wp_DIx, wp_someX, wp_ixL, wp_ixT, wp_ixC, atI0, atI1, atI2, ixN0, ixN1, wp_Sl, wp_oNone, wp_oSome, wp_slC, wp_slL, wp_slS, str_eq, String.reduceEq, in_ring_crowd, in_ring_star, in_ring_pairs, in_ring_row, in_ring_ring, in_ring_core, in_ring_linked, in_ring_odd_ring, in_ring_even_ring, Bool.or_self, Bool.and_self, wp_Lc, wp_Yes, wp_pow10_9, wp_pow10_18, wp_pow10_40, wp_For, wp_sFld, wp_last, set_last, wp_KIx, wp_inT, wp_inL, eqF_str, flat_str, flat_int, flat_non, List.any_cons, List.any_nil, List.all_cons, List.all_nil, Bool.and_true, Bool.or_false, Bool.true_and, Bool.false_and, Bool.and_false, Bool.false_or, Bool.or_true, Bool.true_or, Bool.not_not, List.map_cons, List.map_nil, List.length_cons, List.length_nil, List.cons_append, List.nil_append, List.append_nil, List.set_cons_zero, List.set_cons_succ, List.replicate_succ, List.replicate_zero, Nat.reduceSub, Nat.reduceAdd, Nat.reduceLeDiff, Nat.zero_add, Nat.sub_self, decide_eq_true_eq, Bool.not_eq_true', Bool.not_eq_eq_eq_not, Bool.not_true, Bool.not_false, decide_eq_false_iff_not, if_true, if_false, reduceIte, Bool.false_eq_true, true_and, and_true, decide_true, decide_false, Bool.true_eq_false, eq_self, wp_Xf]
  exact ⟨_, _, _, rfl, ⟨by simp, rfl⟩, _, rfl, h⟩
/-- what is told of a call that raises -/
theorem r_told {j : Nat} {q : Str} {cs : List Str} {fv : FE} {fx : FX} {gs ga : FD} {env : DEnv} {S S1 S2 : Sto} {er : Er} {w : D} {P : D → Sto → Prop} (hj : S[j]? = some (.tab q)) (hv : fv env S = none) (hx : fx env S = some (er, S1)) (hc : er.1 ∈ cs) (hs : gs [.exc er.1 er.2.1 er.2.2] S1 = some (w, S2))
    (ha : R (ga [.exc er.1 er.2.1 er.2.2, w] S2) fun t S3 => P (.tup [w, t]) S3) : R (fTold j q cs fv fx gs ga env S) P := by
  obtain ⟨t, S3, ha, hP⟩ := ha
  refine ⟨.tup [w, t], S3, ?_, hP⟩
  unfold fTold
  rw [hj]
  show (if q = q then _ else none) = _
  rw [if_pos rfl, hv]
  show ((fx env S).bind _) = _
  rw [hx]
  show (if er.1 ∈ cs then _ else none) = _
  rw [if_pos hc, hs]
  show ((ga [.exc er.1 er.2.1 er.2.2, w] S2).bind _) = _
  rw [ha]
  rfl

abbrev CS : List Str := ["InvalidNumber", "TooMany", "InvalidPerson"]
abbrev erInvalidNumber (x : D) : Er := ("InvalidNumber", ["given"], [x])
theorem ok_InvalidNumber : PyData.strOk "InvalidNumber" = true := by decide +kernel
abbrev erTooMany (x : D) : Er := ("TooMany", ["number"], [x])
theorem ok_TooMany : PyData.strOk "TooMany" = true := by decide +kernel
abbrev erInvalidPerson (x : D) : Er := ("InvalidPerson", ["given"], [x])
theorem ok_InvalidPerson : PyData.strOk "InvalidPerson" = true := by decide +kernel
/-- two lists of pairs of texts, one of them a cell's -/
def pairT (p : Str × Str) : D := .tup [.str p.1, .str p.2]
theorem toPs_pairs : ∀ ps : List (Str × Str), toPs (ps.map pairT) = some (ps.map fun p => PyData.tuple [.str p.1, .str p.2])
  | [] => rfl
  | p :: r => by
    show (toP (pairT p)).bind _ = _
    rw [show toP (pairT p) = some (PyData.tuple [.str p.1, .str p.2]) from rfl]
    show (toPs (r.map pairT)).map _ = _
    rw [toPs_pairs r]
    rfl
theorem eqv_pairs : ∀ ps : List (Str × Str), PyData.eqvAll (ps.map fun p => PyData.tuple [.str p.1, .str p.2]) (ps.map fun p => PyData.tuple [.str p.1, .str p.2]) = true
  | [] => rfl
  | p :: r => by
    show (PyData.eqvAll [.str p.1, .str p.2] [.str p.1, .str p.2] && PyData.eqvAll (r.map _) (r.map _)) = true
    rw [eqv_pairs r]
    simp [PyData.eqvAll, PyData.eqv]
theorem wp_neCell {S : Sto} {k : Nat} {ps : List (Str × Str)} {P : D → Sto → Prop} (hk : S[k]? = some (.lst (ps.map pairT))) (hsh : SeqAt.shaped (.list (ps.map fun p => PyData.tuple [.str p.1, .str p.2])) = true) : R (gNeR (.ref k) (.lst (ps.map pairT)) S) P ↔ P (.bl false) S := by
  have e : gNeR (.ref k) (.lst (ps.map pairT)) S = some (.bl false, S) := by
    unfold gNeR
    have e1 : drf S (.ref k) = .lst (ps.map pairT) := by
      show (match S[k]? with | some (.lst ds) => D.lst ds | _ => .ref k) = _
      rw [hk]
    rw [e1, show drf S (.lst (ps.map pairT)) = .lst (ps.map pairT) from rfl]
    unfold eqDeep
    rw [show toP (.lst (ps.map pairT)) = (toPs (ps.map pairT)).map .list from rfl, toPs_pairs]
    show ((if SeqAt.shaped _ = true ∧ SeqAt.shaped _ = true then _ else none : Option D).map _) = _
    rw [if_pos ⟨hsh, hsh⟩]
    show some (D.bl (!PyData.eqvAll _ _), S) = _
    rw [eqv_pairs]
    rfl
  rw [e]
  exact R_some

theorem told_InvalidNumber {q : Str} {fv : FE} {fx : FX} {env : DEnv} {S : Sto} {x : D} {r : Str} (hj : S[0]? = some (.tab q)) (hv : fv env S = none) (hx : fx env S = some (erInvalidNumber x, S)) (hr : ∀ S, cReprA [x] S = some (.str r, S)) : fTold 0 q CS fv fx w__law_sort w__law_attribute env S = some (pairT ("InvalidNumber", r), S) :=
  R_eq.mp (r_told (er := erInvalidNumber x) (w := .str "InvalidNumber") hj hv hx (by simp) (sort_InvalidNumber (x := x)) (r_att_InvalidNumber (x := x) ((eq_R (hr S)).mpr ⟨rfl, rfl⟩)))
theorem told_TooMany {q : Str} {fv : FE} {fx : FX} {env : DEnv} {S : Sto} {x : D} {r : Str} (hj : S[0]? = some (.tab q)) (hv : fv env S = none) (hx : fx env S = some (erTooMany x, S)) (hr : ∀ S, cReprA [x] S = some (.str r, S)) : fTold 0 q CS fv fx w__law_sort w__law_attribute env S = some (pairT ("TooMany", r), S) :=
  R_eq.mp (r_told (er := erTooMany x) (w := .str "TooMany") hj hv hx (by simp) (sort_TooMany (x := x)) (r_att_TooMany (x := x) ((eq_R (hr S)).mpr ⟨rfl, rfl⟩)))
theorem told_InvalidPerson {q : Str} {fv : FE} {fx : FX} {env : DEnv} {S : Sto} {x : D} {r : Str} (hj : S[0]? = some (.tab q)) (hv : fv env S = none) (hx : fx env S = some (erInvalidPerson x, S)) (hr : ∀ S, cReprA [x] S = some (.str r, S)) : fTold 0 q CS fv fx w__law_sort w__law_attribute env S = some (pairT ("InvalidPerson", r), S) :=
  R_eq.mp (r_told (er := erInvalidPerson x) (w := .str "InvalidPerson") hj hv hx (by simp) (sort_InvalidPerson (x := x)) (r_att_InvalidPerson (x := x) ((eq_R (hr S)).mpr ⟨rfl, rfl⟩)))
end LW

set_option maxHeartbeats 400000
set_option exponentiation.threshold 2000
namespace LW
open PySem PySem.Spec PyProof.Rows L2 DL
/-- no natural number -/
inductive Bad : D → Prop
  | non : Bad .non
  | bl (b : Bool) : Bad (.bl b)
  | str (x : Str) : Bad (.str x)
  | tup (ds : List D) : Bad (.tup ds)
  | lst (ds : List D) : Bad (.lst ds)
  | dct (ks : List Key) (ds : List D) : Bad (.dct ks ds)
  | int {n : Int} (h : n < 0) : Bad (.int n)
theorem chk_bad {x : D} (h : Bad x) {M : Int} {S : Sto} : w_check_people [x, .int M] S = none ∧ wx_check_people [x, .int M] S = some (erInvalidNumber x, S) := by
  cases h with
  | @int n h =>
    have e : decide (n < 0) = true := decide_eq_true h
    constructor
    · show (sSeq _ _ _ _).bind _ = none
      simp [sSeq, sIf, tOrD, tNotD, fTest, fBin, fCall, fCons, fNil, fVar, fC, w_is_integer, d_is_integer, b_is_integer, runD, sRet, fAnd, fIsi, isiT, fNot, gLt, gI0, sNever, h]
    · show (xSeq _ _ _ _ _) = _
      simp [xSeq, orX, xIf, xRaise, tOrD, tNotD, fTest, fBin, fCall, fCons, fNil, fVar, fC, w_is_integer, d_is_integer, b_is_integer, runD, sRet, fAnd, fIsi, isiT, fNot, gLt, gI0, sNever, h]
  | _ => exact ⟨rfl, rfl⟩
theorem chk_many {n M : Int} (h0 : 0 ≤ n) (h : M < n) {S : Sto} : w_check_people [.int n, .int M] S = none ∧ wx_check_people [.int n, .int M] S = some (erTooMany (.int n), S) := by
  have h0' : ¬ n < 0 := by omega
  constructor
  · show (sSeq _ _ _ _).bind _ = none
    simp [sSeq, sIf, sSkip, tOrD, tNotD, fTest, fBin, fCall, fCons, fNil, fVar, fC, w_is_integer, d_is_integer, b_is_integer, runD, sRet, fAnd, fIsi, isiT, fNot, gLt, gGt, gI0, sNever, h, h0']
  · show (xSeq _ _ _ _ _) = _
    simp [xSeq, orX, xIf, xNo, xRaise, sIf, sSkip, tOrD, tNotD, fTest, fBin, fCall, fCons, fNil, fVar, fC, w_is_integer, d_is_integer, b_is_integer, runD, sRet, fAnd, fIsi, isiT, fNot, gLt, gGt, gI0, sNever, h, h0']
section
variable {kd : Str} {z : D} {m : Str} {g : FD} {gx : XD} {fas : FA} {env : DEnv} {S : Sto} {xs : List D} {idx : List Nat}
theorem ins_th : insOf "Thing" (thing kd z) S = some ([("word" : Str), "many"], [.str kd, z]) := by simp [insOf]
theorem var4 (h4 : env[4]? = some (some (thing kd z))) : fVar 4 env S = some (thing kd z, S) := by unfold fVar; rw [h4]
theorem meth_v (h4 : env[4]? = some (some (thing kd z))) (hm : hasF ["word", "many"] m = false) (ha : fas env S = some (xs, S)) : fMeth "Thing" m g (fVar 4) fas env S = g (thing kd z :: xs) S := by
  simp only [fMeth, var4 h4, Option.bind_some, ins_th, hm, ha, reduceIte]
theorem meth_x (h4 : env[4]? = some (some (thing kd z))) (hm : hasF ["word", "many"] m = false) (ha : fas env S = some (xs, S)) : xMeth "Thing" m gx (fVar 4) fas env S = gx (thing kd z :: xs) S := by
  simp only [xMeth, var4 h4, Option.bind_some, ins_th, hm, ha, reduceIte]
theorem methK_v (h4 : env[4]? = some (some (thing kd z))) (hm : hasF ["word", "many"] m = false) (ha : fas env S = some (xs, S)) : fMethK "Thing" m g idx (fVar 4) fas env S = g (kwG idx [thing kd z] xs) S := by
  simp only [fMethK, var4 h4, Option.bind_some, ins_th, hm, ha, reduceIte]
theorem methK_x (h4 : env[4]? = some (some (thing kd z))) (hm : hasF ["word", "many"] m = false) (ha : fas env S = some (xs, S)) : xMethK "Thing" m gx idx (fVar 4) fas env S = gx (kwG idx [thing kd z] xs) S := by
  simp only [xMethK, var4 h4, Option.bind_some, ins_th, hm, ha, reduceIte]
end
abbrev M40 : Int := 10000000000000000000000000000000000000000
theorem chk_ok {n M : Int} (h0 : 0 ≤ n) (h : n ≤ M) {S : Sto} : wx_check_people [.int n, .int M] S = none := by
  have h0' : ¬ n < 0 := by omega
  have h1' : ¬ M < n := by omega
  show (xSeq _ _ _ _ _) = _
  simp [xSeq, orX, xIf, xNo, xRaise, sIf, sSkip, tOrD, tNotD, fTest, fBin, fCall, fCons, fNil, fVar, fC, w_is_integer, d_is_integer, b_is_integer, runD, sRet, fAnd, fIsi, isiT, fNot, gLt, gGt, gI0, sNever, h0', h1']
inductive BadC (p : Int) : D → Prop
  | bad {x : D} (h : Bad x) : BadC p x
  | big {n : Int} (h : p < n) : BadC p (.int n)
theorem betw_bad {x : D} {p : Int} (h : BadC p x) {S : Sto} : w_is_between [x, .int 0, .int p] S = some (.bl false, S) := by
  cases h with
  | bad h =>
    cases h with
    | @int n h =>
      have h' : ¬ (0 : Int) ≤ n := by omega
      show ((sRet _ _ _).bind _) = _
      simp [sRet, fAnd, fChain, fCall, fCons, fNil, fVar, w_is_integer, d_is_integer, b_is_integer, runD, fIsi, isiT, fNot, gLe, gI0, h']
    | _ => rfl
  | @big n h =>
    have h' : ¬ n ≤ p := by omega
    by_cases h0 : (0 : Int) ≤ n
    · show ((sRet _ _ _).bind _) = _
      simp [sRet, fAnd, fChain, fCall, fCons, fNil, fVar, w_is_integer, d_is_integer, b_is_integer, runD, fIsi, isiT, fNot, gLe, gI0, h', h0]
    · show ((sRet _ _ _).bind _) = _
      simp [sRet, fAnd, fChain, fCall, fCons, fNil, fVar, w_is_integer, d_is_integer, b_is_integer, runD, fIsi, isiT, fNot, gLe, gI0, h0]
theorem h_most : hasF ["word", "many"] "most" = false := by decide +kernel
theorem h_forced : hasF ["word", "many"] "forced" = false := by decide +kernel
theorem h_tied : hasF ["word", "many"] "tied" = false := by decide +kernel
theorem h_full : hasF ["word", "many"] "fullest" = false := by decide +kernel
theorem most_x {t x : D} {S : Sto} {er : Er} (h : w_check_people [x, .int M40] S = none ∧ wx_check_people [x, .int M40] S = some (er, S)) : w_Thing_most [t, x] S = none ∧ wx_Thing_most [t, x] S = some (er, S) := by
  constructor
  · show ((sSeq (sExpr (fCall w_check_people (fCons (fVar 1) (fCons (fC (.int M40)) fNil)))) _ [some t, some x] S).bind _) = none
    simp [sSeq, sExpr, fCall, fCons, fNil, fVar, fC, h.1]
  · show xSeq _ (xCall wx_check_people (fCons (fVar 1) (fCons (fC (.int M40)) fNil))) _ [some t, some x] S = _
    simp [xSeq, orX, xCall, fCons, fNil, fVar, fC, h.2]
theorem forced_x {t x : D} {S : Sto} {er : Er} (h : w_check_people [x, .int M40] S = none ∧ wx_check_people [x, .int M40] S = some (er, S)) : w_Thing_forced [t, x] S = none ∧ wx_Thing_forced [t, x] S = some (er, S) := by
  constructor
  · show ((sSeq (sExpr (fCall w_check_people (fCons (fVar 1) (fCons (fC (.int M40)) fNil)))) _ [some t, some x, none] S).bind _) = none
    simp [sSeq, sExpr, fCall, fCons, fNil, fVar, fC, h.1]
  · show xSeq _ (xCall wx_check_people (fCons (fVar 1) (fCons (fC (.int M40)) fNil))) _ [some t, some x, none] S = _
    simp [xSeq, orX, xCall, fCons, fNil, fVar, fC, h.2]
theorem full_x {t x : D} {S : Sto} {er : Er} (h : w_check_people [x, .int 10] S = none ∧ wx_check_people [x, .int 10] S = some (er, S)) : w_Thing_fullest [t, x] S = none ∧ wx_Thing_fullest [t, x] S = some (er, S) := by
  constructor
  · show ((sSeq (sExpr (fCall w_check_people (fCons (fVar 1) (fCons (fC (.int 10)) fNil)))) _ [some t, some x, none, none] S).bind _) = none
    simp [sSeq, sExpr, fCall, fCons, fNil, fVar, fC, h.1]
  · show xSeq _ (xCall wx_check_people (fCons (fVar 1) (fCons (fC (.int 10)) fNil))) _ [some t, some x, none, none] S = _
    simp [xSeq, orX, xCall, fCons, fNil, fVar, fC, h.2]
theorem tied_x {t x y z : D} {S : Sto} {er : Er} (h : w_check_people [x, .int M40] S = none ∧ wx_check_people [x, .int M40] S = some (er, S)) : w_Thing_tied [t, x, y, z] S = none ∧ wx_Thing_tied [t, x, y, z] S = some (er, S) := by
  constructor
  · show ((sSeq (sExpr (fCall w_check_people (fCons (fVar 1) (fCons (fC (.int M40)) fNil)))) _ [some t, some x, some y, some z] S).bind _) = none
    simp [sSeq, sExpr, fCall, fCons, fNil, fVar, fC, h.1]
  · show xSeq _ (xCall wx_check_people (fCons (fVar 1) (fCons (fC (.int M40)) fNil))) _ [some t, some x, some y, some z] S = _
    simp [xSeq, orX, xCall, fCons, fNil, fVar, fC, h.2]
/-- no two different people -/
theorem two_1 {y z : D} {n : Int} {S : Sto} (h : BadC (n - 1) y) : w_check_two [y, z, .int n] S = none ∧ wx_check_two [y, z, .int n] S = some (erInvalidPerson y, S) := by
  have hb := betw_bad h (S := S)
  constructor
  · show ((sSeq _ _ [some y, some z, some (.int n)] S).bind _) = none
    simp [sSeq, sIf, tNotD, fTest, fCall, fCons, fNil, fVar, fC, fBin, gSubI, gI0, hb, sNever]
  · show xSeq _ _ _ [some y, some z, some (.int n)] S = _
    simp [xSeq, orX, xIf, xRaise, sIf, tNotD, fTest, fCall, fCons, fNil, fVar, fC, fBin, gSubI, gI0, hb, sNever]
theorem two_2 {y : D} {i n : Int} {S : Sto} (h0 : 0 ≤ i) (h1 : i ≤ n - 1) (h : BadC (n - 1) y) : w_check_two [.int i, y, .int n] S = none ∧ wx_check_two [.int i, y, .int n] S = some (erInvalidPerson y, S) := by
  have hb := betw_bad h (S := S)
  have hi : w_is_between [.int i, .int 0, .int (n - 1)] S = some (.bl true, S) := by
    rw [between_int]
    simp [h0, h1]
  constructor
  · show ((sSeq _ _ [some (.int i), some y, some (.int n)] S).bind _) = none
    simp [sSeq, sIf, sSkip, tNotD, tOrD, fTest, fCall, fCons, fNil, fVar, fC, fBin, gSubI, gI0, hb, hi, sNever]
  · show xSeq _ _ _ [some (.int i), some y, some (.int n)] S = _
    simp [xSeq, orX, xIf, xNo, xRaise, sIf, sSkip, tNotD, tOrD, fTest, fCall, fCons, fNil, fVar, fC, fBin, gSubI, gI0, hb, hi, sNever]
theorem two_3 {i n : Int} {S : Sto} (h0 : 0 ≤ i) (h1 : i ≤ n - 1) : w_check_two [.int i, .int i, .int n] S = none ∧ wx_check_two [.int i, .int i, .int n] S = some (erInvalidPerson (.int i), S) := by
  have hi : w_is_between [.int i, .int 0, .int (n - 1)] S = some (.bl true, S) := by
    rw [between_int]
    simp [h0, h1]
  constructor
  · show ((sSeq _ _ [some (.int i), some (.int i), some (.int n)] S).bind _) = none
    simp [sSeq, sIf, sSkip, tNotD, tOrD, fTest, fCall, fCons, fNil, fVar, fC, fBin, gSubI, gI0, hi, sNever, gEq]
  · show xSeq _ _ _ [some (.int i), some (.int i), some (.int n)] S = _
    simp [xSeq, orX, xIf, xNo, xRaise, sIf, sSkip, tNotD, tOrD, fTest, fCall, fCons, fNil, fVar, fC, fBin, gSubI, gI0, hi, sNever, gEq]
theorem tied_y {t y z : D} {n : Int} {S : Sto} {er : Er} (h0 : 0 ≤ n) (hn : n ≤ 1000) (h : w_check_two [y, z, .int n] S = none ∧ wx_check_two [y, z, .int n] S = some (er, S)) : w_Thing_tied [t, .int n, y, z] S = none ∧ wx_Thing_tied [t, .int n, y, z] S = some (er, S) := by
  have hc : w_check_people [.int n, .int M40] S = some (.non, S) := check_eq h0 (by unfold M40; omega) S
  have hcx : wx_check_people [.int n, .int M40] S = none := chk_ok h0 (by unfold M40; omega)
  constructor
  · show ((sSeq (sExpr (fCall w_check_people (fCons (fVar 1) (fCons (fC (.int M40)) fNil)))) (sSeq (sExpr (fCall w_check_two _)) _) [some t, some (.int n), some y, some z] S).bind _) = none
    simp [sSeq, sExpr, fCall, fCons, fNil, fVar, fC, hc, h.1]
  · show xSeq _ (xCall wx_check_people (fCons (fVar 1) (fCons (fC (.int M40)) fNil))) (xSeq _ (xCall wx_check_two _) _) [some t, some (.int n), some y, some z] S = _
    simp [xSeq, orX, xCall, fCons, fNil, fVar, fC, hcx, hc, h.2, sExpr, fCall]
end LW

set_option maxHeartbeats 400000
set_option exponentiation.threshold 2000
namespace LW
open PySem PySem.Spec PyProof.Rows L2 DL
def L5 : List D := [.tup [.str "odd ring", .non], .tup [.str "even ring", .non], .tup [.str "crowd", .int 2], .tup [.str "crowd", .int 3], .tup [.str "crowd", .int 4], .tup [.str "crowd", .int 5], .tup [.str "star", .int 1], .tup [.str "star", .int 2], .tup [.str "star", .int 3], .tup [.str "star", .int 4], .tup [.str "star", .int 5], .tup [.str "pairs", .int 1], .tup [.str "pairs", .int 2], .tup [.str "pairs", .int 3], .tup [.str "pairs", .int 4], .tup [.str "pairs", .int 5], .tup [.str "row", .int 2], .tup [.str "row", .int 3], .tup [.str "row", .int 4], .tup [.str "row", .int 5], .tup [.str "ring", .int 3], .tup [.str "ring", .int 4], .tup [.str "ring", .int 5], .tup [.str "core", .int 1], .tup [.str "core", .int 2], .tup [.str "core", .int 3], .tup [.str "core", .int 4], .tup [.str "core", .int 5], .tup [.str "linked", .int 1], .tup [.str "linked", .int 2], .tup [.str "linked", .int 3], .tup [.str "linked", .int 4], .tup [.str "linked", .int 5]]
theorem things5 (S : Sto) : w__law_things [.int 5] S = some (.lst L5, S) := by kernel_rfl
abbrev party0 : D := .obj "Party" ["many", "held"] [.int 0, .tup []]
theorem L5_made {d : D} (h : d ∈ L5) : ∃ k z, d = .tup [.str k, z] ∧ mkF_Thing [.str k, z] = some [.str k, z] ∧ ∀ S, w_Thing_most [thing k z, .int 0] S = some (.int 0, S) ∧ w_Thing_forced [thing k z, .int 0] S = some (.non, S) ∧ w_Thing_fullest [thing k z, .int 0] S = some (party0, S) := by
  simp only [L5, List.mem_cons, List.not_mem_nil, or_false] at h
  rcases h with rfl | rfl | rfl | rfl | rfl | rfl | rfl | rfl | rfl | rfl | rfl | rfl | rfl | rfl | rfl | rfl | rfl | rfl | rfl | rfl | rfl | rfl | rfl | rfl | rfl | rfl | rfl | rfl | rfl | rfl | rfl | rfl | rfl <;> exact ⟨_, _, rfl, by kernel_rfl, fun S => ⟨by kernel_rfl, by kernel_rfl, by kernel_rfl⟩⟩
theorem people0 (S : Sto) : w_Party_people [party0] S = some (.int 0, S) := by kernel_rfl
theorem strOk_of (s : String) : PyData.strOk (Str.ofString s) = true := by
  unfold PyData.strOk
  rw [Str.ofString_eq_toList]
  simp
  intro c hc
  have hv := c.valid
  unfold UInt32.isValidChar at hv
  have h2 : c.toNat = c.val.toNat := rfl
  rcases hv with h | ⟨_, h⟩ <;> omega
/-- the text that repr gives -/
def Rp (x : D) (r : Str) : Prop := (∀ S, cReprA [x] S = some (.str r, S)) ∧ PyData.strOk r = true
abbrev X9 : List D := [.non, .bl true, .str "1", .tup [], .lst [], .dct [] [], .int (-1), .bl false, .int (-1000000000000000000000000000000)]
theorem X9_ok {x : D} (h : x ∈ X9) : Bad x ∧ ∃ r, Rp x r := by
  simp only [X9, List.mem_cons, List.not_mem_nil, or_false] at h
  rcases h with rfl | rfl | rfl | rfl | rfl | rfl | rfl | rfl | rfl
  · exact ⟨.non, _, fun S => rfl, by decide +kernel⟩
  · exact ⟨.bl _, _, fun S => rfl, by decide +kernel⟩
  · exact ⟨.str _, "'1'", fun S => (by kernel_rfl), by decide +kernel⟩
  · exact ⟨.tup _, _, fun S => rfl, by decide +kernel⟩
  · exact ⟨.lst _, _, fun S => rfl, by decide +kernel⟩
  · exact ⟨.dct _ _, _, fun S => rfl, by decide +kernel⟩
  · exact ⟨.int (by decide), _, fun S => rfl, by decide +kernel⟩
  · exact ⟨.bl _, _, fun S => rfl, by decide +kernel⟩
  · exact ⟨.int (by decide), _, fun S => rfl, by decide +kernel⟩
theorem repr_int {n : Int} (h : -Big ≤ n ∧ n ≤ Big) : ∃ r, Rp (.int n) r := by
  obtain ⟨p, h1, h2, h3, h4, h5⟩ := due_p (.int h)
  cases h1
  refine ⟨(PyData.int n).shown, fun S => ?_, strOk_of _⟩
  show cRepr [.int n] S = _
  unfold cRepr
  exact if_pos ⟨h2, h3, by rw [h4]; decide, by omega⟩
abbrev Y8 (n : Int) : List D := [.int (-1), .int n, .non, .bl true, .str "0", .tup [], .int 1000000000000000000000000000000, .bl false]
theorem Y8_ok {n : Int} (h0 : 2 ≤ n) (hn : n < 100) {x : D} (h : x ∈ Y8 n) : BadC (n - 1) x ∧ ∃ r, Rp x r := by
  simp only [Y8, List.mem_cons, List.not_mem_nil, or_false] at h
  rcases h with rfl | rfl | rfl | rfl | rfl | rfl | rfl | rfl
  · exact ⟨.bad (.int (by decide)), _, fun S => rfl, by decide +kernel⟩
  · refine ⟨.big (by omega), repr_int ?_⟩
    unfold Big
    omega
  · exact ⟨.bad .non, _, fun S => rfl, by decide +kernel⟩
  · exact ⟨.bad (.bl _), _, fun S => rfl, by decide +kernel⟩
  · exact ⟨.bad (.str _), "'0'", fun S => (by kernel_rfl), by decide +kernel⟩
  · exact ⟨.bad (.tup _), _, fun S => rfl, by decide +kernel⟩
  · exact ⟨.big (by omega), _, fun S => rfl, by decide +kernel⟩
  · exact ⟨.bad (.bl _), _, fun S => rfl, by decide +kernel⟩
end LW

set_option maxHeartbeats 400000
set_option exponentiation.threshold 2000
namespace LW
open PySem PySem.Spec PyProof.Rows L2 DL
abbrev Tb (S : Sto) : Prop := S[0]? = some (.tab (lamQ "_law_right"))
section
variable {q : Str} {fv f : FE} {fx : FX} {env env' : DEnv} {S S1 S0 : Sto} {x t : D} {r : Str} {ts : List D} {k : Nat} {f1 f2 : FS} {P : Fl → Sto → Prop}
theorem seq_eqR (h : f1 env S = some (.nx env', S1)) : R (sSeq f1 f2 env S) P ↔ R (f2 env' S1) P := by
  unfold sSeq
  rw [h]
  rfl
theorem st_new (h : f env S = some (t, S)) : sAsg (fLstM (fCons f fNil)) (gN 8) env S = some (.nx (env.set 8 (some (.ref S.length))), S ++ [.lst [t]]) := by
  simp [sAsg, fLstM, fCons, fNil, gN, h]
theorem st_app (h8 : env[8]? = some (some (.ref S0.length))) (h : f env (S0 ++ [.lst ts]) = some (t, S0 ++ [.lst ts])) (hl : ts.length ≤ 1000) : sExpr (fAppend (fVar 8) f) env (S0 ++ [.lst ts]) = some (.nx env, S0 ++ [.lst (ts ++ [t])]) := by
  have hl2 : ts.length ≤ 1000000 := by omega
  simp [sExpr, fAppend, fVar, h8, h, hl2]
theorem tb_app (h : Tb S) (more : Sto) : Tb (S ++ more) := by
  show (S ++ more)[0]? = _
  rw [List.getElem?_append_left (List.getElem?_eq_some_iff.mp h).1]
  exact h
theorem prs_app {i : Nat} (h : Prs S i) (more : Sto) : Prs (S ++ more) i := by
  obtain ⟨a, b, h1, h2⟩ := h
  refine ⟨a, b, ?_, h2⟩
  rw [List.getElem?_append_left (List.getElem?_eq_some_iff.mp h1).1]
  exact h1
end
/-- the comparison: just what is due -/
theorem if_same {fb : FE} {env : DEnv} {S0 : Sto} {ps : List (Str × Str)} (h8 : env[8]? = some (some (.ref S0.length))) (hb : fb env (S0 ++ [.lst (ps.map pairT)]) = some (.lst (ps.map pairT), S0 ++ [.lst (ps.map pairT)])) (hsh : SeqAt.shaped (.list (ps.map fun p => PyData.tuple [.str p.1, .str p.2])) = true) :
    sIf (fTest (fBin gNeR (fVar 8) fb)) (sRet (fC (.bl false))) sSkip env (S0 ++ [.lst (ps.map pairT)]) = some (.nx env, S0 ++ [.lst (ps.map pairT)]) := by
  have e : gNeR (.ref S0.length) (.lst (ps.map pairT)) (S0 ++ [.lst (ps.map pairT)]) = some (.bl false, S0 ++ [.lst (ps.map pairT)]) := R_eq.mp ((wp_neCell (by simp) hsh).mpr ⟨rfl, rfl⟩)
  simp [sIf, fTest, fBin, fVar, h8, hb, e, sSkip]
end LW


set_option maxHeartbeats 400000
set_option exponentiation.threshold 2000
namespace LW
open PySem PySem.Spec PyProof.Rows L2 DL
theorem lay_pairs : ∀ ps : List (Str × Str), (∀ p ∈ ps, PyData.strOk p.1 = true ∧ PyData.strOk p.2 = true) → PyData.canLayAll0 (ps.map fun p => PyData.tuple [.str p.1, .str p.2]) = true
  | [], _ => rfl
  | p :: r, h => by
    have h1 := h p (List.mem_cons_self ..)
    have h2 := lay_pairs r fun q hq => h q (List.mem_cons_of_mem _ hq)
    show ((PyData.strOk p.1 && (PyData.strOk p.2 && true)) && PyData.canLayAll0 (r.map _)) = true
    rw [h1.1, h1.2, h2]
    rfl
theorem dep_pairs : ∀ ps : List (Str × Str), PyData.depthAll (ps.map fun p => PyData.tuple [.str p.1, .str p.2]) ≤ 1
  | [] => Nat.zero_le _
  | p :: r => by
    have := dep_pairs r
    show max (PyData.depth (.tuple [.str p.1, .str p.2])) (PyData.depthAll (r.map _)) ≤ 1
    exact Nat.max_le.mpr ⟨Nat.le_refl _, this⟩
theorem sh_all {ps : List (Str × Str)} (h : ∀ p ∈ ps, PyData.strOk p.1 = true ∧ PyData.strOk p.2 = true) : SeqAt.shaped (.list (ps.map fun p => PyData.tuple [.str p.1, .str p.2])) = true := by
  unfold SeqAt.shaped
  rw [show PyData.canLay0 (.list (ps.map fun p => PyData.tuple [.str p.1, .str p.2])) = PyData.canLayAll0 (ps.map fun p => PyData.tuple [.str p.1, .str p.2]) from rfl, lay_pairs _ h]
  have := dep_pairs ps
  have e : PyData.depth (.list (ps.map fun p => PyData.tuple [.str p.1, .str p.2])) = PyData.depthAll (ps.map fun p => PyData.tuple [.str p.1, .str p.2]) + 1 := rfl
  simp only [e, Bool.true_and, decide_eq_true_eq]
  omega
theorem ok_11 : PyData.strOk "11" = true := by decide +kernel
theorem ok_1 : PyData.strOk "1" = true := by decide +kernel
theorem ok_0 : PyData.strOk "0" = true := by decide +kernel
theorem far_repr : Rp (.int (M40 + 1)) "10000000000000000000000000000000000000001" := ⟨fun S => (by kernel_rfl), by decide +kernel⟩
theorem rp_11 : Rp (.int 11) "11" := ⟨fun S => (by kernel_rfl), by decide +kernel⟩
theorem rp_1 : Rp (.int 1) "1" := ⟨fun S => (by kernel_rfl), by decide +kernel⟩
theorem rp_0 : Rp (.int 0) "0" := ⟨fun S => (by kernel_rfl), by decide +kernel⟩
theorem wp_p30 {S : Sto} {P : D → Sto → Prop} : R (gPow (.int 10) (.int 30) S) P ↔ P (.int 1000000000000000000000000000000) S := R_some
abbrev FAR : Str := "10000000000000000000000000000000000000001"
set_option maxHeartbeats 2000000 in
theorem right_ok {S : Sto} {i : Nat} (ht : Tb S) (hp : Prs S i) (hi : 0 < i) : R (w__law_right [.ref i] S) fun d S' => d = .bl true ∧ Tb S' := by
  unfold w__law_right d__law_right b__law_right
  simp only [R_some, wb_bl, wi_int, wstr_str, wtup_tup, wlst_lst, wref_ref, wp_var0, wp_varS, wp_C, wp_Bin, wp_neg, wp_nil, wp_cons, wp_tup, wp_lst, wp_lstM, wp_Call, wp_And, wp_Or, wp_Not, wp_Test, wp_tAnd, wp_tOr, wp_tNot, wp_If, wp_Chain, wp_Skip, wp_Break, wp_Cont, wp_Never, wp_fNever, wp_Seq, wp_pfl_nx, wp_pfl_rt, wp_pfl_bk, wp_pfl_ct, wp_Expr, wp_Ret, wp_sIf, wp_Asg, wp_N, wp_gNil, wp_gCons, wp_gTup, wp_gSub, wp_Par, wp_two, wp_Run, wp_run_rt, wp_run_nx, wp_bk_nx, wp_bk_ct, wp_bk_bk, wp_bk_rt, wp_r1, wp_r2, wp_add, wp_addL, wp_addS, wp_mul, wp_fdiv, wp_mod, wp_I0, wp_eqI, wp_eqS, wp_eqB, wp_neI, wp_neS, wp_neB, wp_isN, wp_notN, isn_int, isn_non, isn_str, isn_tup, isn_lst, isn_ref, isn_bl, wp_isi, wp_someB, isi_str_str, isi_int_int, isi_int_bl, isi_bool_int, isi_bool_bl, isi_int_non, isi_int_str, isi_tuple_tup, wp_abs, wp_max2, wp_min2, wp_maxT, wp_intI, wp_intB, wp_lenS, wp_lenT, wp_lenL, wp_lenC, wp_divmod, wp_listL, wp_listT, wp_tupL, wp_tupT, wp_KIn, wp_strE, wp_Fld, wp_FldO, wp_Meth, wp_MakeF, wp_someL, wp_iR1, wp_iR2, wp_iLst, wp_iTup, wp_Prop, wp_IsC, wp_DGet1, wp_DIn, wp_gUnl, wp_DictK, wp_rep, wp_MethK, wp_CallK, wp_DispF, wp_DIx, wp_someX, wp_ixL, wp_ixT, wp_ixC, atI0, atI1, atI2, ixN0, ixN1, wp_Sl, wp_oNone, wp_oSome, wp_slC, wp_slL, wp_slS, str_eq, String.reduceEq, in_ring_crowd, in_ring_star, in_ring_pairs, in_ring_row, in_ring_ring, in_ring_core, in_ring_linked, in_ring_odd_ring, in_ring_even_ring, Bool.or_self, Bool.and_self, wp_Lc, wp_Yes, wp_pow10_9, wp_pow10_18, wp_pow10_40, wp_sFld, wp_last, set_last, wp_KIx, wp_inT, wp_inL, eqF_str, flat_str, flat_int, flat_non, List.any_cons, List.any_nil, List.all_cons, List.all_nil, Bool.and_true, Bool.or_false, Bool.true_and, Bool.false_and, Bool.and_false, Bool.false_or, Bool.or_true, Bool.true_or, Bool.not_not, List.map_cons, List.map_nil, List.length_cons, List.length_nil, List.cons_append, List.nil_append, List.append_nil, List.set_cons_zero, List.set_cons_succ, List.replicate_succ, List.replicate_zero, Nat.reduceSub, Nat.reduceAdd, Nat.reduceLeDiff, Nat.zero_add, Nat.sub_self, decide_eq_true_eq, Bool.not_eq_true', Bool.not_eq_eq_eq_not, Bool.not_true, Bool.not_false, decide_eq_false_iff_not, if_true, if_false, reduceIte, Bool.false_eq_true, true_and, and_true, decide_true, decide_false, Bool.true_eq_false, eq_self]
  rw [eq_R (things5 S)]
  try simp only [R_some, wb_bl, wi_int, wstr_str, wtup_tup, wlst_lst, wref_ref, wp_var0, wp_varS, wp_C, wp_Bin, wp_neg, wp_nil, wp_cons, wp_tup, wp_lst, wp_lstM, wp_Call, wp_And, wp_Or, wp_Not, wp_Test, wp_tAnd, wp_tOr, wp_tNot, wp_If, wp_Chain, wp_Skip, wp_Break, wp_Cont, wp_Never, wp_fNever, wp_Seq, wp_pfl_nx, wp_pfl_rt, wp_pfl_bk, wp_pfl_ct, wp_Expr, wp_Ret, wp_sIf, wp_Asg, wp_N, wp_gNil, wp_gCons, wp_gTup, wp_gSub, wp_Par, wp_two, wp_Run, wp_run_rt, wp_run_nx, wp_bk_nx, wp_bk_ct, wp_bk_bk, wp_bk_rt, wp_r1, wp_r2, wp_add, wp_addL, wp_addS, wp_mul, wp_fdiv, wp_mod, wp_I0, wp_eqI, wp_eqS, wp_eqB, wp_neI, wp_neS, wp_neB, wp_isN, wp_notN, isn_int, isn_non, isn_str, isn_tup, isn_lst, isn_ref, isn_bl, wp_isi, wp_someB, isi_str_str, isi_int_int, isi_int_bl, isi_bool_int, isi_bool_bl, isi_int_non, isi_int_str, isi_tuple_tup, wp_abs, wp_max2, wp_min2, wp_maxT, wp_intI, wp_intB, wp_lenS, wp_lenT, wp_lenL, wp_lenC, wp_divmod, wp_listL, wp_listT, wp_tupL, wp_tupT, wp_KIn, wp_strE, wp_Fld, wp_FldO, wp_Meth, wp_MakeF, wp_someL, wp_iR1, wp_iR2, wp_iLst, wp_iTup, wp_Prop, wp_IsC, wp_DGet1, wp_DIn, wp_gUnl, wp_DictK, wp_rep, wp_MethK, wp_CallK, wp_DispF, wp_DIx, wp_someX, wp_ixL, wp_ixT, wp_ixC, atI0, atI1, atI2, ixN0, ixN1, wp_Sl, wp_oNone, wp_oSome, wp_slC, wp_slL, wp_slS, str_eq, String.reduceEq, in_ring_crowd, in_ring_star, in_ring_pairs, in_ring_row, in_ring_ring, in_ring_core, in_ring_linked, in_ring_odd_ring, in_ring_even_ring, Bool.or_self, Bool.and_self, wp_Lc, wp_Yes, wp_pow10_9, wp_pow10_18, wp_pow10_40, wp_sFld, wp_last, set_last, wp_KIx, wp_inT, wp_inL, eqF_str, flat_str, flat_int, flat_non, List.any_cons, List.any_nil, List.all_cons, List.all_nil, Bool.and_true, Bool.or_false, Bool.true_and, Bool.false_and, Bool.and_false, Bool.false_or, Bool.or_true, Bool.true_or, Bool.not_not, List.map_cons, List.map_nil, List.length_cons, List.length_nil, List.cons_append, List.nil_append, List.append_nil, List.set_cons_zero, List.set_cons_succ, List.replicate_succ, List.replicate_zero, Nat.reduceSub, Nat.reduceAdd, Nat.reduceLeDiff, Nat.zero_add, Nat.sub_self, decide_eq_true_eq, Bool.not_eq_true', Bool.not_eq_eq_eq_not, Bool.not_true, Bool.not_false, decide_eq_false_iff_not, if_true, if_false, reduceIte, Bool.false_eq_true, true_and, and_true, decide_true, decide_false, Bool.true_eq_false, eq_self]
  refine r_draw hp (by decide) (by decide) fun r S1 h0 h1 hp1 ap1 => ?_
  obtain ⟨d, hd, hm⟩ := atI_in (xs := L5) (i := r) h0 (by simpa using h1)
  obtain ⟨kd, z, rfl, hmk, hlast⟩ := L5_made hm
  have ht1 : Tb S1 := by
    show S1[0]? = _
    rw [ap1.2 0 (by omega)]
    exact ht
  try simp only [R_some, wb_bl, wi_int, wstr_str, wtup_tup, wlst_lst, wref_ref, wp_var0, wp_varS, wp_C, wp_Bin, wp_neg, wp_nil, wp_cons, wp_tup, wp_lst, wp_lstM, wp_Call, wp_And, wp_Or, wp_Not, wp_Test, wp_tAnd, wp_tOr, wp_tNot, wp_If, wp_Chain, wp_Skip, wp_Break, wp_Cont, wp_Never, wp_fNever, wp_Seq, wp_pfl_nx, wp_pfl_rt, wp_pfl_bk, wp_pfl_ct, wp_Expr, wp_Ret, wp_sIf, wp_Asg, wp_N, wp_gNil, wp_gCons, wp_gTup, wp_gSub, wp_Par, wp_two, wp_Run, wp_run_rt, wp_run_nx, wp_bk_nx, wp_bk_ct, wp_bk_bk, wp_bk_rt, wp_r1, wp_r2, wp_add, wp_addL, wp_addS, wp_mul, wp_fdiv, wp_mod, wp_I0, wp_eqI, wp_eqS, wp_eqB, wp_neI, wp_neS, wp_neB, wp_isN, wp_notN, isn_int, isn_non, isn_str, isn_tup, isn_lst, isn_ref, isn_bl, wp_isi, wp_someB, isi_str_str, isi_int_int, isi_int_bl, isi_bool_int, isi_bool_bl, isi_int_non, isi_int_str, isi_tuple_tup, wp_abs, wp_max2, wp_min2, wp_maxT, wp_intI, wp_intB, wp_lenS, wp_lenT, wp_lenL, wp_lenC, wp_divmod, wp_listL, wp_listT, wp_tupL, wp_tupT, wp_KIn, wp_strE, wp_Fld, wp_FldO, wp_Meth, wp_MakeF, wp_someL, wp_iR1, wp_iR2, wp_iLst, wp_iTup, wp_Prop, wp_IsC, wp_DGet1, wp_DIn, wp_gUnl, wp_DictK, wp_rep, wp_MethK, wp_CallK, wp_DispF, wp_DIx, wp_someX, wp_ixL, wp_ixT, wp_ixC, atI0, atI1, atI2, ixN0, ixN1, wp_Sl, wp_oNone, wp_oSome, wp_slC, wp_slL, wp_slS, str_eq, String.reduceEq, in_ring_crowd, in_ring_star, in_ring_pairs, in_ring_row, in_ring_ring, in_ring_core, in_ring_linked, in_ring_odd_ring, in_ring_even_ring, Bool.or_self, Bool.and_self, wp_Lc, wp_Yes, wp_pow10_9, wp_pow10_18, wp_pow10_40, wp_sFld, wp_last, set_last, wp_KIx, wp_inT, wp_inL, eqF_str, flat_str, flat_int, flat_non, List.any_cons, List.any_nil, List.all_cons, List.all_nil, Bool.and_true, Bool.or_false, Bool.true_and, Bool.false_and, Bool.and_false, Bool.false_or, Bool.or_true, Bool.true_or, Bool.not_not, List.map_cons, List.map_nil, List.length_cons, List.length_nil, List.cons_append, List.nil_append, List.append_nil, List.set_cons_zero, List.set_cons_succ, List.replicate_succ, List.replicate_zero, Nat.reduceSub, Nat.reduceAdd, Nat.reduceLeDiff, Nat.zero_add, Nat.sub_self, decide_eq_true_eq, Bool.not_eq_true', Bool.not_eq_eq_eq_not, Bool.not_true, Bool.not_false, decide_eq_false_iff_not, if_true, if_false, reduceIte, Bool.false_eq_true, true_and, and_true, decide_true, decide_false, Bool.true_eq_false, eq_self]
  refine ⟨_, hd, ?_⟩
  try simp only [R_some, wb_bl, wi_int, wstr_str, wtup_tup, wlst_lst, wref_ref, wp_var0, wp_varS, wp_C, wp_Bin, wp_neg, wp_nil, wp_cons, wp_tup, wp_lst, wp_lstM, wp_Call, wp_And, wp_Or, wp_Not, wp_Test, wp_tAnd, wp_tOr, wp_tNot, wp_If, wp_Chain, wp_Skip, wp_Break, wp_Cont, wp_Never, wp_fNever, wp_pfl_nx, wp_pfl_rt, wp_pfl_bk, wp_pfl_ct, wp_Expr, wp_Ret, wp_sIf, wp_Asg, wp_N, wp_gNil, wp_gCons, wp_gTup, wp_gSub, wp_Par, wp_two, wp_Run, wp_run_rt, wp_run_nx, wp_bk_nx, wp_bk_ct, wp_bk_bk, wp_bk_rt, wp_r1, wp_r2, wp_add, wp_addL, wp_addS, wp_mul, wp_fdiv, wp_mod, wp_I0, wp_eqI, wp_eqS, wp_eqB, wp_neI, wp_neS, wp_neB, wp_isN, wp_notN, isn_int, isn_non, isn_str, isn_tup, isn_lst, isn_ref, isn_bl, wp_isi, wp_someB, isi_str_str, isi_int_int, isi_int_bl, isi_bool_int, isi_bool_bl, isi_int_non, isi_int_str, isi_tuple_tup, wp_abs, wp_max2, wp_min2, wp_maxT, wp_intI, wp_intB, wp_lenS, wp_lenT, wp_lenL, wp_lenC, wp_divmod, wp_listL, wp_listT, wp_tupL, wp_tupT, wp_KIn, wp_strE, wp_Fld, wp_FldO, wp_Meth, wp_MakeF, wp_someL, wp_iR1, wp_iR2, wp_iLst, wp_iTup, wp_Prop, wp_IsC, wp_DGet1, wp_DIn, wp_gUnl, wp_DictK, wp_rep, wp_MethK, wp_CallK, wp_DispF, wp_DIx, wp_someX, wp_ixL, wp_ixT, wp_ixC, atI0, atI1, atI2, ixN0, ixN1, wp_Sl, wp_oNone, wp_oSome, wp_slC, wp_slL, wp_slS, str_eq, String.reduceEq, in_ring_crowd, in_ring_star, in_ring_pairs, in_ring_row, in_ring_ring, in_ring_core, in_ring_linked, in_ring_odd_ring, in_ring_even_ring, Bool.or_self, Bool.and_self, wp_Lc, wp_Yes, wp_pow10_9, wp_pow10_18, wp_pow10_40, wp_sFld, wp_last, set_last, wp_KIx, wp_inT, wp_inL, eqF_str, flat_str, flat_int, flat_non, List.any_cons, List.any_nil, List.all_cons, List.all_nil, Bool.and_true, Bool.or_false, Bool.true_and, Bool.false_and, Bool.and_false, Bool.false_or, Bool.or_true, Bool.true_or, Bool.not_not, List.map_cons, List.map_nil, List.length_cons, List.length_nil, List.cons_append, List.nil_append, List.append_nil, List.set_cons_zero, List.set_cons_succ, List.replicate_succ, List.replicate_zero, Nat.reduceSub, Nat.reduceAdd, Nat.reduceLeDiff, Nat.zero_add, Nat.sub_self, decide_eq_true_eq, Bool.not_eq_true', Bool.not_eq_eq_eq_not, Bool.not_true, Bool.not_false, decide_eq_false_iff_not, if_true, if_false, reduceIte, Bool.false_eq_true, true_and, and_true, decide_true, decide_false, Bool.true_eq_false, eq_self, hmk]
  rw [wp_For]
  simp only [R_some, wb_bl, wi_int, wstr_str, wtup_tup, wlst_lst, wref_ref, wp_var0, wp_varS, wp_C, wp_Bin, wp_neg, wp_nil, wp_cons, wp_tup, wp_lst, wp_lstM, wp_Call, wp_And, wp_Or, wp_Not, wp_Test, wp_tAnd, wp_tOr, wp_tNot, wp_If, wp_Chain, wp_Skip, wp_Break, wp_Cont, wp_Never, wp_fNever, wp_pfl_nx, wp_pfl_rt, wp_pfl_bk, wp_pfl_ct, wp_Expr, wp_Ret, wp_sIf, wp_Asg, wp_N, wp_gNil, wp_gCons, wp_gTup, wp_gSub, wp_Par, wp_two, wp_Run, wp_run_rt, wp_run_nx, wp_bk_nx, wp_bk_ct, wp_bk_bk, wp_bk_rt, wp_r1, wp_r2, wp_add, wp_addL, wp_addS, wp_mul, wp_fdiv, wp_mod, wp_I0, wp_eqI, wp_eqS, wp_eqB, wp_neI, wp_neS, wp_neB, wp_isN, wp_notN, isn_int, isn_non, isn_str, isn_tup, isn_lst, isn_ref, isn_bl, wp_isi, wp_someB, isi_str_str, isi_int_int, isi_int_bl, isi_bool_int, isi_bool_bl, isi_int_non, isi_int_str, isi_tuple_tup, wp_abs, wp_max2, wp_min2, wp_maxT, wp_intI, wp_intB, wp_lenS, wp_lenT, wp_lenL, wp_lenC, wp_divmod, wp_listL, wp_listT, wp_tupL, wp_tupT, wp_KIn, wp_strE, wp_Fld, wp_FldO, wp_Meth, wp_MakeF, wp_someL, wp_iR1, wp_iR2, wp_iLst, wp_iTup, wp_Prop, wp_IsC, wp_DGet1, wp_DIn, wp_gUnl, wp_DictK, wp_rep, wp_MethK, wp_CallK, wp_DispF, wp_DIx, wp_someX, wp_ixL, wp_ixT, wp_ixC, atI0, atI1, atI2, ixN0, ixN1, wp_Sl, wp_oNone, wp_oSome, wp_slC, wp_slL, wp_slS, str_eq, String.reduceEq, in_ring_crowd, in_ring_star, in_ring_pairs, in_ring_row, in_ring_ring, in_ring_core, in_ring_linked, in_ring_odd_ring, in_ring_even_ring, Bool.or_self, Bool.and_self, wp_Lc, wp_Yes, wp_pow10_9, wp_pow10_18, wp_pow10_40, wp_sFld, wp_last, set_last, wp_KIx, wp_inT, wp_inL, eqF_str, flat_str, flat_int, flat_non, List.any_cons, List.any_nil, List.all_cons, List.all_nil, Bool.and_true, Bool.or_false, Bool.true_and, Bool.false_and, Bool.and_false, Bool.false_or, Bool.or_true, Bool.true_or, Bool.not_not, List.map_cons, List.map_nil, List.length_cons, List.length_nil, List.cons_append, List.nil_append, List.append_nil, List.set_cons_zero, List.set_cons_succ, List.replicate_succ, List.replicate_zero, Nat.reduceSub, Nat.reduceAdd, Nat.reduceLeDiff, Nat.zero_add, Nat.sub_self, decide_eq_true_eq, Bool.not_eq_true', Bool.not_eq_eq_eq_not, Bool.not_true, Bool.not_false, decide_eq_false_iff_not, if_true, if_false, reduceIte, Bool.false_eq_true, true_and, and_true, decide_true, decide_false, Bool.true_eq_false, eq_self]
  refine ⟨by decide, ?_⟩
  refine r_forD (fun _ env S2 => Tb S2 ∧ Prs S2 i ∧ ∃ e6 e7 e8 e9 e10 e11, env = [some (.ref i), some (.lst L5), some (.str kd), some z, some (thing kd z), some (.int (M40 + 1)), e6, e7, e8, e9, e10, e11]) ⟨ht1, hp1, _, _, _, _, _, _, rfl⟩ ?_ ?_
  · rintro idx d env S2 hd2 ⟨ht2, hp2, e6, e7, e8, e9, e10, e11, rfl⟩
    simp only [R_some, wb_bl, wi_int, wstr_str, wtup_tup, wlst_lst, wref_ref, wp_var0, wp_varS, wp_C, wp_Bin, wp_neg, wp_nil, wp_cons, wp_tup, wp_lst, wp_lstM, wp_Call, wp_And, wp_Or, wp_Not, wp_Test, wp_tAnd, wp_tOr, wp_tNot, wp_If, wp_Chain, wp_Skip, wp_Break, wp_Cont, wp_Never, wp_fNever, wp_pfl_nx, wp_pfl_rt, wp_pfl_bk, wp_pfl_ct, wp_Expr, wp_Ret, wp_sIf, wp_Asg, wp_N, wp_gNil, wp_gCons, wp_gTup, wp_gSub, wp_Par, wp_two, wp_Run, wp_run_rt, wp_run_nx, wp_bk_nx, wp_bk_ct, wp_bk_bk, wp_bk_rt, wp_r1, wp_r2, wp_add, wp_addL, wp_addS, wp_mul, wp_fdiv, wp_mod, wp_I0, wp_eqI, wp_eqS, wp_eqB, wp_neI, wp_neS, wp_neB, wp_isN, wp_notN, isn_int, isn_non, isn_str, isn_tup, isn_lst, isn_ref, isn_bl, wp_isi, wp_someB, isi_str_str, isi_int_int, isi_int_bl, isi_bool_int, isi_bool_bl, isi_int_non, isi_int_str, isi_tuple_tup, wp_abs, wp_max2, wp_min2, wp_maxT, wp_intI, wp_intB, wp_lenS, wp_lenT, wp_lenL, wp_lenC, wp_divmod, wp_listL, wp_listT, wp_tupL, wp_tupT, wp_KIn, wp_strE, wp_Fld, wp_FldO, wp_Meth, wp_MakeF, wp_someL, wp_iR1, wp_iR2, wp_iLst, wp_iTup, wp_Prop, wp_IsC, wp_DGet1, wp_DIn, wp_gUnl, wp_DictK, wp_rep, wp_MethK, wp_CallK, wp_DispF, wp_DIx, wp_someX, wp_ixL, wp_ixT, wp_ixC, atI0, atI1, atI2, ixN0, ixN1, wp_Sl, wp_oNone, wp_oSome, wp_slC, wp_slL, wp_slS, str_eq, String.reduceEq, in_ring_crowd, in_ring_star, in_ring_pairs, in_ring_row, in_ring_ring, in_ring_core, in_ring_linked, in_ring_odd_ring, in_ring_even_ring, Bool.or_self, Bool.and_self, wp_Lc, wp_Yes, wp_pow10_9, wp_pow10_18, wp_pow10_40, wp_For, wp_sFld, wp_last, set_last, wp_KIx, wp_inT, wp_inL, eqF_str, flat_str, flat_int, flat_non, List.any_cons, List.any_nil, List.all_cons, List.all_nil, Bool.and_true, Bool.or_false, Bool.true_and, Bool.false_and, Bool.and_false, Bool.false_or, Bool.or_true, Bool.true_or, Bool.not_not, List.map_cons, List.map_nil, List.length_cons, List.length_nil, List.cons_append, List.nil_append, List.append_nil, List.set_cons_zero, List.set_cons_succ, List.replicate_succ, List.replicate_zero, Nat.reduceSub, Nat.reduceAdd, Nat.reduceLeDiff, Nat.zero_add, Nat.sub_self, decide_eq_true_eq, Bool.not_eq_true', Bool.not_eq_eq_eq_not, Bool.not_true, Bool.not_false, decide_eq_false_iff_not, if_true, if_false, reduceIte, Bool.false_eq_true, true_and, and_true, decide_true, decide_false, Bool.true_eq_false, eq_self]
    rw [wp_Seq]
    simp only [R_some, wb_bl, wi_int, wstr_str, wtup_tup, wlst_lst, wref_ref, wp_var0, wp_varS, wp_C, wp_Bin, wp_neg, wp_nil, wp_cons, wp_tup, wp_lst, wp_lstM, wp_Call, wp_And, wp_Or, wp_Not, wp_Test, wp_tAnd, wp_tOr, wp_tNot, wp_If, wp_Chain, wp_Skip, wp_Break, wp_Cont, wp_Never, wp_fNever, wp_pfl_nx, wp_pfl_rt, wp_pfl_bk, wp_pfl_ct, wp_Expr, wp_Ret, wp_sIf, wp_Asg, wp_N, wp_gNil, wp_gCons, wp_gTup, wp_gSub, wp_Par, wp_two, wp_Run, wp_run_rt, wp_run_nx, wp_bk_nx, wp_bk_ct, wp_bk_bk, wp_bk_rt, wp_r1, wp_r2, wp_add, wp_addL, wp_addS, wp_mul, wp_fdiv, wp_mod, wp_I0, wp_eqI, wp_eqS, wp_eqB, wp_neI, wp_neS, wp_neB, wp_isN, wp_notN, isn_int, isn_non, isn_str, isn_tup, isn_lst, isn_ref, isn_bl, wp_isi, wp_someB, isi_str_str, isi_int_int, isi_int_bl, isi_bool_int, isi_bool_bl, isi_int_non, isi_int_str, isi_tuple_tup, wp_abs, wp_max2, wp_min2, wp_maxT, wp_intI, wp_intB, wp_lenS, wp_lenT, wp_lenL, wp_lenC, wp_divmod, wp_listL, wp_listT, wp_tupL, wp_tupT, wp_KIn, wp_strE, wp_Fld, wp_FldO, wp_Meth, wp_MakeF, wp_someL, wp_iR1, wp_iR2, wp_iLst, wp_iTup, wp_Prop, wp_IsC, wp_DGet1, wp_DIn, wp_gUnl, wp_DictK, wp_rep, wp_MethK, wp_CallK, wp_DispF, wp_DIx, wp_someX, wp_ixL, wp_ixT, wp_ixC, atI0, atI1, atI2, ixN0, ixN1, wp_Sl, wp_oNone, wp_oSome, wp_slC, wp_slL, wp_slS, str_eq, String.reduceEq, in_ring_crowd, in_ring_star, in_ring_pairs, in_ring_row, in_ring_ring, in_ring_core, in_ring_linked, in_ring_odd_ring, in_ring_even_ring, Bool.or_self, Bool.and_self, wp_Lc, wp_Yes, wp_pow10_9, wp_pow10_18, wp_pow10_40, wp_For, wp_sFld, wp_last, set_last, wp_KIx, wp_inT, wp_inL, eqF_str, flat_str, flat_int, flat_non, List.any_cons, List.any_nil, List.all_cons, List.all_nil, Bool.and_true, Bool.or_false, Bool.true_and, Bool.false_and, Bool.and_false, Bool.false_or, Bool.or_true, Bool.true_or, Bool.not_not, List.map_cons, List.map_nil, List.length_cons, List.length_nil, List.cons_append, List.nil_append, List.append_nil, List.set_cons_zero, List.set_cons_succ, List.replicate_succ, List.replicate_zero, Nat.reduceSub, Nat.reduceAdd, Nat.reduceLeDiff, Nat.zero_add, Nat.sub_self, decide_eq_true_eq, Bool.not_eq_true', Bool.not_eq_eq_eq_not, Bool.not_true, Bool.not_false, decide_eq_false_iff_not, if_true, if_false, reduceIte, Bool.false_eq_true, true_and, and_true, decide_true, decide_false, Bool.true_eq_false, eq_self]
    rw [wp_p30]
    simp only [R_some, wb_bl, wi_int, wstr_str, wtup_tup, wlst_lst, wref_ref, wp_var0, wp_varS, wp_C, wp_Bin, wp_neg, wp_nil, wp_cons, wp_tup, wp_lst, wp_lstM, wp_Call, wp_And, wp_Or, wp_Not, wp_Test, wp_tAnd, wp_tOr, wp_tNot, wp_If, wp_Chain, wp_Skip, wp_Break, wp_Cont, wp_Never, wp_fNever, wp_pfl_nx, wp_pfl_rt, wp_pfl_bk, wp_pfl_ct, wp_Expr, wp_Ret, wp_sIf, wp_Asg, wp_N, wp_gNil, wp_gCons, wp_gTup, wp_gSub, wp_Par, wp_two, wp_Run, wp_run_rt, wp_run_nx, wp_bk_nx, wp_bk_ct, wp_bk_bk, wp_bk_rt, wp_r1, wp_r2, wp_add, wp_addL, wp_addS, wp_mul, wp_fdiv, wp_mod, wp_I0, wp_eqI, wp_eqS, wp_eqB, wp_neI, wp_neS, wp_neB, wp_isN, wp_notN, isn_int, isn_non, isn_str, isn_tup, isn_lst, isn_ref, isn_bl, wp_isi, wp_someB, isi_str_str, isi_int_int, isi_int_bl, isi_bool_int, isi_bool_bl, isi_int_non, isi_int_str, isi_tuple_tup, wp_abs, wp_max2, wp_min2, wp_maxT, wp_intI, wp_intB, wp_lenS, wp_lenT, wp_lenL, wp_lenC, wp_divmod, wp_listL, wp_listT, wp_tupL, wp_tupT, wp_KIn, wp_strE, wp_Fld, wp_FldO, wp_Meth, wp_MakeF, wp_someL, wp_iR1, wp_iR2, wp_iLst, wp_iTup, wp_Prop, wp_IsC, wp_DGet1, wp_DIn, wp_gUnl, wp_DictK, wp_rep, wp_MethK, wp_CallK, wp_DispF, wp_DIx, wp_someX, wp_ixL, wp_ixT, wp_ixC, atI0, atI1, atI2, ixN0, ixN1, wp_Sl, wp_oNone, wp_oSome, wp_slC, wp_slL, wp_slS, str_eq, String.reduceEq, in_ring_crowd, in_ring_star, in_ring_pairs, in_ring_row, in_ring_ring, in_ring_core, in_ring_linked, in_ring_odd_ring, in_ring_even_ring, Bool.or_self, Bool.and_self, wp_Lc, wp_Yes, wp_pow10_9, wp_pow10_18, wp_pow10_40, wp_For, wp_sFld, wp_last, set_last, wp_KIx, wp_inT, wp_inL, eqF_str, flat_str, flat_int, flat_non, List.any_cons, List.any_nil, List.all_cons, List.all_nil, Bool.and_true, Bool.or_false, Bool.true_and, Bool.false_and, Bool.and_false, Bool.false_or, Bool.or_true, Bool.true_or, Bool.not_not, List.map_cons, List.map_nil, List.length_cons, List.length_nil, List.cons_append, List.nil_append, List.append_nil, List.set_cons_zero, List.set_cons_succ, List.replicate_succ, List.replicate_zero, Nat.reduceSub, Nat.reduceAdd, Nat.reduceLeDiff, Nat.zero_add, Nat.sub_self, decide_eq_true_eq, Bool.not_eq_true', Bool.not_eq_eq_eq_not, Bool.not_true, Bool.not_false, decide_eq_false_iff_not, if_true, if_false, reduceIte, Bool.false_eq_true, true_and, and_true, decide_true, decide_false, Bool.true_eq_false, eq_self]
    refine r_draw hp2 (by decide) (by decide) fun r3 S3 g0 g1 hp3 ap3 => ?_
    have ht3 : Tb S3 := by
      show S3[0]? = _
      rw [ap3.2 0 (by omega)]
      exact ht2
    obtain ⟨x, hx, hxm⟩ := atI_in (xs := X9) (i := r3) g0 (by simpa using g1)
    obtain ⟨bad, rp, hrp, hok⟩ := X9_ok hxm
    try simp only [R_some, wb_bl, wi_int, wstr_str, wtup_tup, wlst_lst, wref_ref, wp_var0, wp_varS, wp_C, wp_Bin, wp_neg, wp_nil, wp_cons, wp_tup, wp_lst, wp_lstM, wp_Call, wp_And, wp_Or, wp_Not, wp_Test, wp_tAnd, wp_tOr, wp_tNot, wp_If, wp_Chain, wp_Skip, wp_Break, wp_Cont, wp_Never, wp_fNever, wp_pfl_nx, wp_pfl_rt, wp_pfl_bk, wp_pfl_ct, wp_Expr, wp_Ret, wp_sIf, wp_Asg, wp_N, wp_gNil, wp_gCons, wp_gTup, wp_gSub, wp_Par, wp_two, wp_Run, wp_run_rt, wp_run_nx, wp_bk_nx, wp_bk_ct, wp_bk_bk, wp_bk_rt, wp_r1, wp_r2, wp_add, wp_addL, wp_addS, wp_mul, wp_fdiv, wp_mod, wp_I0, wp_eqI, wp_eqS, wp_eqB, wp_neI, wp_neS, wp_neB, wp_isN, wp_notN, isn_int, isn_non, isn_str, isn_tup, isn_lst, isn_ref, isn_bl, wp_isi, wp_someB, isi_str_str, isi_int_int, isi_int_bl, isi_bool_int, isi_bool_bl, isi_int_non, isi_int_str, isi_tuple_tup, wp_abs, wp_max2, wp_min2, wp_maxT, wp_intI, wp_intB, wp_lenS, wp_lenT, wp_lenL, wp_lenC, wp_divmod, wp_listL, wp_listT, wp_tupL, wp_tupT, wp_KIn, wp_strE, wp_Fld, wp_FldO, wp_Meth, wp_MakeF, wp_someL, wp_iR1, wp_iR2, wp_iLst, wp_iTup, wp_Prop, wp_IsC, wp_DGet1, wp_DIn, wp_gUnl, wp_DictK, wp_rep, wp_MethK, wp_CallK, wp_DispF, wp_DIx, wp_someX, wp_ixL, wp_ixT, wp_ixC, atI0, atI1, atI2, ixN0, ixN1, wp_Sl, wp_oNone, wp_oSome, wp_slC, wp_slL, wp_slS, str_eq, String.reduceEq, in_ring_crowd, in_ring_star, in_ring_pairs, in_ring_row, in_ring_ring, in_ring_core, in_ring_linked, in_ring_odd_ring, in_ring_even_ring, Bool.or_self, Bool.and_self, wp_Lc, wp_Yes, wp_pow10_9, wp_pow10_18, wp_pow10_40, wp_For, wp_sFld, wp_last, set_last, wp_KIx, wp_inT, wp_inL, eqF_str, flat_str, flat_int, flat_non, List.any_cons, List.any_nil, List.all_cons, List.all_nil, Bool.and_true, Bool.or_false, Bool.true_and, Bool.false_and, Bool.and_false, Bool.false_or, Bool.or_true, Bool.true_or, Bool.not_not, List.map_cons, List.map_nil, List.length_cons, List.length_nil, List.cons_append, List.nil_append, List.append_nil, List.set_cons_zero, List.set_cons_succ, List.replicate_succ, List.replicate_zero, Nat.reduceSub, Nat.reduceAdd, Nat.reduceLeDiff, Nat.zero_add, Nat.sub_self, decide_eq_true_eq, Bool.not_eq_true', Bool.not_eq_eq_eq_not, Bool.not_true, Bool.not_false, decide_eq_false_iff_not, if_true, if_false, reduceIte, Bool.false_eq_true, true_and, and_true, decide_true, decide_false, Bool.true_eq_false, eq_self]
    refine ⟨_, hx, ?_⟩
    try simp only [R_some, wb_bl, wi_int, wstr_str, wtup_tup, wlst_lst, wref_ref, wp_var0, wp_varS, wp_C, wp_Bin, wp_neg, wp_nil, wp_cons, wp_tup, wp_lst, wp_lstM, wp_Call, wp_And, wp_Or, wp_Not, wp_Test, wp_tAnd, wp_tOr, wp_tNot, wp_If, wp_Chain, wp_Skip, wp_Break, wp_Cont, wp_Never, wp_fNever, wp_pfl_nx, wp_pfl_rt, wp_pfl_bk, wp_pfl_ct, wp_Expr, wp_Ret, wp_sIf, wp_Asg, wp_N, wp_gNil, wp_gCons, wp_gTup, wp_gSub, wp_Par, wp_two, wp_Run, wp_run_rt, wp_run_nx, wp_bk_nx, wp_bk_ct, wp_bk_bk, wp_bk_rt, wp_r1, wp_r2, wp_add, wp_addL, wp_addS, wp_mul, wp_fdiv, wp_mod, wp_I0, wp_eqI, wp_eqS, wp_eqB, wp_neI, wp_neS, wp_neB, wp_isN, wp_notN, isn_int, isn_non, isn_str, isn_tup, isn_lst, isn_ref, isn_bl, wp_isi, wp_someB, isi_str_str, isi_int_int, isi_int_bl, isi_bool_int, isi_bool_bl, isi_int_non, isi_int_str, isi_tuple_tup, wp_abs, wp_max2, wp_min2, wp_maxT, wp_intI, wp_intB, wp_lenS, wp_lenT, wp_lenL, wp_lenC, wp_divmod, wp_listL, wp_listT, wp_tupL, wp_tupT, wp_KIn, wp_strE, wp_Fld, wp_FldO, wp_Meth, wp_MakeF, wp_someL, wp_iR1, wp_iR2, wp_iLst, wp_iTup, wp_Prop, wp_IsC, wp_DGet1, wp_DIn, wp_gUnl, wp_DictK, wp_rep, wp_MethK, wp_CallK, wp_DispF, wp_DIx, wp_someX, wp_ixL, wp_ixT, wp_ixC, atI0, atI1, atI2, ixN0, ixN1, wp_Sl, wp_oNone, wp_oSome, wp_slC, wp_slL, wp_slS, str_eq, String.reduceEq, in_ring_crowd, in_ring_star, in_ring_pairs, in_ring_row, in_ring_ring, in_ring_core, in_ring_linked, in_ring_odd_ring, in_ring_even_ring, Bool.or_self, Bool.and_self, wp_Lc, wp_Yes, wp_pow10_9, wp_pow10_18, wp_pow10_40, wp_For, wp_sFld, wp_last, set_last, wp_KIx, wp_inT, wp_inL, eqF_str, flat_str, flat_int, flat_non, List.any_cons, List.any_nil, List.all_cons, List.all_nil, Bool.and_true, Bool.or_false, Bool.true_and, Bool.false_and, Bool.and_false, Bool.false_or, Bool.or_true, Bool.true_or, Bool.not_not, List.map_cons, List.map_nil, List.length_cons, List.length_nil, List.cons_append, List.nil_append, List.append_nil, List.set_cons_zero, List.set_cons_succ, List.replicate_succ, List.replicate_zero, Nat.reduceSub, Nat.reduceAdd, Nat.reduceLeDiff, Nat.zero_add, Nat.sub_self, decide_eq_true_eq, Bool.not_eq_true', Bool.not_eq_eq_eq_not, Bool.not_true, Bool.not_false, decide_eq_false_iff_not, if_true, if_false, reduceIte, Bool.false_eq_true, true_and, and_true, decide_true, decide_false, Bool.true_eq_false, eq_self]
    have c40 := fun {S : Sto} => chk_bad bad (M := M40) (S := S)
    have c10 := fun {S : Sto} => chk_bad bad (M := 10) (S := S)
    refine (seq_eqR (st_new (told_InvalidNumber ht3 ((meth_v rfl h_most rfl).trans (most_x c40).1) ((meth_x rfl h_most rfl).trans (most_x c40).2) hrp))).mpr ?_
    refine (seq_eqR (st_app (S0 := S3) (ts := [pairT ("InvalidNumber", rp)]) rfl (told_InvalidNumber (tb_app ht3 _) ((meth_v rfl h_forced rfl).trans (forced_x c40).1) ((meth_x rfl h_forced rfl).trans (forced_x c40).2) hrp) (Nat.le_of_ble_eq_true rfl))).mpr ?_
    refine (seq_eqR (st_app (S0 := S3) (ts := [pairT ("InvalidNumber", rp), pairT ("InvalidNumber", rp)]) rfl (told_InvalidNumber (tb_app ht3 _) ((meth_v rfl h_tied rfl).trans (tied_x c40).1) ((meth_x rfl h_tied rfl).trans (tied_x c40).2) hrp) (Nat.le_of_ble_eq_true rfl))).mpr ?_
    refine (seq_eqR (st_app (S0 := S3) (ts := [pairT ("InvalidNumber", rp), pairT ("InvalidNumber", rp), pairT ("InvalidNumber", rp)]) rfl (told_InvalidNumber (tb_app ht3 _) ((meth_v rfl h_full rfl).trans (full_x c10).1) ((meth_x rfl h_full rfl).trans (full_x c10).2) hrp) (Nat.le_of_ble_eq_true rfl))).mpr ?_
    refine (seq_eqR (if_same (S0 := S3) (ps := [("InvalidNumber", rp), ("InvalidNumber", rp), ("InvalidNumber", rp), ("InvalidNumber", rp)]) rfl ?_ (sh_all ?_))).mpr ?_
    · simp [fBin, fLst, fCons, fTup, fCall, fC, fNil, fVar, hrp, gRep, pairT]
    · simp [ok_InvalidNumber, hok]
    have S4h := tb_app ht3 [.lst (List.map pairT [("InvalidNumber", rp), ("InvalidNumber", rp), ("InvalidNumber", rp), ("InvalidNumber", rp)])]
    have S4p := prs_app hp3 [.lst (List.map pairT [("InvalidNumber", rp), ("InvalidNumber", rp), ("InvalidNumber", rp), ("InvalidNumber", rp)])]
    generalize S3 ++ [Cell.lst (List.map pairT [("InvalidNumber", rp), ("InvalidNumber", rp), ("InvalidNumber", rp), ("InvalidNumber", rp)])] = S4 at S4h S4p ⊢
    have f40 := fun {S : Sto} => chk_many (n := M40 + 1) (M := M40) (by decide) (by decide) (S := S)
    have f10 := fun {S : Sto} => chk_many (n := 11) (M := 10) (by decide) (by decide) (S := S)
    obtain ⟨hfar, okfar⟩ := far_repr
    obtain ⟨h11, _⟩ := rp_11
    refine (seq_eqR (st_new (told_TooMany S4h ((methK_v rfl h_most rfl).trans (most_x f40).1) ((methK_x rfl h_most rfl).trans (most_x f40).2) hfar))).mpr ?_
    refine (seq_eqR (st_app (S0 := S4) (ts := [pairT ("TooMany", FAR)]) rfl (told_TooMany (tb_app S4h _) ((methK_v rfl h_forced rfl).trans (forced_x f40).1) ((methK_x rfl h_forced rfl).trans (forced_x f40).2) hfar) (Nat.le_of_ble_eq_true rfl))).mpr ?_
    refine (seq_eqR (st_app (S0 := S4) (ts := [pairT ("TooMany", FAR), pairT ("TooMany", FAR)]) rfl (told_TooMany (tb_app S4h _) ((meth_v rfl h_tied rfl).trans (tied_x f40).1) ((meth_x rfl h_tied rfl).trans (tied_x f40).2) hfar) (Nat.le_of_ble_eq_true rfl))).mpr ?_
    refine (seq_eqR (st_app (S0 := S4) (ts := [pairT ("TooMany", FAR), pairT ("TooMany", FAR), pairT ("TooMany", FAR)]) rfl (told_TooMany (tb_app S4h _) ((methK_v rfl h_full rfl).trans (full_x f10).1) ((methK_x rfl h_full rfl).trans (full_x f10).2) h11) (Nat.le_of_ble_eq_true rfl))).mpr ?_
    refine (seq_eqR (if_same (S0 := S4) (ps := [("TooMany", FAR), ("TooMany", FAR), ("TooMany", FAR), ("TooMany", "11")]) rfl ?_ (sh_all ?_))).mpr ?_
    · simp [fBin, fLst, fCons, fTup, fCall, fC, fNil, fVar, hfar, gRep, gAdd, pairT]
    · simp [ok_TooMany, okfar, ok_11]
    have S5h := tb_app S4h [.lst (List.map pairT [("TooMany", FAR), ("TooMany", FAR), ("TooMany", FAR), ("TooMany", "11")])]
    have S5p := prs_app S4p [.lst (List.map pairT [("TooMany", FAR), ("TooMany", FAR), ("TooMany", FAR), ("TooMany", "11")])]
    generalize S4 ++ [Cell.lst (List.map pairT [("TooMany", FAR), ("TooMany", FAR), ("TooMany", FAR), ("TooMany", "11")])] = S5 at S5h S5p ⊢
    rw [wp_Seq]
    simp only [R_some, wb_bl, wi_int, wstr_str, wtup_tup, wlst_lst, wref_ref, wp_var0, wp_varS, wp_C, wp_Bin, wp_neg, wp_nil, wp_cons, wp_tup, wp_lst, wp_lstM, wp_Call, wp_And, wp_Or, wp_Not, wp_Test, wp_tAnd, wp_tOr, wp_tNot, wp_If, wp_Chain, wp_Skip, wp_Break, wp_Cont, wp_Never, wp_fNever, wp_pfl_nx, wp_pfl_rt, wp_pfl_bk, wp_pfl_ct, wp_Expr, wp_Ret, wp_sIf, wp_Asg, wp_N, wp_gNil, wp_gCons, wp_gTup, wp_gSub, wp_Par, wp_two, wp_Run, wp_run_rt, wp_run_nx, wp_bk_nx, wp_bk_ct, wp_bk_bk, wp_bk_rt, wp_r1, wp_r2, wp_add, wp_addL, wp_addS, wp_mul, wp_fdiv, wp_mod, wp_I0, wp_eqI, wp_eqS, wp_eqB, wp_neI, wp_neS, wp_neB, wp_isN, wp_notN, isn_int, isn_non, isn_str, isn_tup, isn_lst, isn_ref, isn_bl, wp_isi, wp_someB, isi_str_str, isi_int_int, isi_int_bl, isi_bool_int, isi_bool_bl, isi_int_non, isi_int_str, isi_tuple_tup, wp_abs, wp_max2, wp_min2, wp_maxT, wp_intI, wp_intB, wp_lenS, wp_lenT, wp_lenL, wp_lenC, wp_divmod, wp_listL, wp_listT, wp_tupL, wp_tupT, wp_KIn, wp_strE, wp_Fld, wp_FldO, wp_Meth, wp_MakeF, wp_someL, wp_iR1, wp_iR2, wp_iLst, wp_iTup, wp_Prop, wp_IsC, wp_DGet1, wp_DIn, wp_gUnl, wp_DictK, wp_rep, wp_MethK, wp_CallK, wp_DispF, wp_DIx, wp_someX, wp_ixL, wp_ixT, wp_ixC, atI0, atI1, atI2, ixN0, ixN1, wp_Sl, wp_oNone, wp_oSome, wp_slC, wp_slL, wp_slS, str_eq, String.reduceEq, in_ring_crowd, in_ring_star, in_ring_pairs, in_ring_row, in_ring_ring, in_ring_core, in_ring_linked, in_ring_odd_ring, in_ring_even_ring, Bool.or_self, Bool.and_self, wp_Lc, wp_Yes, wp_pow10_9, wp_pow10_18, wp_pow10_40, wp_For, wp_sFld, wp_last, set_last, wp_KIx, wp_inT, wp_inL, eqF_str, flat_str, flat_int, flat_non, List.any_cons, List.any_nil, List.all_cons, List.all_nil, Bool.and_true, Bool.or_false, Bool.true_and, Bool.false_and, Bool.and_false, Bool.false_or, Bool.or_true, Bool.true_or, Bool.not_not, List.map_cons, List.map_nil, List.length_cons, List.length_nil, List.cons_append, List.nil_append, List.append_nil, List.set_cons_zero, List.set_cons_succ, List.replicate_succ, List.replicate_zero, Nat.reduceSub, Nat.reduceAdd, Nat.reduceLeDiff, Nat.zero_add, Nat.sub_self, decide_eq_true_eq, Bool.not_eq_true', Bool.not_eq_eq_eq_not, Bool.not_true, Bool.not_false, decide_eq_false_iff_not, if_true, if_false, reduceIte, Bool.false_eq_true, true_and, and_true, decide_true, decide_false, Bool.true_eq_false, eq_self]
    refine r_draw S5p (by decide) (by decide) fun n S6 n0 n1 hp6 ap6 => ?_
    have ht6 : Tb S6 := by
      show S6[0]? = _
      rw [ap6.2 0 (by omega)]
      exact S5h
    try simp only [R_some, wb_bl, wi_int, wstr_str, wtup_tup, wlst_lst, wref_ref, wp_var0, wp_varS, wp_C, wp_Bin, wp_neg, wp_nil, wp_cons, wp_tup, wp_lst, wp_lstM, wp_Call, wp_And, wp_Or, wp_Not, wp_Test, wp_tAnd, wp_tOr, wp_tNot, wp_If, wp_Chain, wp_Skip, wp_Break, wp_Cont, wp_Never, wp_fNever, wp_pfl_nx, wp_pfl_rt, wp_pfl_bk, wp_pfl_ct, wp_Expr, wp_Ret, wp_sIf, wp_Asg, wp_N, wp_gNil, wp_gCons, wp_gTup, wp_gSub, wp_Par, wp_two, wp_Run, wp_run_rt, wp_run_nx, wp_bk_nx, wp_bk_ct, wp_bk_bk, wp_bk_rt, wp_r1, wp_r2, wp_add, wp_addL, wp_addS, wp_mul, wp_fdiv, wp_mod, wp_I0, wp_eqI, wp_eqS, wp_eqB, wp_neI, wp_neS, wp_neB, wp_isN, wp_notN, isn_int, isn_non, isn_str, isn_tup, isn_lst, isn_ref, isn_bl, wp_isi, wp_someB, isi_str_str, isi_int_int, isi_int_bl, isi_bool_int, isi_bool_bl, isi_int_non, isi_int_str, isi_tuple_tup, wp_abs, wp_max2, wp_min2, wp_maxT, wp_intI, wp_intB, wp_lenS, wp_lenT, wp_lenL, wp_lenC, wp_divmod, wp_listL, wp_listT, wp_tupL, wp_tupT, wp_KIn, wp_strE, wp_Fld, wp_FldO, wp_Meth, wp_MakeF, wp_someL, wp_iR1, wp_iR2, wp_iLst, wp_iTup, wp_Prop, wp_IsC, wp_DGet1, wp_DIn, wp_gUnl, wp_DictK, wp_rep, wp_MethK, wp_CallK, wp_DispF, wp_DIx, wp_someX, wp_ixL, wp_ixT, wp_ixC, atI0, atI1, atI2, ixN0, ixN1, wp_Sl, wp_oNone, wp_oSome, wp_slC, wp_slL, wp_slS, str_eq, String.reduceEq, in_ring_crowd, in_ring_star, in_ring_pairs, in_ring_row, in_ring_ring, in_ring_core, in_ring_linked, in_ring_odd_ring, in_ring_even_ring, Bool.or_self, Bool.and_self, wp_Lc, wp_Yes, wp_pow10_9, wp_pow10_18, wp_pow10_40, wp_For, wp_sFld, wp_last, set_last, wp_KIx, wp_inT, wp_inL, eqF_str, flat_str, flat_int, flat_non, List.any_cons, List.any_nil, List.all_cons, List.all_nil, Bool.and_true, Bool.or_false, Bool.true_and, Bool.false_and, Bool.and_false, Bool.false_or, Bool.or_true, Bool.true_or, Bool.not_not, List.map_cons, List.map_nil, List.length_cons, List.length_nil, List.cons_append, List.nil_append, List.append_nil, List.set_cons_zero, List.set_cons_succ, List.replicate_succ, List.replicate_zero, Nat.reduceSub, Nat.reduceAdd, Nat.reduceLeDiff, Nat.zero_add, Nat.sub_self, decide_eq_true_eq, Bool.not_eq_true', Bool.not_eq_eq_eq_not, Bool.not_true, Bool.not_false, decide_eq_false_iff_not, if_true, if_false, reduceIte, Bool.false_eq_true, true_and, and_true, decide_true, decide_false, Bool.true_eq_false, eq_self]
    rw [wp_Seq]
    simp only [R_some, wb_bl, wi_int, wstr_str, wtup_tup, wlst_lst, wref_ref, wp_var0, wp_varS, wp_C, wp_Bin, wp_neg, wp_nil, wp_cons, wp_tup, wp_lst, wp_lstM, wp_Call, wp_And, wp_Or, wp_Not, wp_Test, wp_tAnd, wp_tOr, wp_tNot, wp_If, wp_Chain, wp_Skip, wp_Break, wp_Cont, wp_Never, wp_fNever, wp_pfl_nx, wp_pfl_rt, wp_pfl_bk, wp_pfl_ct, wp_Expr, wp_Ret, wp_sIf, wp_Asg, wp_N, wp_gNil, wp_gCons, wp_gTup, wp_gSub, wp_Par, wp_two, wp_Run, wp_run_rt, wp_run_nx, wp_bk_nx, wp_bk_ct, wp_bk_bk, wp_bk_rt, wp_r1, wp_r2, wp_add, wp_addL, wp_addS, wp_mul, wp_fdiv, wp_mod, wp_I0, wp_eqI, wp_eqS, wp_eqB, wp_neI, wp_neS, wp_neB, wp_isN, wp_notN, isn_int, isn_non, isn_str, isn_tup, isn_lst, isn_ref, isn_bl, wp_isi, wp_someB, isi_str_str, isi_int_int, isi_int_bl, isi_bool_int, isi_bool_bl, isi_int_non, isi_int_str, isi_tuple_tup, wp_abs, wp_max2, wp_min2, wp_maxT, wp_intI, wp_intB, wp_lenS, wp_lenT, wp_lenL, wp_lenC, wp_divmod, wp_listL, wp_listT, wp_tupL, wp_tupT, wp_KIn, wp_strE, wp_Fld, wp_FldO, wp_Meth, wp_MakeF, wp_someL, wp_iR1, wp_iR2, wp_iLst, wp_iTup, wp_Prop, wp_IsC, wp_DGet1, wp_DIn, wp_gUnl, wp_DictK, wp_rep, wp_MethK, wp_CallK, wp_DispF, wp_DIx, wp_someX, wp_ixL, wp_ixT, wp_ixC, atI0, atI1, atI2, ixN0, ixN1, wp_Sl, wp_oNone, wp_oSome, wp_slC, wp_slL, wp_slS, str_eq, String.reduceEq, in_ring_crowd, in_ring_star, in_ring_pairs, in_ring_row, in_ring_ring, in_ring_core, in_ring_linked, in_ring_odd_ring, in_ring_even_ring, Bool.or_self, Bool.and_self, wp_Lc, wp_Yes, wp_pow10_9, wp_pow10_18, wp_pow10_40, wp_For, wp_sFld, wp_last, set_last, wp_KIx, wp_inT, wp_inL, eqF_str, flat_str, flat_int, flat_non, List.any_cons, List.any_nil, List.all_cons, List.all_nil, Bool.and_true, Bool.or_false, Bool.true_and, Bool.false_and, Bool.and_false, Bool.false_or, Bool.or_true, Bool.true_or, Bool.not_not, List.map_cons, List.map_nil, List.length_cons, List.length_nil, List.cons_append, List.nil_append, List.append_nil, List.set_cons_zero, List.set_cons_succ, List.replicate_succ, List.replicate_zero, Nat.reduceSub, Nat.reduceAdd, Nat.reduceLeDiff, Nat.zero_add, Nat.sub_self, decide_eq_true_eq, Bool.not_eq_true', Bool.not_eq_eq_eq_not, Bool.not_true, Bool.not_false, decide_eq_false_iff_not, if_true, if_false, reduceIte, Bool.false_eq_true, true_and, and_true, decide_true, decide_false, Bool.true_eq_false, eq_self]
    rw [wp_p30]
    try simp only [R_some, wb_bl, wi_int, wstr_str, wtup_tup, wlst_lst, wref_ref, wp_var0, wp_varS, wp_C, wp_Bin, wp_neg, wp_nil, wp_cons, wp_tup, wp_lst, wp_lstM, wp_Call, wp_And, wp_Or, wp_Not, wp_Test, wp_tAnd, wp_tOr, wp_tNot, wp_If, wp_Chain, wp_Skip, wp_Break, wp_Cont, wp_Never, wp_fNever, wp_pfl_nx, wp_pfl_rt, wp_pfl_bk, wp_pfl_ct, wp_Expr, wp_Ret, wp_sIf, wp_Asg, wp_N, wp_gNil, wp_gCons, wp_gTup, wp_gSub, wp_Par, wp_two, wp_Run, wp_run_rt, wp_run_nx, wp_bk_nx, wp_bk_ct, wp_bk_bk, wp_bk_rt, wp_r1, wp_r2, wp_add, wp_addL, wp_addS, wp_mul, wp_fdiv, wp_mod, wp_I0, wp_eqI, wp_eqS, wp_eqB, wp_neI, wp_neS, wp_neB, wp_isN, wp_notN, isn_int, isn_non, isn_str, isn_tup, isn_lst, isn_ref, isn_bl, wp_isi, wp_someB, isi_str_str, isi_int_int, isi_int_bl, isi_bool_int, isi_bool_bl, isi_int_non, isi_int_str, isi_tuple_tup, wp_abs, wp_max2, wp_min2, wp_maxT, wp_intI, wp_intB, wp_lenS, wp_lenT, wp_lenL, wp_lenC, wp_divmod, wp_listL, wp_listT, wp_tupL, wp_tupT, wp_KIn, wp_strE, wp_Fld, wp_FldO, wp_Meth, wp_MakeF, wp_someL, wp_iR1, wp_iR2, wp_iLst, wp_iTup, wp_Prop, wp_IsC, wp_DGet1, wp_DIn, wp_gUnl, wp_DictK, wp_rep, wp_MethK, wp_CallK, wp_DispF, wp_DIx, wp_someX, wp_ixL, wp_ixT, wp_ixC, atI0, atI1, atI2, ixN0, ixN1, wp_Sl, wp_oNone, wp_oSome, wp_slC, wp_slL, wp_slS, str_eq, String.reduceEq, in_ring_crowd, in_ring_star, in_ring_pairs, in_ring_row, in_ring_ring, in_ring_core, in_ring_linked, in_ring_odd_ring, in_ring_even_ring, Bool.or_self, Bool.and_self, wp_Lc, wp_Yes, wp_pow10_9, wp_pow10_18, wp_pow10_40, wp_For, wp_sFld, wp_last, set_last, wp_KIx, wp_inT, wp_inL, eqF_str, flat_str, flat_int, flat_non, List.any_cons, List.any_nil, List.all_cons, List.all_nil, Bool.and_true, Bool.or_false, Bool.true_and, Bool.false_and, Bool.and_false, Bool.false_or, Bool.or_true, Bool.true_or, Bool.not_not, List.map_cons, List.map_nil, List.length_cons, List.length_nil, List.cons_append, List.nil_append, List.append_nil, List.set_cons_zero, List.set_cons_succ, List.replicate_succ, List.replicate_zero, Nat.reduceSub, Nat.reduceAdd, Nat.reduceLeDiff, Nat.zero_add, Nat.sub_self, decide_eq_true_eq, Bool.not_eq_true', Bool.not_eq_eq_eq_not, Bool.not_true, Bool.not_false, decide_eq_false_iff_not, if_true, if_false, reduceIte, Bool.false_eq_true, true_and, and_true, decide_true, decide_false, Bool.true_eq_false, eq_self]
    refine r_draw hp6 (by decide) (by decide) fun r7 S7 k0 k1 hp7 ap7 => ?_
    have ht7 : Tb S7 := by
      show S7[0]? = _
      rw [ap7.2 0 (by omega)]
      exact ht6
    obtain ⟨y, hy, hym⟩ := atI_in (xs := Y8 (2 + n)) (i := r7) k0 (by simpa using k1)
    obtain ⟨badC, ry, hry, hoky⟩ := Y8_ok (n := 2 + n) (by omega) (by omega) hym
    obtain ⟨h1r, _⟩ := rp_1
    obtain ⟨h0r, _⟩ := rp_0
    try simp only [R_some, wb_bl, wi_int, wstr_str, wtup_tup, wlst_lst, wref_ref, wp_var0, wp_varS, wp_C, wp_Bin, wp_neg, wp_nil, wp_cons, wp_tup, wp_lst, wp_lstM, wp_Call, wp_And, wp_Or, wp_Not, wp_Test, wp_tAnd, wp_tOr, wp_tNot, wp_If, wp_Chain, wp_Skip, wp_Break, wp_Cont, wp_Never, wp_fNever, wp_pfl_nx, wp_pfl_rt, wp_pfl_bk, wp_pfl_ct, wp_Expr, wp_Ret, wp_sIf, wp_Asg, wp_N, wp_gNil, wp_gCons, wp_gTup, wp_gSub, wp_Par, wp_two, wp_Run, wp_run_rt, wp_run_nx, wp_bk_nx, wp_bk_ct, wp_bk_bk, wp_bk_rt, wp_r1, wp_r2, wp_add, wp_addL, wp_addS, wp_mul, wp_fdiv, wp_mod, wp_I0, wp_eqI, wp_eqS, wp_eqB, wp_neI, wp_neS, wp_neB, wp_isN, wp_notN, isn_int, isn_non, isn_str, isn_tup, isn_lst, isn_ref, isn_bl, wp_isi, wp_someB, isi_str_str, isi_int_int, isi_int_bl, isi_bool_int, isi_bool_bl, isi_int_non, isi_int_str, isi_tuple_tup, wp_abs, wp_max2, wp_min2, wp_maxT, wp_intI, wp_intB, wp_lenS, wp_lenT, wp_lenL, wp_lenC, wp_divmod, wp_listL, wp_listT, wp_tupL, wp_tupT, wp_KIn, wp_strE, wp_Fld, wp_FldO, wp_Meth, wp_MakeF, wp_someL, wp_iR1, wp_iR2, wp_iLst, wp_iTup, wp_Prop, wp_IsC, wp_DGet1, wp_DIn, wp_gUnl, wp_DictK, wp_rep, wp_MethK, wp_CallK, wp_DispF, wp_DIx, wp_someX, wp_ixL, wp_ixT, wp_ixC, atI0, atI1, atI2, ixN0, ixN1, wp_Sl, wp_oNone, wp_oSome, wp_slC, wp_slL, wp_slS, str_eq, String.reduceEq, in_ring_crowd, in_ring_star, in_ring_pairs, in_ring_row, in_ring_ring, in_ring_core, in_ring_linked, in_ring_odd_ring, in_ring_even_ring, Bool.or_self, Bool.and_self, wp_Lc, wp_Yes, wp_pow10_9, wp_pow10_18, wp_pow10_40, wp_For, wp_sFld, wp_last, set_last, wp_KIx, wp_inT, wp_inL, eqF_str, flat_str, flat_int, flat_non, List.any_cons, List.any_nil, List.all_cons, List.all_nil, Bool.and_true, Bool.or_false, Bool.true_and, Bool.false_and, Bool.and_false, Bool.false_or, Bool.or_true, Bool.true_or, Bool.not_not, List.map_cons, List.map_nil, List.length_cons, List.length_nil, List.cons_append, List.nil_append, List.append_nil, List.set_cons_zero, List.set_cons_succ, List.replicate_succ, List.replicate_zero, Nat.reduceSub, Nat.reduceAdd, Nat.reduceLeDiff, Nat.zero_add, Nat.sub_self, decide_eq_true_eq, Bool.not_eq_true', Bool.not_eq_eq_eq_not, Bool.not_true, Bool.not_false, decide_eq_false_iff_not, if_true, if_false, reduceIte, Bool.false_eq_true, true_and, and_true, decide_true, decide_false, Bool.true_eq_false, eq_self]
    refine ⟨_, hy, ?_⟩
    try simp only [R_some, wb_bl, wi_int, wstr_str, wtup_tup, wlst_lst, wref_ref, wp_var0, wp_varS, wp_C, wp_Bin, wp_neg, wp_nil, wp_cons, wp_tup, wp_lst, wp_lstM, wp_Call, wp_And, wp_Or, wp_Not, wp_Test, wp_tAnd, wp_tOr, wp_tNot, wp_If, wp_Chain, wp_Skip, wp_Break, wp_Cont, wp_Never, wp_fNever, wp_pfl_nx, wp_pfl_rt, wp_pfl_bk, wp_pfl_ct, wp_Expr, wp_Ret, wp_sIf, wp_Asg, wp_N, wp_gNil, wp_gCons, wp_gTup, wp_gSub, wp_Par, wp_two, wp_Run, wp_run_rt, wp_run_nx, wp_bk_nx, wp_bk_ct, wp_bk_bk, wp_bk_rt, wp_r1, wp_r2, wp_add, wp_addL, wp_addS, wp_mul, wp_fdiv, wp_mod, wp_I0, wp_eqI, wp_eqS, wp_eqB, wp_neI, wp_neS, wp_neB, wp_isN, wp_notN, isn_int, isn_non, isn_str, isn_tup, isn_lst, isn_ref, isn_bl, wp_isi, wp_someB, isi_str_str, isi_int_int, isi_int_bl, isi_bool_int, isi_bool_bl, isi_int_non, isi_int_str, isi_tuple_tup, wp_abs, wp_max2, wp_min2, wp_maxT, wp_intI, wp_intB, wp_lenS, wp_lenT, wp_lenL, wp_lenC, wp_divmod, wp_listL, wp_listT, wp_tupL, wp_tupT, wp_KIn, wp_strE, wp_Fld, wp_FldO, wp_Meth, wp_MakeF, wp_someL, wp_iR1, wp_iR2, wp_iLst, wp_iTup, wp_Prop, wp_IsC, wp_DGet1, wp_DIn, wp_gUnl, wp_DictK, wp_rep, wp_MethK, wp_CallK, wp_DispF, wp_DIx, wp_someX, wp_ixL, wp_ixT, wp_ixC, atI0, atI1, atI2, ixN0, ixN1, wp_Sl, wp_oNone, wp_oSome, wp_slC, wp_slL, wp_slS, str_eq, String.reduceEq, in_ring_crowd, in_ring_star, in_ring_pairs, in_ring_row, in_ring_ring, in_ring_core, in_ring_linked, in_ring_odd_ring, in_ring_even_ring, Bool.or_self, Bool.and_self, wp_Lc, wp_Yes, wp_pow10_9, wp_pow10_18, wp_pow10_40, wp_For, wp_sFld, wp_last, set_last, wp_KIx, wp_inT, wp_inL, eqF_str, flat_str, flat_int, flat_non, List.any_cons, List.any_nil, List.all_cons, List.all_nil, Bool.and_true, Bool.or_false, Bool.true_and, Bool.false_and, Bool.and_false, Bool.false_or, Bool.or_true, Bool.true_or, Bool.not_not, List.map_cons, List.map_nil, List.length_cons, List.length_nil, List.cons_append, List.nil_append, List.append_nil, List.set_cons_zero, List.set_cons_succ, List.replicate_succ, List.replicate_zero, Nat.reduceSub, Nat.reduceAdd, Nat.reduceLeDiff, Nat.zero_add, Nat.sub_self, decide_eq_true_eq, Bool.not_eq_true', Bool.not_eq_eq_eq_not, Bool.not_true, Bool.not_false, decide_eq_false_iff_not, if_true, if_false, reduceIte, Bool.false_eq_true, true_and, and_true, decide_true, decide_false, Bool.true_eq_false, eq_self]
    have t1 := fun {z : D} {S : Sto} => tied_y (t := thing kd z) (S := S) (show (0 : Int) ≤ 2 + n by omega) (by omega) (two_1 (z := .int (-7)) badC)
    have t2 := fun {S : Sto} => tied_y (t := thing kd z) (S := S) (show (0 : Int) ≤ 2 + n by omega) (by omega) (two_2 (i := 1) (by decide) (by omega) badC)
    have t3 := fun {S : Sto} => tied_y (t := thing kd z) (S := S) (show (0 : Int) ≤ 2 + n by omega) (by omega) (two_3 (i := 1) (by decide) (by omega))
    have t4 := fun {S : Sto} => tied_y (t := thing kd z) (S := S) (n := 0) (by decide) (by decide) (two_1 (y := .int 0) (z := .int 1) (.big (by decide)))
    refine (seq_eqR (st_new (told_InvalidPerson ht7 ((meth_v rfl h_tied rfl).trans t1.1) ((meth_x rfl h_tied rfl).trans t1.2) hry))).mpr ?_
    refine (seq_eqR (st_app (S0 := S7) (ts := [pairT ("InvalidPerson", ry)]) rfl (told_InvalidPerson (tb_app ht7 _) ((meth_v rfl h_tied rfl).trans t2.1) ((meth_x rfl h_tied rfl).trans t2.2) hry) (Nat.le_of_ble_eq_true rfl))).mpr ?_
    refine (seq_eqR (st_app (S0 := S7) (ts := [pairT ("InvalidPerson", ry), pairT ("InvalidPerson", ry)]) rfl (told_InvalidPerson (tb_app ht7 _) ((methK_v rfl h_tied rfl).trans t3.1) ((methK_x rfl h_tied rfl).trans t3.2) h1r) (Nat.le_of_ble_eq_true rfl))).mpr ?_
    refine (seq_eqR (st_app (S0 := S7) (ts := [pairT ("InvalidPerson", ry), pairT ("InvalidPerson", ry), pairT ("InvalidPerson", "1")]) rfl (told_InvalidPerson (tb_app ht7 _) ((meth_v rfl h_tied rfl).trans t4.1) ((meth_x rfl h_tied rfl).trans t4.2) h0r) (Nat.le_of_ble_eq_true rfl))).mpr ?_
    refine (seq_eqR (set_of (d := .lst (List.map pairT [("InvalidPerson", ry), ("InvalidPerson", ry), ("InvalidPerson", "1"), ("InvalidPerson", "0")])) (S1 := S7 ++ [.lst [pairT ("InvalidPerson", ry), pairT ("InvalidPerson", ry), pairT ("InvalidPerson", "1"), pairT ("InvalidPerson", "0")]]) ?_)).mpr ?_
    · simp [fBin, fLst, fCons, fTup, fCall, fC, fNil, fVar, hry, gRep, gAdd, pairT]
    refine (eq_R (if_same (S0 := S7) (ps := [("InvalidPerson", ry), ("InvalidPerson", ry), ("InvalidPerson", "1"), ("InvalidPerson", "0")]) rfl ?_ (sh_all ?_))).mpr ?_
    · simp [fVar, pairT]
    · simp [ok_InvalidPerson, hoky, ok_1, ok_0]
    refine ⟨tb_app ht7 _, prs_app hp7 _, _, _, _, _, _, _, rfl⟩
  · rintro env S2 ⟨ht2, hp2, e6, e7, e8, e9, e10, e11, rfl⟩
    obtain ⟨l1, l2, l3⟩ := hlast S2
    simp only [R_some, wb_bl, wi_int, wstr_str, wtup_tup, wlst_lst, wref_ref, wp_var0, wp_varS, wp_C, wp_Bin, wp_neg, wp_nil, wp_cons, wp_tup, wp_lst, wp_lstM, wp_Call, wp_And, wp_Or, wp_Not, wp_Test, wp_tAnd, wp_tOr, wp_tNot, wp_If, wp_Chain, wp_Skip, wp_Break, wp_Cont, wp_Never, wp_fNever, wp_Seq, wp_pfl_nx, wp_pfl_rt, wp_pfl_bk, wp_pfl_ct, wp_Expr, wp_Ret, wp_sIf, wp_Asg, wp_N, wp_gNil, wp_gCons, wp_gTup, wp_gSub, wp_Par, wp_two, wp_Run, wp_run_rt, wp_run_nx, wp_bk_nx, wp_bk_ct, wp_bk_bk, wp_bk_rt, wp_r1, wp_r2, wp_add, wp_addL, wp_addS, wp_mul, wp_fdiv, wp_mod, wp_I0, wp_eqI, wp_eqS, wp_eqB, wp_neI, wp_neS, wp_neB, wp_isN, wp_notN, isn_int, isn_non, isn_str, isn_tup, isn_lst, isn_ref, isn_bl, wp_isi, wp_someB, isi_str_str, isi_int_int, isi_int_bl, isi_bool_int, isi_bool_bl, isi_int_non, isi_int_str, isi_tuple_tup, wp_abs, wp_max2, wp_min2, wp_maxT, wp_intI, wp_intB, wp_lenS, wp_lenT, wp_lenL, wp_lenC, wp_divmod, wp_listL, wp_listT, wp_tupL, wp_tupT, wp_KIn, wp_strE, wp_Fld, wp_FldO, wp_Meth, wp_MakeF, wp_someL, wp_iR1, wp_iR2, wp_iLst, wp_iTup, wp_Prop, wp_IsC, wp_DGet1, wp_DIn, wp_gUnl, wp_DictK, wp_rep, wp_MethK, wp_CallK, wp_DispF, wp_DIx, wp_someX, wp_ixL, wp_ixT, wp_ixC, atI0, atI1, atI2, ixN0, ixN1, wp_Sl, wp_oNone, wp_oSome, wp_slC, wp_slL, wp_slS, str_eq, String.reduceEq, in_ring_crowd, in_ring_star, in_ring_pairs, in_ring_row, in_ring_ring, in_ring_core, in_ring_linked, in_ring_odd_ring, in_ring_even_ring, Bool.or_self, Bool.and_self, wp_Lc, wp_Yes, wp_pow10_9, wp_pow10_18, wp_pow10_40, wp_For, wp_sFld, wp_last, set_last, wp_KIx, wp_inT, wp_inL, eqF_str, flat_str, flat_int, flat_non, List.any_cons, List.any_nil, List.all_cons, List.all_nil, Bool.and_true, Bool.or_false, Bool.true_and, Bool.false_and, Bool.and_false, Bool.false_or, Bool.or_true, Bool.true_or, Bool.not_not, List.map_cons, List.map_nil, List.length_cons, List.length_nil, List.cons_append, List.nil_append, List.append_nil, List.set_cons_zero, List.set_cons_succ, List.replicate_succ, List.replicate_zero, Nat.reduceSub, Nat.reduceAdd, Nat.reduceLeDiff, Nat.zero_add, Nat.sub_self, decide_eq_true_eq, Bool.not_eq_true', Bool.not_eq_eq_eq_not, Bool.not_true, Bool.not_false, decide_eq_false_iff_not, if_true, if_false, reduceIte, Bool.false_eq_true, true_and, and_true, decide_true, decide_false, Bool.true_eq_false, eq_self]
    refine ⟨⟨_, ins_th, h_most⟩, (eq_R l1).mpr ?_⟩
    simp only [R_some, wb_bl, wi_int, wstr_str, wtup_tup, wlst_lst, wref_ref, wp_var0, wp_varS, wp_C, wp_Bin, wp_neg, wp_nil, wp_cons, wp_tup, wp_lst, wp_lstM, wp_Call, wp_And, wp_Or, wp_Not, wp_Test, wp_tAnd, wp_tOr, wp_tNot, wp_If, wp_Chain, wp_Skip, wp_Break, wp_Cont, wp_Never, wp_fNever, wp_Seq, wp_pfl_nx, wp_pfl_rt, wp_pfl_bk, wp_pfl_ct, wp_Expr, wp_Ret, wp_sIf, wp_Asg, wp_N, wp_gNil, wp_gCons, wp_gTup, wp_gSub, wp_Par, wp_two, wp_Run, wp_run_rt, wp_run_nx, wp_bk_nx, wp_bk_ct, wp_bk_bk, wp_bk_rt, wp_r1, wp_r2, wp_add, wp_addL, wp_addS, wp_mul, wp_fdiv, wp_mod, wp_I0, wp_eqI, wp_eqS, wp_eqB, wp_neI, wp_neS, wp_neB, wp_isN, wp_notN, isn_int, isn_non, isn_str, isn_tup, isn_lst, isn_ref, isn_bl, wp_isi, wp_someB, isi_str_str, isi_int_int, isi_int_bl, isi_bool_int, isi_bool_bl, isi_int_non, isi_int_str, isi_tuple_tup, wp_abs, wp_max2, wp_min2, wp_maxT, wp_intI, wp_intB, wp_lenS, wp_lenT, wp_lenL, wp_lenC, wp_divmod, wp_listL, wp_listT, wp_tupL, wp_tupT, wp_KIn, wp_strE, wp_Fld, wp_FldO, wp_Meth, wp_MakeF, wp_someL, wp_iR1, wp_iR2, wp_iLst, wp_iTup, wp_Prop, wp_IsC, wp_DGet1, wp_DIn, wp_gUnl, wp_DictK, wp_rep, wp_MethK, wp_CallK, wp_DispF, wp_DIx, wp_someX, wp_ixL, wp_ixT, wp_ixC, atI0, atI1, atI2, ixN0, ixN1, wp_Sl, wp_oNone, wp_oSome, wp_slC, wp_slL, wp_slS, str_eq, String.reduceEq, in_ring_crowd, in_ring_star, in_ring_pairs, in_ring_row, in_ring_ring, in_ring_core, in_ring_linked, in_ring_odd_ring, in_ring_even_ring, Bool.or_self, Bool.and_self, wp_Lc, wp_Yes, wp_pow10_9, wp_pow10_18, wp_pow10_40, wp_For, wp_sFld, wp_last, set_last, wp_KIx, wp_inT, wp_inL, eqF_str, flat_str, flat_int, flat_non, List.any_cons, List.any_nil, List.all_cons, List.all_nil, Bool.and_true, Bool.or_false, Bool.true_and, Bool.false_and, Bool.and_false, Bool.false_or, Bool.or_true, Bool.true_or, Bool.not_not, List.map_cons, List.map_nil, List.length_cons, List.length_nil, List.cons_append, List.nil_append, List.append_nil, List.set_cons_zero, List.set_cons_succ, List.replicate_succ, List.replicate_zero, Nat.reduceSub, Nat.reduceAdd, Nat.reduceLeDiff, Nat.zero_add, Nat.sub_self, decide_eq_true_eq, Bool.not_eq_true', Bool.not_eq_eq_eq_not, Bool.not_true, Bool.not_false, decide_eq_false_iff_not, if_true, if_false, reduceIte, Bool.false_eq_true, true_and, and_true, decide_true, decide_false, Bool.true_eq_false, eq_self]
    refine ⟨⟨_, ins_th, h_forced⟩, (eq_R (show w_Thing_forced (kwG [0] [thing kd z] [.int 0]) S2 = some (.non, S2) from l2)).mpr ?_⟩
    rw [if_pos (show isNonD .non = true from rfl)]
    refine ⟨⟨_, ins_th, h_full⟩, (eq_R l3).mpr ⟨⟨(["many", "held"], [.int 0, .tup []]), by simp [insOf]⟩, ?_⟩⟩
    rw [eq_R (people0 S2)]
    simp only [R_some, wb_bl, wi_int, wstr_str, wtup_tup, wlst_lst, wref_ref, wp_var0, wp_varS, wp_C, wp_Bin, wp_neg, wp_nil, wp_cons, wp_tup, wp_lst, wp_lstM, wp_Call, wp_And, wp_Or, wp_Not, wp_Test, wp_tAnd, wp_tOr, wp_tNot, wp_If, wp_Chain, wp_Skip, wp_Break, wp_Cont, wp_Never, wp_fNever, wp_Seq, wp_pfl_nx, wp_pfl_rt, wp_pfl_bk, wp_pfl_ct, wp_Expr, wp_Ret, wp_sIf, wp_Asg, wp_N, wp_gNil, wp_gCons, wp_gTup, wp_gSub, wp_Par, wp_two, wp_Run, wp_run_rt, wp_run_nx, wp_bk_nx, wp_bk_ct, wp_bk_bk, wp_bk_rt, wp_r1, wp_r2, wp_add, wp_addL, wp_addS, wp_mul, wp_fdiv, wp_mod, wp_I0, wp_eqI, wp_eqS, wp_eqB, wp_neI, wp_neS, wp_neB, wp_isN, wp_notN, isn_int, isn_non, isn_str, isn_tup, isn_lst, isn_ref, isn_bl, wp_isi, wp_someB, isi_str_str, isi_int_int, isi_int_bl, isi_bool_int, isi_bool_bl, isi_int_non, isi_int_str, isi_tuple_tup, wp_abs, wp_max2, wp_min2, wp_maxT, wp_intI, wp_intB, wp_lenS, wp_lenT, wp_lenL, wp_lenC, wp_divmod, wp_listL, wp_listT, wp_tupL, wp_tupT, wp_KIn, wp_strE, wp_Fld, wp_FldO, wp_Meth, wp_MakeF, wp_someL, wp_iR1, wp_iR2, wp_iLst, wp_iTup, wp_Prop, wp_IsC, wp_DGet1, wp_DIn, wp_gUnl, wp_DictK, wp_rep, wp_MethK, wp_CallK, wp_DispF, wp_DIx, wp_someX, wp_ixL, wp_ixT, wp_ixC, atI0, atI1, atI2, ixN0, ixN1, wp_Sl, wp_oNone, wp_oSome, wp_slC, wp_slL, wp_slS, str_eq, String.reduceEq, in_ring_crowd, in_ring_star, in_ring_pairs, in_ring_row, in_ring_ring, in_ring_core, in_ring_linked, in_ring_odd_ring, in_ring_even_ring, Bool.or_self, Bool.and_self, wp_Lc, wp_Yes, wp_pow10_9, wp_pow10_18, wp_pow10_40, wp_For, wp_sFld, wp_last, set_last, wp_KIx, wp_inT, wp_inL, eqF_str, flat_str, flat_int, flat_non, List.any_cons, List.any_nil, List.all_cons, List.all_nil, Bool.and_true, Bool.or_false, Bool.true_and, Bool.false_and, Bool.and_false, Bool.false_or, Bool.or_true, Bool.true_or, Bool.not_not, List.map_cons, List.map_nil, List.length_cons, List.length_nil, List.cons_append, List.nil_append, List.append_nil, List.set_cons_zero, List.set_cons_succ, List.replicate_succ, List.replicate_zero, Nat.reduceSub, Nat.reduceAdd, Nat.reduceLeDiff, Nat.zero_add, Nat.sub_self, decide_eq_true_eq, Bool.not_eq_true', Bool.not_eq_eq_eq_not, Bool.not_true, Bool.not_false, decide_eq_false_iff_not, if_true, if_false, reduceIte, Bool.false_eq_true, true_and, and_true, decide_true, decide_false, Bool.true_eq_false, eq_self]
    exact ht2
theorem r_allT (ns : List Int) (hns : ns.length ≤ 63) {S : Sto} {P : D → Sto → Prop} {fi : FA} {m : Int} (hm0 : 0 ≤ m) (hm : m ≤ 1000) (hi : ∀ S, fi [some (.scr ns), none] S = some (rangeD 0 m, S)) (hS : Tb S) (hP : ∀ S, P (.bl true) S) :
    R (fCall cAll (fCons (fLc fi (gN 1) tYesD (fCall w__law_right (fCons (fCall w__law_purse (fCons (fVar 0) (fCons (fVar 1) fNil))) fNil)) [1]) fNil) [some (.scr ns), none] S) P := by
  simp only [R_some, wb_bl, wi_int, wstr_str, wtup_tup, wlst_lst, wref_ref, wp_var0, wp_varS, wp_C, wp_Bin, wp_neg, wp_nil, wp_cons, wp_tup, wp_lst, wp_lstM, wp_Call, wp_And, wp_Or, wp_Not, wp_Test, wp_tAnd, wp_tOr, wp_tNot, wp_If, wp_Chain, wp_Skip, wp_Break, wp_Cont, wp_Never, wp_fNever, wp_Seq, wp_pfl_nx, wp_pfl_rt, wp_pfl_bk, wp_pfl_ct, wp_Expr, wp_Ret, wp_sIf, wp_Asg, wp_N, wp_gNil, wp_gCons, wp_gTup, wp_gSub, wp_Par, wp_two, wp_Run, wp_run_rt, wp_run_nx, wp_bk_nx, wp_bk_ct, wp_bk_bk, wp_bk_rt, wp_r1, wp_r2, wp_add, wp_addL, wp_addS, wp_mul, wp_fdiv, wp_mod, wp_I0, wp_eqI, wp_eqS, wp_eqB, wp_neI, wp_neS, wp_neB, wp_isN, wp_notN, isn_int, isn_non, isn_str, isn_tup, isn_lst, isn_ref, isn_bl, wp_isi, wp_someB, isi_str_str, isi_int_int, isi_int_bl, isi_bool_int, isi_bool_bl, isi_int_non, isi_int_str, isi_tuple_tup, wp_abs, wp_max2, wp_min2, wp_maxT, wp_intI, wp_intB, wp_lenS, wp_lenT, wp_lenL, wp_lenC, wp_divmod, wp_listL, wp_listT, wp_tupL, wp_tupT, wp_KIn, wp_strE, wp_Fld, wp_FldO, wp_Meth, wp_MakeF, wp_someL, wp_iR1, wp_iR2, wp_iLst, wp_iTup, wp_Prop, wp_IsC, wp_DGet1, wp_DIn, wp_gUnl, wp_DictK, wp_rep, wp_MethK, wp_CallK, wp_DispF, wp_DIx, wp_someX, wp_ixL, wp_ixT, wp_ixC, atI0, atI1, atI2, ixN0, ixN1, wp_Sl, wp_oNone, wp_oSome, wp_slC, wp_slL, wp_slS, str_eq, String.reduceEq, in_ring_crowd, in_ring_star, in_ring_pairs, in_ring_row, in_ring_ring, in_ring_core, in_ring_linked, in_ring_odd_ring, in_ring_even_ring, Bool.or_self, Bool.and_self, wp_Lc, wp_Yes, wp_pow10_9, wp_pow10_18, wp_pow10_40, wp_For, wp_sFld, wp_last, set_last, wp_KIx, wp_inT, wp_inL, eqF_str, flat_str, flat_int, flat_non, List.any_cons, List.any_nil, List.all_cons, List.all_nil, Bool.and_true, Bool.or_false, Bool.true_and, Bool.false_and, Bool.and_false, Bool.false_or, Bool.or_true, Bool.true_or, Bool.not_not, List.map_cons, List.map_nil, List.length_cons, List.length_nil, List.cons_append, List.nil_append, List.append_nil, List.set_cons_zero, List.set_cons_succ, List.replicate_succ, List.replicate_zero, Nat.reduceSub, Nat.reduceAdd, Nat.reduceLeDiff, Nat.zero_add, Nat.sub_self, decide_eq_true_eq, Bool.not_eq_true', Bool.not_eq_eq_eq_not, Bool.not_true, Bool.not_false, decide_eq_false_iff_not, if_true, if_false, reduceIte, Bool.false_eq_true, true_and, and_true, decide_true, decide_false, Bool.true_eq_false, eq_self]
  refine ⟨_, _, hi S, by rw [len_range]; omega, ?_⟩
  refine (r_lcD (fun d => d = .bl true) (fun S => Tb S) ?_ hS).imp fun ds S2 h => eq_R (all_true h.1) |>.mpr (hP _)
  intro d hd S hS
  obtain ⟨k, rfl, hk0, hk⟩ := mem_range hd
  simp only [R_some, wb_bl, wi_int, wstr_str, wtup_tup, wlst_lst, wref_ref, wp_var0, wp_varS, wp_C, wp_Bin, wp_neg, wp_nil, wp_cons, wp_tup, wp_lst, wp_lstM, wp_Call, wp_And, wp_Or, wp_Not, wp_Test, wp_tAnd, wp_tOr, wp_tNot, wp_If, wp_Chain, wp_Skip, wp_Break, wp_Cont, wp_Never, wp_fNever, wp_Seq, wp_pfl_nx, wp_pfl_rt, wp_pfl_bk, wp_pfl_ct, wp_Expr, wp_Ret, wp_sIf, wp_Asg, wp_N, wp_gNil, wp_gCons, wp_gTup, wp_gSub, wp_Par, wp_two, wp_Run, wp_run_rt, wp_run_nx, wp_bk_nx, wp_bk_ct, wp_bk_bk, wp_bk_rt, wp_r1, wp_r2, wp_add, wp_addL, wp_addS, wp_mul, wp_fdiv, wp_mod, wp_I0, wp_eqI, wp_eqS, wp_eqB, wp_neI, wp_neS, wp_neB, wp_isN, wp_notN, isn_int, isn_non, isn_str, isn_tup, isn_lst, isn_ref, isn_bl, wp_isi, wp_someB, isi_str_str, isi_int_int, isi_int_bl, isi_bool_int, isi_bool_bl, isi_int_non, isi_int_str, isi_tuple_tup, wp_abs, wp_max2, wp_min2, wp_maxT, wp_intI, wp_intB, wp_lenS, wp_lenT, wp_lenL, wp_lenC, wp_divmod, wp_listL, wp_listT, wp_tupL, wp_tupT, wp_KIn, wp_strE, wp_Fld, wp_FldO, wp_Meth, wp_MakeF, wp_someL, wp_iR1, wp_iR2, wp_iLst, wp_iTup, wp_Prop, wp_IsC, wp_DGet1, wp_DIn, wp_gUnl, wp_DictK, wp_rep, wp_MethK, wp_CallK, wp_DispF, wp_DIx, wp_someX, wp_ixL, wp_ixT, wp_ixC, atI0, atI1, atI2, ixN0, ixN1, wp_Sl, wp_oNone, wp_oSome, wp_slC, wp_slL, wp_slS, str_eq, String.reduceEq, in_ring_crowd, in_ring_star, in_ring_pairs, in_ring_row, in_ring_ring, in_ring_core, in_ring_linked, in_ring_odd_ring, in_ring_even_ring, Bool.or_self, Bool.and_self, wp_Lc, wp_Yes, wp_pow10_9, wp_pow10_18, wp_pow10_40, wp_For, wp_sFld, wp_last, set_last, wp_KIx, wp_inT, wp_inL, eqF_str, flat_str, flat_int, flat_non, List.any_cons, List.any_nil, List.all_cons, List.all_nil, Bool.and_true, Bool.or_false, Bool.true_and, Bool.false_and, Bool.and_false, Bool.false_or, Bool.or_true, Bool.true_or, Bool.not_not, List.map_cons, List.map_nil, List.length_cons, List.length_nil, List.cons_append, List.nil_append, List.append_nil, List.set_cons_zero, List.set_cons_succ, List.replicate_succ, List.replicate_zero, Nat.reduceSub, Nat.reduceAdd, Nat.reduceLeDiff, Nat.zero_add, Nat.sub_self, decide_eq_true_eq, Bool.not_eq_true', Bool.not_eq_eq_eq_not, Bool.not_true, Bool.not_false, decide_eq_false_iff_not, if_true, if_false, reduceIte, Bool.false_eq_true, true_and, and_true, decide_true, decide_false, Bool.true_eq_false, eq_self, wipeD]
  refine r_purse ns hns k hk0 (by omega) S fun S' h1 h2 h3 => ?_
  have pos : 0 < S.length := (List.getElem?_eq_some_iff.mp hS).1
  exact (right_ok (show Tb S' by show S'[0]? = _; rw [h3 0 pos]; exact hS) h2 pos).imp fun d S3 h => h
theorem plain (ns : List Int) (h : ns.length ≤ 63) : ∃ S', lawD [.scr ns] [.tab (lamQ "_law_right")] = some (.bl true, S') := by
  obtain ⟨m, hm0, hm1, hm⟩ := max_range ns h [some (.scr ns), none] rfl (m4 := 4) ⟨by decide, by decide⟩
  have main : R (lawD [.scr ns] [.tab (lamQ "_law_right")]) fun d S' => d = .bl true := r_run (r_ret (r_allT ns h hm0 hm1 hm rfl fun S => rfl))
  obtain ⟨d, S', e, rfl⟩ := main
  exact ⟨S', e⟩
end LW

namespace LW
open PySem PySem.Spec PyProof.Rows L2 DL
theorem all_mk {l : PySem.W.OpenLaw} {w : World} {K : PySem.W.Frag} {h : Heap} {mg : Str → Option Value} {fa : Addr} (X : K.In h) (G : h.Ns mainGlobals mg) (hfa : mg "law" = some (.ref fa))
    {t_MOST_ASKED : Tok}
    {t_MOST_PEOPLE : Tok}
    {g_LEAST : Addr} {es_LEAST : Array DictEntry} {cn_LEAST : Nat}
    {ga_PLAIN : Addr} {gd_PLAIN : Option Addr} {gi_PLAIN : Array Value} {gn_PLAIN : Nat} {gs_PLAIN : Array (Option Value)}
    {C_Thing : Addr}
    {C_Party : Addr}
    {C_NoAnswer : Addr}
    {C_WrongValue : Addr}
    {C_NothingToUndo : Addr}
    {C_UnknownName : Addr}
    {C_Holding : Addr}
    {C_Unruly : Addr}
    {C_Broken : Addr}
    {C_NotTied : Addr}
    {C_AlreadyTied : Addr}
    {C_TooMany : Addr}
    {C_InvalidPeople : Addr}
    {C_InvalidTies : Addr}
    {C_OtherSize : Addr}
    {C_NotAGathering : Addr}
    {C_NotAParty : Addr}
    {C_NotAThing : Addr}
    {C_InvalidName : Addr}
    {C_InvalidIndex : Addr}
    {C_InvalidPerson : Addr}
    {C_InvalidKind : Addr}
    {C_InvalidNumber : Addr}
    {C_InvalidText : Addr}
    {f_InvalidNumber : Addr} {od_InvalidNumber an_InvalidNumber : Option Addr} {sl_InvalidNumber : Array (Option Value)} {oc_InvalidNumber kV_InvalidNumber dc_InvalidNumber pm_InvalidNumber cd_InvalidNumber ct_InvalidNumber : Value}
    {f_TooMany : Addr} {od_TooMany an_TooMany : Option Addr} {sl_TooMany : Array (Option Value)} {oc_TooMany kV_TooMany dc_TooMany pm_TooMany cd_TooMany ct_TooMany : Value}
    {f_InvalidPerson : Addr} {od_InvalidPerson an_InvalidPerson : Option Addr} {sl_InvalidPerson : Array (Option Value)} {oc_InvalidPerson kV_InvalidPerson dc_InvalidPerson pm_InvalidPerson cd_InvalidPerson ct_InvalidPerson : Value}
    {f_is_integer : Addr} {od_is_integer an_is_integer : Option Addr} {sl_is_integer : Array (Option Value)} {oc_is_integer kV_is_integer dc_is_integer pm_is_integer cd_is_integer ct_is_integer : Value}
    {f_is_between : Addr} {od_is_between an_is_between : Option Addr} {sl_is_between : Array (Option Value)} {oc_is_between kV_is_between dc_is_between pm_is_between cd_is_between ct_is_between : Value}
    {f_check_people : Addr} {od_check_people an_check_people : Option Addr} {sl_check_people : Array (Option Value)} {oc_check_people kV_check_people dc_check_people pm_check_people cd_check_people ct_check_people : Value}
    {f_check_two : Addr} {od_check_two an_check_two : Option Addr} {sl_check_two : Array (Option Value)} {oc_check_two kV_check_two dc_check_two pm_check_two cd_check_two ct_check_two : Value}
    {f_pairs_of : Addr} {od_pairs_of an_pairs_of : Option Addr} {sl_pairs_of : Array (Option Value)} {oc_pairs_of kV_pairs_of dc_pairs_of pm_pairs_of cd_pairs_of ct_pairs_of : Value}
    {f_most_rings : Addr} {od_most_rings an_most_rings : Option Addr} {sl_most_rings : Array (Option Value)} {oc_most_rings kV_most_rings dc_most_rings pm_most_rings cd_most_rings ct_most_rings : Value}
    {f_most_groups : Addr} {od_most_groups an_most_groups : Option Addr} {sl_most_groups : Array (Option Value)} {oc_most_groups kV_most_groups dc_most_groups pm_most_groups cd_most_groups ct_most_groups : Value}
    {f_most_pairs : Addr} {od_most_pairs an_most_pairs : Option Addr} {sl_most_pairs : Array (Option Value)} {oc_most_pairs kV_most_pairs dc_most_pairs pm_most_pairs cd_most_pairs ct_most_pairs : Value}
    {f_is_all_tied : Addr} {od_is_all_tied an_is_all_tied : Option Addr} {sl_is_all_tied : Array (Option Value)} {oc_is_all_tied kV_is_all_tied dc_is_all_tied pm_is_all_tied cd_is_all_tied ct_is_all_tied : Value}
    {f_most_of : Addr} {od_most_of an_most_of : Option Addr} {sl_most_of : Array (Option Value)} {oc_most_of kV_most_of dc_most_of pm_most_of cd_most_of ct_most_of : Value}
    {f_Thing___init__ : Addr} {od_Thing___init__ an_Thing___init__ : Option Addr} {sl_Thing___init__ : Array (Option Value)} {oc_Thing___init__ kV_Thing___init__ dc_Thing___init__ pm_Thing___init__ cd_Thing___init__ ct_Thing___init__ : Value}
    {dt_Thing___init__ : Addr} {do_Thing___init__ : Value} {dd_Thing___init__ : Option Addr} {di_Thing___init__ : Array Value} {dn_Thing___init__ : Nat} {ds_Thing___init__ : Array (Option Value)}
    {f_wrong_tie : Addr} {od_wrong_tie an_wrong_tie : Option Addr} {sl_wrong_tie : Array (Option Value)} {oc_wrong_tie kV_wrong_tie dc_wrong_tie pm_wrong_tie cd_wrong_tie ct_wrong_tie : Value}
    {f_all_ties : Addr} {od_all_ties an_all_ties : Option Addr} {sl_all_ties : Array (Option Value)} {oc_all_ties kV_all_ties dc_all_ties pm_all_ties cd_all_ties ct_all_ties : Value}
    {f_Party___init__ : Addr} {od_Party___init__ an_Party___init__ : Option Addr} {sl_Party___init__ : Array (Option Value)} {oc_Party___init__ kV_Party___init__ dc_Party___init__ pm_Party___init__ cd_Party___init__ ct_Party___init__ : Value}
    {dt_Party___init__ : Addr} {do_Party___init__ : Value} {dd_Party___init__ : Option Addr} {di_Party___init__ : Array Value} {dn_Party___init__ : Nat} {ds_Party___init__ : Array (Option Value)}
    {et_Party : Addr} {eo_Party : Option Addr} {es_Party : Array (Option Value)} {ei_Party : Array Value} {en_Party : Nat}
    {f_Party_people : Addr} {od_Party_people an_Party_people : Option Addr} {sl_Party_people : Array (Option Value)} {oc_Party_people kV_Party_people dc_Party_people pm_Party_people cd_Party_people ct_Party_people : Value}
    {pp_Party_people : Addr} {pr_Party_people : List Value}
    {f_Thing_most : Addr} {od_Thing_most an_Thing_most : Option Addr} {sl_Thing_most : Array (Option Value)} {oc_Thing_most kV_Thing_most dc_Thing_most pm_Thing_most cd_Thing_most ct_Thing_most : Value}
    {f_Thing_forced : Addr} {od_Thing_forced an_Thing_forced : Option Addr} {sl_Thing_forced : Array (Option Value)} {oc_Thing_forced kV_Thing_forced dc_Thing_forced pm_Thing_forced cd_Thing_forced ct_Thing_forced : Value}
    {f_Thing_tied : Addr} {od_Thing_tied an_Thing_tied : Option Addr} {sl_Thing_tied : Array (Option Value)} {oc_Thing_tied kV_Thing_tied dc_Thing_tied pm_Thing_tied cd_Thing_tied ct_Thing_tied : Value}
    {f_Thing_fullest : Addr} {od_Thing_fullest an_Thing_fullest : Option Addr} {sl_Thing_fullest : Array (Option Value)} {oc_Thing_fullest kV_Thing_fullest dc_Thing_fullest pm_Thing_fullest cd_Thing_fullest ct_Thing_fullest : Value}
    {f__law_purse : Addr} {od__law_purse an__law_purse : Option Addr} {sl__law_purse : Array (Option Value)} {oc__law_purse kV__law_purse dc__law_purse pm__law_purse cd__law_purse ct__law_purse : Value}
    {f__law_draw : Addr} {od__law_draw an__law_draw : Option Addr} {sl__law_draw : Array (Option Value)} {oc__law_draw kV__law_draw dc__law_draw pm__law_draw cd__law_draw ct__law_draw : Value}
    {f__law_things : Addr} {od__law_things an__law_things : Option Addr} {sl__law_things : Array (Option Value)} {oc__law_things kV__law_things dc__law_things pm__law_things cd__law_things ct__law_things : Value}
    {f__law_sort : Addr} {od__law_sort an__law_sort : Option Addr} {sl__law_sort : Array (Option Value)} {oc__law_sort kV__law_sort dc__law_sort pm__law_sort cd__law_sort ct__law_sort : Value}
    {f__law_attribute : Addr} {od__law_attribute an__law_attribute : Option Addr} {sl__law_attribute : Array (Option Value)} {oc__law_attribute kV__law_attribute dc__law_attribute pm__law_attribute cd__law_attribute ct__law_attribute : Value}
    {f__law_told : Addr} {od__law_told an__law_told : Option Addr} {sl__law_told : Array (Option Value)} {oc__law_told kV__law_told dc__law_told pm__law_told cd__law_told ct__law_told : Value}
    {f__law_right : Addr} {od__law_right an__law_right : Option Addr} {sl__law_right : Array (Option Value)} {oc__law_right kV__law_right dc__law_right pm__law_right cd__law_right ct__law_right : Value}
    {cq__law_right cp__law_right : Addr} {lv__law_right : Value} {ld__law_right : Option Addr} {la__law_right : Array Value} {ls__law_right : Array (Option Value)}
    {f_law : Addr} {od_law an_law : Option Addr} {sl_law : Array (Option Value)} {oc_law kV_law dc_law pm_law cd_law ct_law : Value}
    (n_abs : PySem.W.nsIn K mainGlobals "abs" = some none)
    (n_all : PySem.W.nsIn K mainGlobals "all" = some none)
    (n_bool : PySem.W.nsIn K mainGlobals "bool" = some none)
    (n_divmod : PySem.W.nsIn K mainGlobals "divmod" = some none)
    (n_enumerate : PySem.W.nsIn K mainGlobals "enumerate" = some none)
    (n_int : PySem.W.nsIn K mainGlobals "int" = some none)
    (n_isinstance : PySem.W.nsIn K mainGlobals "isinstance" = some none)
    (n_len : PySem.W.nsIn K mainGlobals "len" = some none)
    (n_max : PySem.W.nsIn K mainGlobals "max" = some none)
    (n_min : PySem.W.nsIn K mainGlobals "min" = some none)
    (n_range : PySem.W.nsIn K mainGlobals "range" = some none)
    (n_repr : PySem.W.nsIn K mainGlobals "repr" = some none)
    (n_str : PySem.W.nsIn K mainGlobals "str" = some none)
    (n_tuple : PySem.W.nsIn K mainGlobals "tuple" = some none)
    (c_MOST_ASKED : PySem.W.nsIn K mainGlobals "MOST_ASKED" = some (some (.int 10000000000000000000000000000000000000000 t_MOST_ASKED)))
    (c_MOST_PEOPLE : PySem.W.nsIn K mainGlobals "MOST_PEOPLE" = some (some (.int 10 t_MOST_PEOPLE)))
    (k_LEAST : PySem.W.nsIn K mainGlobals "LEAST" = some (some (.ref g_LEAST)))
    (l_LEAST : K.lookup g_LEAST = some ⟨.type "dict", none, .dict es_LEAST cn_LEAST, #[]⟩)
    (o_LEAST : TabOk w.params tab_LEAST es_LEAST.toList)
    (y_LEAST : (g_LEAST == sysModules) = false)
    (ta_PLAIN : PySem.W.nsIn K mainGlobals "PLAIN" = some (some (.ref ga_PLAIN)))
    (tl_PLAIN : K.lookup ga_PLAIN = some ⟨.type "tuple", gd_PLAIN, .seq gi_PLAIN gn_PLAIN, gs_PLAIN⟩)
    (tz_PLAIN : gi_PLAIN.size ≤ sizeLine)
    (tv_PLAIN : Vals [.str "odd ring", .str "even ring"] gi_PLAIN.toList)
    (ca_Thing : PySem.W.nsIn K mainGlobals "Thing" = some (some (.ref C_Thing)))
    (cpg_Thing : PySem.W.plainGet K C_Thing Str.empty = true)
    (chd_Thing : PySem.W.hasDictIn K C_Thing = true)
    (cpo_Thing : PySem.W.plainOver K C_Thing = true)
    (csa_Thing : PySem.W.findIn K (.ref C_Thing) "__setattr__" = some (some (.builtin "object.__setattr__")))
    (cmk_Thing : PySem.W.makesIn K C_Thing = true)
    (ckp_Thing : PySem.W.keepIn K (.ref C_Thing) = true)
    (ca_Party : PySem.W.nsIn K mainGlobals "Party" = some (some (.ref C_Party)))
    (cpg_Party : PySem.W.plainGet K C_Party Str.empty = true)
    (chd_Party : PySem.W.hasDictIn K C_Party = true)
    (cpo_Party : PySem.W.plainOver K C_Party = true)
    (csa_Party : PySem.W.findIn K (.ref C_Party) "__setattr__" = some (some (.builtin "object.__setattr__")))
    (cmk_Party : PySem.W.makesIn K C_Party = true)
    (ckp_Party : PySem.W.keepIn K (.ref C_Party) = true)
    (na_Party_held : PySem.W.findIn K (.ref C_Party) "held" = some none)
    (na_Party_many : PySem.W.findIn K (.ref C_Party) "many" = some none)
    (na_Thing_many : PySem.W.findIn K (.ref C_Thing) "many" = some none)
    (na_Thing_word : PySem.W.findIn K (.ref C_Thing) "word" = some none)
    (ca_NoAnswer : PySem.W.nsIn K mainGlobals "NoAnswer" = some (some (.ref C_NoAnswer)))
    (ca_WrongValue : PySem.W.nsIn K mainGlobals "WrongValue" = some (some (.ref C_WrongValue)))
    (ca_NothingToUndo : PySem.W.nsIn K mainGlobals "NothingToUndo" = some (some (.ref C_NothingToUndo)))
    (ca_UnknownName : PySem.W.nsIn K mainGlobals "UnknownName" = some (some (.ref C_UnknownName)))
    (ca_Holding : PySem.W.nsIn K mainGlobals "Holding" = some (some (.ref C_Holding)))
    (ca_Unruly : PySem.W.nsIn K mainGlobals "Unruly" = some (some (.ref C_Unruly)))
    (ca_Broken : PySem.W.nsIn K mainGlobals "Broken" = some (some (.ref C_Broken)))
    (ca_NotTied : PySem.W.nsIn K mainGlobals "NotTied" = some (some (.ref C_NotTied)))
    (ca_AlreadyTied : PySem.W.nsIn K mainGlobals "AlreadyTied" = some (some (.ref C_AlreadyTied)))
    (ca_TooMany : PySem.W.nsIn K mainGlobals "TooMany" = some (some (.ref C_TooMany)))
    (ca_InvalidPeople : PySem.W.nsIn K mainGlobals "InvalidPeople" = some (some (.ref C_InvalidPeople)))
    (ca_InvalidTies : PySem.W.nsIn K mainGlobals "InvalidTies" = some (some (.ref C_InvalidTies)))
    (ca_OtherSize : PySem.W.nsIn K mainGlobals "OtherSize" = some (some (.ref C_OtherSize)))
    (ca_NotAGathering : PySem.W.nsIn K mainGlobals "NotAGathering" = some (some (.ref C_NotAGathering)))
    (ca_NotAParty : PySem.W.nsIn K mainGlobals "NotAParty" = some (some (.ref C_NotAParty)))
    (ca_NotAThing : PySem.W.nsIn K mainGlobals "NotAThing" = some (some (.ref C_NotAThing)))
    (ca_InvalidName : PySem.W.nsIn K mainGlobals "InvalidName" = some (some (.ref C_InvalidName)))
    (ca_InvalidIndex : PySem.W.nsIn K mainGlobals "InvalidIndex" = some (some (.ref C_InvalidIndex)))
    (ca_InvalidPerson : PySem.W.nsIn K mainGlobals "InvalidPerson" = some (some (.ref C_InvalidPerson)))
    (ca_InvalidKind : PySem.W.nsIn K mainGlobals "InvalidKind" = some (some (.ref C_InvalidKind)))
    (ca_InvalidNumber : PySem.W.nsIn K mainGlobals "InvalidNumber" = some (some (.ref C_InvalidNumber)))
    (ca_InvalidText : PySem.W.nsIn K mainGlobals "InvalidText" = some (some (.ref C_InvalidText)))
    (a_InvalidNumber : PySem.W.findIn K (.ref C_InvalidNumber) "__init__" = some (some (.ref f_InvalidNumber)))
    (ti_InvalidNumber : PySem.W.typeIn K (.ref f_InvalidNumber) = some (.type "function"))
    (l_InvalidNumber : K.lookup f_InvalidNumber = some ⟨oc_InvalidNumber, od_InvalidNumber, .func (PySem.W.fnOf "__init__" "InvalidNumber.__init__" (defArgs s_InvalidNumber) (defBody s_InvalidNumber) (defScope s_InvalidNumber) .none kV_InvalidNumber dc_InvalidNumber pm_InvalidNumber an_InvalidNumber cd_InvalidNumber ct_InvalidNumber), sl_InvalidNumber⟩)
    (c_InvalidNumber : PySem.W.codeIn K cd_InvalidNumber "InvalidNumber.__init__" = true)
    (k_InvalidNumber : PySem.W.keepIn K (.ref f_InvalidNumber) = true)
    (xa_InvalidNumber : exAllB K C_InvalidNumber true ["given"] C_WrongValue C_NoAnswer [(C_NoAnswer, false), (C_WrongValue, true), (C_NothingToUndo, false), (C_UnknownName, false), (C_Holding, false), (C_Unruly, false), (C_Broken, false), (C_NotTied, false), (C_AlreadyTied, false), (C_TooMany, false), (C_InvalidPeople, false), (C_InvalidTies, false), (C_OtherSize, false), (C_NotAGathering, false), (C_NotAParty, false), (C_NotAThing, false), (C_InvalidName, false), (C_InvalidIndex, false), (C_InvalidPerson, false), (C_InvalidKind, false), (C_InvalidNumber, true), (C_InvalidText, false)] = true)
    (a_TooMany : PySem.W.findIn K (.ref C_TooMany) "__init__" = some (some (.ref f_TooMany)))
    (ti_TooMany : PySem.W.typeIn K (.ref f_TooMany) = some (.type "function"))
    (l_TooMany : K.lookup f_TooMany = some ⟨oc_TooMany, od_TooMany, .func (PySem.W.fnOf "__init__" "TooMany.__init__" (defArgs s_TooMany) (defBody s_TooMany) (defScope s_TooMany) .none kV_TooMany dc_TooMany pm_TooMany an_TooMany cd_TooMany ct_TooMany), sl_TooMany⟩)
    (c_TooMany : PySem.W.codeIn K cd_TooMany "TooMany.__init__" = true)
    (k_TooMany : PySem.W.keepIn K (.ref f_TooMany) = true)
    (xa_TooMany : exAllB K C_TooMany false ["number"] C_WrongValue C_NoAnswer [(C_NoAnswer, true), (C_WrongValue, false), (C_NothingToUndo, false), (C_UnknownName, false), (C_Holding, false), (C_Unruly, false), (C_Broken, false), (C_NotTied, false), (C_AlreadyTied, false), (C_TooMany, true), (C_InvalidPeople, false), (C_InvalidTies, false), (C_OtherSize, false), (C_NotAGathering, false), (C_NotAParty, false), (C_NotAThing, false), (C_InvalidName, false), (C_InvalidIndex, false), (C_InvalidPerson, false), (C_InvalidKind, false), (C_InvalidNumber, false), (C_InvalidText, false)] = true)
    (a_InvalidPerson : PySem.W.findIn K (.ref C_InvalidPerson) "__init__" = some (some (.ref f_InvalidPerson)))
    (ti_InvalidPerson : PySem.W.typeIn K (.ref f_InvalidPerson) = some (.type "function"))
    (l_InvalidPerson : K.lookup f_InvalidPerson = some ⟨oc_InvalidPerson, od_InvalidPerson, .func (PySem.W.fnOf "__init__" "InvalidPerson.__init__" (defArgs s_InvalidPerson) (defBody s_InvalidPerson) (defScope s_InvalidPerson) .none kV_InvalidPerson dc_InvalidPerson pm_InvalidPerson an_InvalidPerson cd_InvalidPerson ct_InvalidPerson), sl_InvalidPerson⟩)
    (c_InvalidPerson : PySem.W.codeIn K cd_InvalidPerson "InvalidPerson.__init__" = true)
    (k_InvalidPerson : PySem.W.keepIn K (.ref f_InvalidPerson) = true)
    (xa_InvalidPerson : exAllB K C_InvalidPerson true ["given"] C_WrongValue C_NoAnswer [(C_NoAnswer, false), (C_WrongValue, true), (C_NothingToUndo, false), (C_UnknownName, false), (C_Holding, false), (C_Unruly, false), (C_Broken, false), (C_NotTied, false), (C_AlreadyTied, false), (C_TooMany, false), (C_InvalidPeople, false), (C_InvalidTies, false), (C_OtherSize, false), (C_NotAGathering, false), (C_NotAParty, false), (C_NotAThing, false), (C_InvalidName, false), (C_InvalidIndex, false), (C_InvalidPerson, true), (C_InvalidKind, false), (C_InvalidNumber, false), (C_InvalidText, false)] = true)
    (a_is_integer : PySem.W.nsIn K mainGlobals "is_integer" = some (some (.ref f_is_integer)))
    (l_is_integer : K.lookup f_is_integer = some ⟨oc_is_integer, od_is_integer, .func (PySem.W.fnOf "is_integer" "is_integer" (defArgs s_is_integer) (defBody s_is_integer) (defScope s_is_integer) .none kV_is_integer dc_is_integer pm_is_integer an_is_integer cd_is_integer ct_is_integer), sl_is_integer⟩)
    (c_is_integer : PySem.W.codeIn K cd_is_integer "is_integer" = true)
    (k_is_integer : PySem.W.keepIn K (.ref f_is_integer) = true)
    (a_is_between : PySem.W.nsIn K mainGlobals "is_between" = some (some (.ref f_is_between)))
    (l_is_between : K.lookup f_is_between = some ⟨oc_is_between, od_is_between, .func (PySem.W.fnOf "is_between" "is_between" (defArgs s_is_between) (defBody s_is_between) (defScope s_is_between) .none kV_is_between dc_is_between pm_is_between an_is_between cd_is_between ct_is_between), sl_is_between⟩)
    (c_is_between : PySem.W.codeIn K cd_is_between "is_between" = true)
    (k_is_between : PySem.W.keepIn K (.ref f_is_between) = true)
    (a_check_people : PySem.W.nsIn K mainGlobals "check_people" = some (some (.ref f_check_people)))
    (l_check_people : K.lookup f_check_people = some ⟨oc_check_people, od_check_people, .func (PySem.W.fnOf "check_people" "check_people" (defArgs s_check_people) (defBody s_check_people) (defScope s_check_people) .none kV_check_people dc_check_people pm_check_people an_check_people cd_check_people ct_check_people), sl_check_people⟩)
    (c_check_people : PySem.W.codeIn K cd_check_people "check_people" = true)
    (k_check_people : PySem.W.keepIn K (.ref f_check_people) = true)
    (a_check_two : PySem.W.nsIn K mainGlobals "check_two" = some (some (.ref f_check_two)))
    (l_check_two : K.lookup f_check_two = some ⟨oc_check_two, od_check_two, .func (PySem.W.fnOf "check_two" "check_two" (defArgs s_check_two) (defBody s_check_two) (defScope s_check_two) .none kV_check_two dc_check_two pm_check_two an_check_two cd_check_two ct_check_two), sl_check_two⟩)
    (c_check_two : PySem.W.codeIn K cd_check_two "check_two" = true)
    (k_check_two : PySem.W.keepIn K (.ref f_check_two) = true)
    (a_pairs_of : PySem.W.nsIn K mainGlobals "pairs_of" = some (some (.ref f_pairs_of)))
    (l_pairs_of : K.lookup f_pairs_of = some ⟨oc_pairs_of, od_pairs_of, .func (PySem.W.fnOf "pairs_of" "pairs_of" (defArgs s_pairs_of) (defBody s_pairs_of) (defScope s_pairs_of) .none kV_pairs_of dc_pairs_of pm_pairs_of an_pairs_of cd_pairs_of ct_pairs_of), sl_pairs_of⟩)
    (c_pairs_of : PySem.W.codeIn K cd_pairs_of "pairs_of" = true)
    (k_pairs_of : PySem.W.keepIn K (.ref f_pairs_of) = true)
    (a_most_rings : PySem.W.nsIn K mainGlobals "most_rings" = some (some (.ref f_most_rings)))
    (l_most_rings : K.lookup f_most_rings = some ⟨oc_most_rings, od_most_rings, .func (PySem.W.fnOf "most_rings" "most_rings" (defArgs s_most_rings) (defBody s_most_rings) (defScope s_most_rings) .none kV_most_rings dc_most_rings pm_most_rings an_most_rings cd_most_rings ct_most_rings), sl_most_rings⟩)
    (c_most_rings : PySem.W.codeIn K cd_most_rings "most_rings" = true)
    (k_most_rings : PySem.W.keepIn K (.ref f_most_rings) = true)
    (a_most_groups : PySem.W.nsIn K mainGlobals "most_groups" = some (some (.ref f_most_groups)))
    (l_most_groups : K.lookup f_most_groups = some ⟨oc_most_groups, od_most_groups, .func (PySem.W.fnOf "most_groups" "most_groups" (defArgs s_most_groups) (defBody s_most_groups) (defScope s_most_groups) .none kV_most_groups dc_most_groups pm_most_groups an_most_groups cd_most_groups ct_most_groups), sl_most_groups⟩)
    (c_most_groups : PySem.W.codeIn K cd_most_groups "most_groups" = true)
    (k_most_groups : PySem.W.keepIn K (.ref f_most_groups) = true)
    (a_most_pairs : PySem.W.nsIn K mainGlobals "most_pairs" = some (some (.ref f_most_pairs)))
    (l_most_pairs : K.lookup f_most_pairs = some ⟨oc_most_pairs, od_most_pairs, .func (PySem.W.fnOf "most_pairs" "most_pairs" (defArgs s_most_pairs) (defBody s_most_pairs) (defScope s_most_pairs) .none kV_most_pairs dc_most_pairs pm_most_pairs an_most_pairs cd_most_pairs ct_most_pairs), sl_most_pairs⟩)
    (c_most_pairs : PySem.W.codeIn K cd_most_pairs "most_pairs" = true)
    (k_most_pairs : PySem.W.keepIn K (.ref f_most_pairs) = true)
    (a_is_all_tied : PySem.W.nsIn K mainGlobals "is_all_tied" = some (some (.ref f_is_all_tied)))
    (l_is_all_tied : K.lookup f_is_all_tied = some ⟨oc_is_all_tied, od_is_all_tied, .func (PySem.W.fnOf "is_all_tied" "is_all_tied" (defArgs s_is_all_tied) (defBody s_is_all_tied) (defScope s_is_all_tied) .none kV_is_all_tied dc_is_all_tied pm_is_all_tied an_is_all_tied cd_is_all_tied ct_is_all_tied), sl_is_all_tied⟩)
    (c_is_all_tied : PySem.W.codeIn K cd_is_all_tied "is_all_tied" = true)
    (k_is_all_tied : PySem.W.keepIn K (.ref f_is_all_tied) = true)
    (a_most_of : PySem.W.nsIn K mainGlobals "most_of" = some (some (.ref f_most_of)))
    (l_most_of : K.lookup f_most_of = some ⟨oc_most_of, od_most_of, .func (PySem.W.fnOf "most_of" "most_of" (defArgs s_most_of) (defBody s_most_of) (defScope s_most_of) .none kV_most_of dc_most_of pm_most_of an_most_of cd_most_of ct_most_of), sl_most_of⟩)
    (c_most_of : PySem.W.codeIn K cd_most_of "most_of" = true)
    (k_most_of : PySem.W.keepIn K (.ref f_most_of) = true)
    (a_Thing___init__ : PySem.W.findIn K (.ref C_Thing) "__init__" = some (some (.ref f_Thing___init__)))
    (i_Thing___init__ : PySem.W.isFn K (.ref f_Thing___init__) = true)
    (l_Thing___init__ : K.lookup f_Thing___init__ = some ⟨oc_Thing___init__, od_Thing___init__, .func (PySem.W.fnOf "__init__" "Thing.__init__" (defArgs s_Thing___init__) (defBody s_Thing___init__) (defScope s_Thing___init__) (.ref dt_Thing___init__) kV_Thing___init__ dc_Thing___init__ pm_Thing___init__ an_Thing___init__ cd_Thing___init__ ct_Thing___init__), sl_Thing___init__⟩)
    (c_Thing___init__ : PySem.W.codeIn K cd_Thing___init__ "Thing.__init__" = true)
    (k_Thing___init__ : PySem.W.keepIn K (.ref f_Thing___init__) = true)
    (dl_Thing___init__ : K.lookup dt_Thing___init__ = some ⟨do_Thing___init__, dd_Thing___init__, .seq di_Thing___init__ dn_Thing___init__, ds_Thing___init__⟩)
    (dv_Thing___init__ : Vals [.non] di_Thing___init__.toList)
    (a_wrong_tie : PySem.W.nsIn K mainGlobals "wrong_tie" = some (some (.ref f_wrong_tie)))
    (l_wrong_tie : K.lookup f_wrong_tie = some ⟨oc_wrong_tie, od_wrong_tie, .func (PySem.W.fnOf "wrong_tie" "wrong_tie" (defArgs s_wrong_tie) (defBody s_wrong_tie) (defScope s_wrong_tie) .none kV_wrong_tie dc_wrong_tie pm_wrong_tie an_wrong_tie cd_wrong_tie ct_wrong_tie), sl_wrong_tie⟩)
    (c_wrong_tie : PySem.W.codeIn K cd_wrong_tie "wrong_tie" = true)
    (k_wrong_tie : PySem.W.keepIn K (.ref f_wrong_tie) = true)
    (a_all_ties : PySem.W.nsIn K mainGlobals "all_ties" = some (some (.ref f_all_ties)))
    (l_all_ties : K.lookup f_all_ties = some ⟨oc_all_ties, od_all_ties, .func (PySem.W.fnOf "all_ties" "all_ties" (defArgs s_all_ties) (defBody s_all_ties) (defScope s_all_ties) .none kV_all_ties dc_all_ties pm_all_ties an_all_ties cd_all_ties ct_all_ties), sl_all_ties⟩)
    (c_all_ties : PySem.W.codeIn K cd_all_ties "all_ties" = true)
    (k_all_ties : PySem.W.keepIn K (.ref f_all_ties) = true)
    (a_Party___init__ : PySem.W.findIn K (.ref C_Party) "__init__" = some (some (.ref f_Party___init__)))
    (i_Party___init__ : PySem.W.isFn K (.ref f_Party___init__) = true)
    (l_Party___init__ : K.lookup f_Party___init__ = some ⟨oc_Party___init__, od_Party___init__, .func (PySem.W.fnOf "__init__" "Party.__init__" (defArgs s_Party___init__) (defBody s_Party___init__) (defScope s_Party___init__) (.ref dt_Party___init__) kV_Party___init__ dc_Party___init__ pm_Party___init__ an_Party___init__ cd_Party___init__ ct_Party___init__), sl_Party___init__⟩)
    (c_Party___init__ : PySem.W.codeIn K cd_Party___init__ "Party.__init__" = true)
    (k_Party___init__ : PySem.W.keepIn K (.ref f_Party___init__) = true)
    (dl_Party___init__ : K.lookup dt_Party___init__ = some ⟨do_Party___init__, dd_Party___init__, .seq di_Party___init__ dn_Party___init__, ds_Party___init__⟩)
    (dv_Party___init__ : Vals [.ref et_Party] di_Party___init__.toList)
    (te_Party : K.lookup et_Party = some ⟨.type "tuple", eo_Party, .seq ei_Party en_Party, es_Party⟩)
    (tt_Party : ei_Party = #[])
    (pa_Party_people : PySem.W.findIn K (.ref C_Party) "people" = some (some (.ref pp_Party_people)))
    (pg_Party_people : PySem.W.specialIn K (.ref pp_Party_people) "__get__" = some (some (.builtin "property.__get__")))
    (pt_Party_people : PySem.W.takesIn K (.ref pp_Party_people) = some true)
    (px_Party_people : PySem.W.recIn K pp_Party_people "property" = some (.ref f_Party_people :: pr_Party_people))
    (l_Party_people : K.lookup f_Party_people = some ⟨oc_Party_people, od_Party_people, .func (PySem.W.fnOf "people" "Party.people" (defArgs s_Party_people) (defBody s_Party_people) (defScope s_Party_people) .none kV_Party_people dc_Party_people pm_Party_people an_Party_people cd_Party_people ct_Party_people), sl_Party_people⟩)
    (c_Party_people : PySem.W.codeIn K cd_Party_people "Party.people" = true)
    (k_Party_people : PySem.W.keepIn K (.ref f_Party_people) = true)
    (a_Thing_most : PySem.W.findIn K (.ref C_Thing) "most" = some (some (.ref f_Thing_most)))
    (i_Thing_most : PySem.W.isFn K (.ref f_Thing_most) = true)
    (l_Thing_most : K.lookup f_Thing_most = some ⟨oc_Thing_most, od_Thing_most, .func (PySem.W.fnOf "most" "Thing.most" (defArgs s_Thing_most) (defBody s_Thing_most) (defScope s_Thing_most) .none kV_Thing_most dc_Thing_most pm_Thing_most an_Thing_most cd_Thing_most ct_Thing_most), sl_Thing_most⟩)
    (c_Thing_most : PySem.W.codeIn K cd_Thing_most "Thing.most" = true)
    (k_Thing_most : PySem.W.keepIn K (.ref f_Thing_most) = true)
    (a_Thing_forced : PySem.W.findIn K (.ref C_Thing) "forced" = some (some (.ref f_Thing_forced)))
    (i_Thing_forced : PySem.W.isFn K (.ref f_Thing_forced) = true)
    (l_Thing_forced : K.lookup f_Thing_forced = some ⟨oc_Thing_forced, od_Thing_forced, .func (PySem.W.fnOf "forced" "Thing.forced" (defArgs s_Thing_forced) (defBody s_Thing_forced) (defScope s_Thing_forced) .none kV_Thing_forced dc_Thing_forced pm_Thing_forced an_Thing_forced cd_Thing_forced ct_Thing_forced), sl_Thing_forced⟩)
    (c_Thing_forced : PySem.W.codeIn K cd_Thing_forced "Thing.forced" = true)
    (k_Thing_forced : PySem.W.keepIn K (.ref f_Thing_forced) = true)
    (a_Thing_tied : PySem.W.findIn K (.ref C_Thing) "tied" = some (some (.ref f_Thing_tied)))
    (i_Thing_tied : PySem.W.isFn K (.ref f_Thing_tied) = true)
    (l_Thing_tied : K.lookup f_Thing_tied = some ⟨oc_Thing_tied, od_Thing_tied, .func (PySem.W.fnOf "tied" "Thing.tied" (defArgs s_Thing_tied) (defBody s_Thing_tied) (defScope s_Thing_tied) .none kV_Thing_tied dc_Thing_tied pm_Thing_tied an_Thing_tied cd_Thing_tied ct_Thing_tied), sl_Thing_tied⟩)
    (c_Thing_tied : PySem.W.codeIn K cd_Thing_tied "Thing.tied" = true)
    (k_Thing_tied : PySem.W.keepIn K (.ref f_Thing_tied) = true)
    (a_Thing_fullest : PySem.W.findIn K (.ref C_Thing) "fullest" = some (some (.ref f_Thing_fullest)))
    (i_Thing_fullest : PySem.W.isFn K (.ref f_Thing_fullest) = true)
    (l_Thing_fullest : K.lookup f_Thing_fullest = some ⟨oc_Thing_fullest, od_Thing_fullest, .func (PySem.W.fnOf "fullest" "Thing.fullest" (defArgs s_Thing_fullest) (defBody s_Thing_fullest) (defScope s_Thing_fullest) .none kV_Thing_fullest dc_Thing_fullest pm_Thing_fullest an_Thing_fullest cd_Thing_fullest ct_Thing_fullest), sl_Thing_fullest⟩)
    (c_Thing_fullest : PySem.W.codeIn K cd_Thing_fullest "Thing.fullest" = true)
    (k_Thing_fullest : PySem.W.keepIn K (.ref f_Thing_fullest) = true)
    (a__law_purse : PySem.W.nsIn K mainGlobals "_law_purse" = some (some (.ref f__law_purse)))
    (l__law_purse : K.lookup f__law_purse = some ⟨oc__law_purse, od__law_purse, .func (PySem.W.fnOf "_law_purse" "_law_purse" (defArgs s__law_purse) (defBody s__law_purse) (defScope s__law_purse) .none kV__law_purse dc__law_purse pm__law_purse an__law_purse cd__law_purse ct__law_purse), sl__law_purse⟩)
    (c__law_purse : PySem.W.codeIn K cd__law_purse "_law_purse" = true)
    (k__law_purse : PySem.W.keepIn K (.ref f__law_purse) = true)
    (a__law_draw : PySem.W.nsIn K mainGlobals "_law_draw" = some (some (.ref f__law_draw)))
    (l__law_draw : K.lookup f__law_draw = some ⟨oc__law_draw, od__law_draw, .func (PySem.W.fnOf "_law_draw" "_law_draw" (defArgs s__law_draw) (defBody s__law_draw) (defScope s__law_draw) .none kV__law_draw dc__law_draw pm__law_draw an__law_draw cd__law_draw ct__law_draw), sl__law_draw⟩)
    (c__law_draw : PySem.W.codeIn K cd__law_draw "_law_draw" = true)
    (k__law_draw : PySem.W.keepIn K (.ref f__law_draw) = true)
    (a__law_things : PySem.W.nsIn K mainGlobals "_law_things" = some (some (.ref f__law_things)))
    (l__law_things : K.lookup f__law_things = some ⟨oc__law_things, od__law_things, .func (PySem.W.fnOf "_law_things" "_law_things" (defArgs s__law_things) (defBody s__law_things) (defScope s__law_things) .none kV__law_things dc__law_things pm__law_things an__law_things cd__law_things ct__law_things), sl__law_things⟩)
    (c__law_things : PySem.W.codeIn K cd__law_things "_law_things" = true)
    (k__law_things : PySem.W.keepIn K (.ref f__law_things) = true)
    (a__law_sort : PySem.W.nsIn K mainGlobals "_law_sort" = some (some (.ref f__law_sort)))
    (l__law_sort : K.lookup f__law_sort = some ⟨oc__law_sort, od__law_sort, .func (PySem.W.fnOf "_law_sort" "_law_sort" (defArgs s__law_sort) (defBody s__law_sort) (defScope s__law_sort) .none kV__law_sort dc__law_sort pm__law_sort an__law_sort cd__law_sort ct__law_sort), sl__law_sort⟩)
    (c__law_sort : PySem.W.codeIn K cd__law_sort "_law_sort" = true)
    (k__law_sort : PySem.W.keepIn K (.ref f__law_sort) = true)
    (a__law_attribute : PySem.W.nsIn K mainGlobals "_law_attribute" = some (some (.ref f__law_attribute)))
    (l__law_attribute : K.lookup f__law_attribute = some ⟨oc__law_attribute, od__law_attribute, .func (PySem.W.fnOf "_law_attribute" "_law_attribute" (defArgs s__law_attribute) (defBody s__law_attribute) (defScope s__law_attribute) .none kV__law_attribute dc__law_attribute pm__law_attribute an__law_attribute cd__law_attribute ct__law_attribute), sl__law_attribute⟩)
    (c__law_attribute : PySem.W.codeIn K cd__law_attribute "_law_attribute" = true)
    (k__law_attribute : PySem.W.keepIn K (.ref f__law_attribute) = true)
    (a__law_told : PySem.W.nsIn K mainGlobals "_law_told" = some (some (.ref f__law_told)))
    (l__law_told : K.lookup f__law_told = some ⟨oc__law_told, od__law_told, .func (PySem.W.fnOf "_law_told" "_law_told" (defArgs s__law_told) (defBody s__law_told) (defScope s__law_told) .none kV__law_told dc__law_told pm__law_told an__law_told cd__law_told ct__law_told), sl__law_told⟩)
    (c__law_told : PySem.W.codeIn K cd__law_told "_law_told" = true)
    (k__law_told : PySem.W.keepIn K (.ref f__law_told) = true)
    (a__law_right : PySem.W.nsIn K mainGlobals "_law_right" = some (some (.ref f__law_right)))
    (l__law_right : K.lookup f__law_right = some ⟨oc__law_right, od__law_right, .func (PySem.W.fnOf "_law_right" "_law_right" (defArgs s__law_right) (defBody s__law_right) (defScope s__law_right) .none kV__law_right dc__law_right pm__law_right an__law_right cd__law_right ct__law_right), sl__law_right⟩)
    (c__law_right : PySem.W.codeIn K cd__law_right "_law_right" = true)
    (k__law_right : PySem.W.keepIn K (.ref f__law_right) = true)
    (cdr__law_right : cd__law_right = .ref cq__law_right)
    (lk__law_right : K.lookup cq__law_right = some ⟨lv__law_right, ld__law_right, .fields la__law_right, ls__law_right⟩)
    (lp__law_right : la__law_right[11]? = some (.ref cp__law_right))
    (lh__law_right : PySem.W.codeHdIn K cq__law_right cp__law_right = true)
    (ln__law_right : K.lookup cp__law_right = none)
    (lt__law_right : h.get? cp__law_right = some { cls := .none, data := .fields #[] })
    (a_law : PySem.W.nsIn K mainGlobals "law" = some (some (.ref f_law)))
    (l_law : K.lookup f_law = some ⟨oc_law, od_law, .func (PySem.W.fnOf "law" "law" (defArgs s_law) (defBody s_law) (defScope s_law) .none kV_law dc_law pm_law an_law cd_law ct_law), sl_law⟩)
    (c_law : PySem.W.codeIn K cd_law "law" = true)
    (k_law : PySem.W.keepIn K (.ref f_law) = true) :
    ∃ (fd : FuncData) (cs : List (Addr × Addr)), (∀ p ∈ cs, PySem.W.CodeHd h p.1 p.2) ∧ (∀ p ∈ cs, h.get? p.2 = some { cls := .none, data := .fields #[] }) ∧ (∀ p ∈ cs, K.lookup p.2 = none) ∧ (∀ (s : Shared) (v : Value), BindsTo s fd ⟨[v], []⟩ [("_law_script", v)]) ∧
      ∀ base : Heap, K.In base → base.Ns mainGlobals mg → (∀ p ∈ cs, LamX.TabB base mg p.1 p.2) → FnG l.prog w K mg base 16 fa fd ["_law_script"] (spScrT K (cs.map (·.2))) := by
  have e := hfa.symm.trans (PySem.W.mg_of X G a_law)
  cases e
  have T : Txt w K mg (fun c : Str => if c = lamQ "_law_right" then some cp__law_right else if c = "Thing" then some C_Thing else if c = "Party" then some C_Party else if c = "InvalidNumber" then some C_InvalidNumber else if c = "TooMany" then some C_TooMany else if c = "InvalidPerson" then some C_InvalidPerson else none) C_Thing C_Party et_Party cq__law_right cp__law_right := ⟨PySem.W.mg_none_of X G n_abs,
    PySem.W.mg_none_of X G n_all,
    PySem.W.mg_none_of X G n_bool,
    PySem.W.mg_none_of X G n_divmod,
    PySem.W.mg_none_of X G n_enumerate,
    PySem.W.mg_none_of X G n_int,
    PySem.W.mg_none_of X G n_isinstance,
    PySem.W.mg_none_of X G n_len,
    PySem.W.mg_none_of X G n_max,
    PySem.W.mg_none_of X G n_min,
    PySem.W.mg_none_of X G n_range,
    PySem.W.mg_none_of X G n_repr,
    PySem.W.mg_none_of X G n_str,
    PySem.W.mg_none_of X G n_tuple,
    ⟨_, PySem.W.mg_of X G c_MOST_ASKED, ⟨_, rfl⟩⟩,
    ⟨_, PySem.W.mg_of X G c_MOST_PEOPLE, ⟨_, rfl⟩⟩,
    kg_of (PySem.W.mg_of X G k_LEAST) l_LEAST o_LEAST y_LEAST,
    ⟨_, _, _, _, PySem.W.mg_of X G ta_PLAIN, tl_PLAIN, rfl, rfl, tz_PLAIN, tv_PLAIN⟩,
    ⟨((if_neg (by decide +kernel)).trans (if_pos rfl)), ⟨cpg_Thing, chd_Thing, cpo_Thing, csa_Thing⟩⟩,
    PySem.W.mg_of X G ca_Thing,
    ⟨((if_neg (by decide +kernel)).trans ((if_neg (by decide +kernel)).trans (if_pos rfl))), ⟨cpg_Party, chd_Party, cpo_Party, csa_Party⟩⟩,
    PySem.W.mg_of X G ca_Party,
    na_Party_held,
    na_Party_many,
    na_Thing_many,
    na_Thing_word,
    ⟨_, _, _, _, PySem.W.mg_of X G ca_InvalidNumber, ((if_neg (by decide +kernel)).trans ((if_neg (by decide +kernel)).trans ((if_neg (by decide +kernel)).trans (if_pos rfl)))), (exAll_of xa_InvalidNumber).oex, a_InvalidNumber, ti_InvalidNumber, (fun_mk (st := s_InvalidNumber) l_InvalidNumber c_InvalidNumber k_InvalidNumber).binds (ps := ["self", "given"]) (fun _ _ _ _ _ _ us hl => match us, hl with | [_, _], _ => rfl), fun_mk (st := s_InvalidNumber) l_InvalidNumber c_InvalidNumber k_InvalidNumber, (exAll_of xa_InvalidNumber).no⟩,
    ⟨_, _, _, _, PySem.W.mg_of X G ca_TooMany, ((if_neg (by decide +kernel)).trans ((if_neg (by decide +kernel)).trans ((if_neg (by decide +kernel)).trans ((if_neg (by decide +kernel)).trans (if_pos rfl))))), (exAll_of xa_TooMany).oex, a_TooMany, ti_TooMany, (fun_mk (st := s_TooMany) l_TooMany c_TooMany k_TooMany).binds (ps := ["self", "number"]) (fun _ _ _ _ _ _ us hl => match us, hl with | [_, _], _ => rfl), fun_mk (st := s_TooMany) l_TooMany c_TooMany k_TooMany, (exAll_of xa_TooMany).no⟩,
    ⟨_, _, _, _, PySem.W.mg_of X G ca_InvalidPerson, ((if_neg (by decide +kernel)).trans ((if_neg (by decide +kernel)).trans ((if_neg (by decide +kernel)).trans ((if_neg (by decide +kernel)).trans ((if_neg (by decide +kernel)).trans (if_pos rfl)))))), (exAll_of xa_InvalidPerson).oex, a_InvalidPerson, ti_InvalidPerson, (fun_mk (st := s_InvalidPerson) l_InvalidPerson c_InvalidPerson k_InvalidPerson).binds (ps := ["self", "given"]) (fun _ _ _ _ _ _ us hl => match us, hl with | [_, _], _ => rfl), fun_mk (st := s_InvalidPerson) l_InvalidPerson c_InvalidPerson k_InvalidPerson, (exAll_of xa_InvalidPerson).no⟩,
    ⟨_, PySem.W.mg_of X G ca_NoAnswer, (List.forall_mem_cons.mpr ⟨⟨_, ((if_neg (by decide +kernel)).trans ((if_neg (by decide +kernel)).trans ((if_neg (by decide +kernel)).trans (if_pos rfl)))), (exAll_of xa_InvalidNumber).ex, (exAll_of xa_InvalidNumber).kit _ (List.mem_of_getElem? (i := 0) rfl)⟩, List.forall_mem_cons.mpr ⟨⟨_, ((if_neg (by decide +kernel)).trans ((if_neg (by decide +kernel)).trans ((if_neg (by decide +kernel)).trans ((if_neg (by decide +kernel)).trans (if_pos rfl))))), (exAll_of xa_TooMany).ex, (exAll_of xa_TooMany).kit _ (List.mem_of_getElem? (i := 0) rfl)⟩, List.forall_mem_cons.mpr ⟨⟨_, ((if_neg (by decide +kernel)).trans ((if_neg (by decide +kernel)).trans ((if_neg (by decide +kernel)).trans ((if_neg (by decide +kernel)).trans ((if_neg (by decide +kernel)).trans (if_pos rfl)))))), (exAll_of xa_InvalidPerson).ex, (exAll_of xa_InvalidPerson).kit _ (List.mem_of_getElem? (i := 0) rfl)⟩, fun _ hb => (by cases hb)⟩⟩⟩)⟩,
    ⟨_, PySem.W.mg_of X G ca_WrongValue, (List.forall_mem_cons.mpr ⟨⟨_, ((if_neg (by decide +kernel)).trans ((if_neg (by decide +kernel)).trans ((if_neg (by decide +kernel)).trans (if_pos rfl)))), (exAll_of xa_InvalidNumber).ex, (exAll_of xa_InvalidNumber).kit _ (List.mem_of_getElem? (i := 1) rfl)⟩, List.forall_mem_cons.mpr ⟨⟨_, ((if_neg (by decide +kernel)).trans ((if_neg (by decide +kernel)).trans ((if_neg (by decide +kernel)).trans ((if_neg (by decide +kernel)).trans (if_pos rfl))))), (exAll_of xa_TooMany).ex, (exAll_of xa_TooMany).kit _ (List.mem_of_getElem? (i := 1) rfl)⟩, List.forall_mem_cons.mpr ⟨⟨_, ((if_neg (by decide +kernel)).trans ((if_neg (by decide +kernel)).trans ((if_neg (by decide +kernel)).trans ((if_neg (by decide +kernel)).trans ((if_neg (by decide +kernel)).trans (if_pos rfl)))))), (exAll_of xa_InvalidPerson).ex, (exAll_of xa_InvalidPerson).kit _ (List.mem_of_getElem? (i := 1) rfl)⟩, fun _ hb => (by cases hb)⟩⟩⟩)⟩,
    ⟨_, PySem.W.mg_of X G ca_NothingToUndo, (List.forall_mem_cons.mpr ⟨⟨_, ((if_neg (by decide +kernel)).trans ((if_neg (by decide +kernel)).trans ((if_neg (by decide +kernel)).trans (if_pos rfl)))), (exAll_of xa_InvalidNumber).ex, (exAll_of xa_InvalidNumber).kit _ (List.mem_of_getElem? (i := 2) rfl)⟩, List.forall_mem_cons.mpr ⟨⟨_, ((if_neg (by decide +kernel)).trans ((if_neg (by decide +kernel)).trans ((if_neg (by decide +kernel)).trans ((if_neg (by decide +kernel)).trans (if_pos rfl))))), (exAll_of xa_TooMany).ex, (exAll_of xa_TooMany).kit _ (List.mem_of_getElem? (i := 2) rfl)⟩, List.forall_mem_cons.mpr ⟨⟨_, ((if_neg (by decide +kernel)).trans ((if_neg (by decide +kernel)).trans ((if_neg (by decide +kernel)).trans ((if_neg (by decide +kernel)).trans ((if_neg (by decide +kernel)).trans (if_pos rfl)))))), (exAll_of xa_InvalidPerson).ex, (exAll_of xa_InvalidPerson).kit _ (List.mem_of_getElem? (i := 2) rfl)⟩, fun _ hb => (by cases hb)⟩⟩⟩)⟩,
    ⟨_, PySem.W.mg_of X G ca_UnknownName, (List.forall_mem_cons.mpr ⟨⟨_, ((if_neg (by decide +kernel)).trans ((if_neg (by decide +kernel)).trans ((if_neg (by decide +kernel)).trans (if_pos rfl)))), (exAll_of xa_InvalidNumber).ex, (exAll_of xa_InvalidNumber).kit _ (List.mem_of_getElem? (i := 3) rfl)⟩, List.forall_mem_cons.mpr ⟨⟨_, ((if_neg (by decide +kernel)).trans ((if_neg (by decide +kernel)).trans ((if_neg (by decide +kernel)).trans ((if_neg (by decide +kernel)).trans (if_pos rfl))))), (exAll_of xa_TooMany).ex, (exAll_of xa_TooMany).kit _ (List.mem_of_getElem? (i := 3) rfl)⟩, List.forall_mem_cons.mpr ⟨⟨_, ((if_neg (by decide +kernel)).trans ((if_neg (by decide +kernel)).trans ((if_neg (by decide +kernel)).trans ((if_neg (by decide +kernel)).trans ((if_neg (by decide +kernel)).trans (if_pos rfl)))))), (exAll_of xa_InvalidPerson).ex, (exAll_of xa_InvalidPerson).kit _ (List.mem_of_getElem? (i := 3) rfl)⟩, fun _ hb => (by cases hb)⟩⟩⟩)⟩,
    ⟨_, PySem.W.mg_of X G ca_Holding, (List.forall_mem_cons.mpr ⟨⟨_, ((if_neg (by decide +kernel)).trans ((if_neg (by decide +kernel)).trans ((if_neg (by decide +kernel)).trans (if_pos rfl)))), (exAll_of xa_InvalidNumber).ex, (exAll_of xa_InvalidNumber).kit _ (List.mem_of_getElem? (i := 4) rfl)⟩, List.forall_mem_cons.mpr ⟨⟨_, ((if_neg (by decide +kernel)).trans ((if_neg (by decide +kernel)).trans ((if_neg (by decide +kernel)).trans ((if_neg (by decide +kernel)).trans (if_pos rfl))))), (exAll_of xa_TooMany).ex, (exAll_of xa_TooMany).kit _ (List.mem_of_getElem? (i := 4) rfl)⟩, List.forall_mem_cons.mpr ⟨⟨_, ((if_neg (by decide +kernel)).trans ((if_neg (by decide +kernel)).trans ((if_neg (by decide +kernel)).trans ((if_neg (by decide +kernel)).trans ((if_neg (by decide +kernel)).trans (if_pos rfl)))))), (exAll_of xa_InvalidPerson).ex, (exAll_of xa_InvalidPerson).kit _ (List.mem_of_getElem? (i := 4) rfl)⟩, fun _ hb => (by cases hb)⟩⟩⟩)⟩,
    ⟨_, PySem.W.mg_of X G ca_Unruly, (List.forall_mem_cons.mpr ⟨⟨_, ((if_neg (by decide +kernel)).trans ((if_neg (by decide +kernel)).trans ((if_neg (by decide +kernel)).trans (if_pos rfl)))), (exAll_of xa_InvalidNumber).ex, (exAll_of xa_InvalidNumber).kit _ (List.mem_of_getElem? (i := 5) rfl)⟩, List.forall_mem_cons.mpr ⟨⟨_, ((if_neg (by decide +kernel)).trans ((if_neg (by decide +kernel)).trans ((if_neg (by decide +kernel)).trans ((if_neg (by decide +kernel)).trans (if_pos rfl))))), (exAll_of xa_TooMany).ex, (exAll_of xa_TooMany).kit _ (List.mem_of_getElem? (i := 5) rfl)⟩, List.forall_mem_cons.mpr ⟨⟨_, ((if_neg (by decide +kernel)).trans ((if_neg (by decide +kernel)).trans ((if_neg (by decide +kernel)).trans ((if_neg (by decide +kernel)).trans ((if_neg (by decide +kernel)).trans (if_pos rfl)))))), (exAll_of xa_InvalidPerson).ex, (exAll_of xa_InvalidPerson).kit _ (List.mem_of_getElem? (i := 5) rfl)⟩, fun _ hb => (by cases hb)⟩⟩⟩)⟩,
    ⟨_, PySem.W.mg_of X G ca_Broken, (List.forall_mem_cons.mpr ⟨⟨_, ((if_neg (by decide +kernel)).trans ((if_neg (by decide +kernel)).trans ((if_neg (by decide +kernel)).trans (if_pos rfl)))), (exAll_of xa_InvalidNumber).ex, (exAll_of xa_InvalidNumber).kit _ (List.mem_of_getElem? (i := 6) rfl)⟩, List.forall_mem_cons.mpr ⟨⟨_, ((if_neg (by decide +kernel)).trans ((if_neg (by decide +kernel)).trans ((if_neg (by decide +kernel)).trans ((if_neg (by decide +kernel)).trans (if_pos rfl))))), (exAll_of xa_TooMany).ex, (exAll_of xa_TooMany).kit _ (List.mem_of_getElem? (i := 6) rfl)⟩, List.forall_mem_cons.mpr ⟨⟨_, ((if_neg (by decide +kernel)).trans ((if_neg (by decide +kernel)).trans ((if_neg (by decide +kernel)).trans ((if_neg (by decide +kernel)).trans ((if_neg (by decide +kernel)).trans (if_pos rfl)))))), (exAll_of xa_InvalidPerson).ex, (exAll_of xa_InvalidPerson).kit _ (List.mem_of_getElem? (i := 6) rfl)⟩, fun _ hb => (by cases hb)⟩⟩⟩)⟩,
    ⟨_, PySem.W.mg_of X G ca_NotTied, (List.forall_mem_cons.mpr ⟨⟨_, ((if_neg (by decide +kernel)).trans ((if_neg (by decide +kernel)).trans ((if_neg (by decide +kernel)).trans (if_pos rfl)))), (exAll_of xa_InvalidNumber).ex, (exAll_of xa_InvalidNumber).kit _ (List.mem_of_getElem? (i := 7) rfl)⟩, List.forall_mem_cons.mpr ⟨⟨_, ((if_neg (by decide +kernel)).trans ((if_neg (by decide +kernel)).trans ((if_neg (by decide +kernel)).trans ((if_neg (by decide +kernel)).trans (if_pos rfl))))), (exAll_of xa_TooMany).ex, (exAll_of xa_TooMany).kit _ (List.mem_of_getElem? (i := 7) rfl)⟩, List.forall_mem_cons.mpr ⟨⟨_, ((if_neg (by decide +kernel)).trans ((if_neg (by decide +kernel)).trans ((if_neg (by decide +kernel)).trans ((if_neg (by decide +kernel)).trans ((if_neg (by decide +kernel)).trans (if_pos rfl)))))), (exAll_of xa_InvalidPerson).ex, (exAll_of xa_InvalidPerson).kit _ (List.mem_of_getElem? (i := 7) rfl)⟩, fun _ hb => (by cases hb)⟩⟩⟩)⟩,
    ⟨_, PySem.W.mg_of X G ca_AlreadyTied, (List.forall_mem_cons.mpr ⟨⟨_, ((if_neg (by decide +kernel)).trans ((if_neg (by decide +kernel)).trans ((if_neg (by decide +kernel)).trans (if_pos rfl)))), (exAll_of xa_InvalidNumber).ex, (exAll_of xa_InvalidNumber).kit _ (List.mem_of_getElem? (i := 8) rfl)⟩, List.forall_mem_cons.mpr ⟨⟨_, ((if_neg (by decide +kernel)).trans ((if_neg (by decide +kernel)).trans ((if_neg (by decide +kernel)).trans ((if_neg (by decide +kernel)).trans (if_pos rfl))))), (exAll_of xa_TooMany).ex, (exAll_of xa_TooMany).kit _ (List.mem_of_getElem? (i := 8) rfl)⟩, List.forall_mem_cons.mpr ⟨⟨_, ((if_neg (by decide +kernel)).trans ((if_neg (by decide +kernel)).trans ((if_neg (by decide +kernel)).trans ((if_neg (by decide +kernel)).trans ((if_neg (by decide +kernel)).trans (if_pos rfl)))))), (exAll_of xa_InvalidPerson).ex, (exAll_of xa_InvalidPerson).kit _ (List.mem_of_getElem? (i := 8) rfl)⟩, fun _ hb => (by cases hb)⟩⟩⟩)⟩,
    ⟨_, PySem.W.mg_of X G ca_TooMany, (List.forall_mem_cons.mpr ⟨⟨_, ((if_neg (by decide +kernel)).trans ((if_neg (by decide +kernel)).trans ((if_neg (by decide +kernel)).trans (if_pos rfl)))), (exAll_of xa_InvalidNumber).ex, (exAll_of xa_InvalidNumber).kit _ (List.mem_of_getElem? (i := 9) rfl)⟩, List.forall_mem_cons.mpr ⟨⟨_, ((if_neg (by decide +kernel)).trans ((if_neg (by decide +kernel)).trans ((if_neg (by decide +kernel)).trans ((if_neg (by decide +kernel)).trans (if_pos rfl))))), (exAll_of xa_TooMany).ex, (exAll_of xa_TooMany).kit _ (List.mem_of_getElem? (i := 9) rfl)⟩, List.forall_mem_cons.mpr ⟨⟨_, ((if_neg (by decide +kernel)).trans ((if_neg (by decide +kernel)).trans ((if_neg (by decide +kernel)).trans ((if_neg (by decide +kernel)).trans ((if_neg (by decide +kernel)).trans (if_pos rfl)))))), (exAll_of xa_InvalidPerson).ex, (exAll_of xa_InvalidPerson).kit _ (List.mem_of_getElem? (i := 9) rfl)⟩, fun _ hb => (by cases hb)⟩⟩⟩)⟩,
    ⟨_, PySem.W.mg_of X G ca_InvalidPeople, (List.forall_mem_cons.mpr ⟨⟨_, ((if_neg (by decide +kernel)).trans ((if_neg (by decide +kernel)).trans ((if_neg (by decide +kernel)).trans (if_pos rfl)))), (exAll_of xa_InvalidNumber).ex, (exAll_of xa_InvalidNumber).kit _ (List.mem_of_getElem? (i := 10) rfl)⟩, List.forall_mem_cons.mpr ⟨⟨_, ((if_neg (by decide +kernel)).trans ((if_neg (by decide +kernel)).trans ((if_neg (by decide +kernel)).trans ((if_neg (by decide +kernel)).trans (if_pos rfl))))), (exAll_of xa_TooMany).ex, (exAll_of xa_TooMany).kit _ (List.mem_of_getElem? (i := 10) rfl)⟩, List.forall_mem_cons.mpr ⟨⟨_, ((if_neg (by decide +kernel)).trans ((if_neg (by decide +kernel)).trans ((if_neg (by decide +kernel)).trans ((if_neg (by decide +kernel)).trans ((if_neg (by decide +kernel)).trans (if_pos rfl)))))), (exAll_of xa_InvalidPerson).ex, (exAll_of xa_InvalidPerson).kit _ (List.mem_of_getElem? (i := 10) rfl)⟩, fun _ hb => (by cases hb)⟩⟩⟩)⟩,
    ⟨_, PySem.W.mg_of X G ca_InvalidTies, (List.forall_mem_cons.mpr ⟨⟨_, ((if_neg (by decide +kernel)).trans ((if_neg (by decide +kernel)).trans ((if_neg (by decide +kernel)).trans (if_pos rfl)))), (exAll_of xa_InvalidNumber).ex, (exAll_of xa_InvalidNumber).kit _ (List.mem_of_getElem? (i := 11) rfl)⟩, List.forall_mem_cons.mpr ⟨⟨_, ((if_neg (by decide +kernel)).trans ((if_neg (by decide +kernel)).trans ((if_neg (by decide +kernel)).trans ((if_neg (by decide +kernel)).trans (if_pos rfl))))), (exAll_of xa_TooMany).ex, (exAll_of xa_TooMany).kit _ (List.mem_of_getElem? (i := 11) rfl)⟩, List.forall_mem_cons.mpr ⟨⟨_, ((if_neg (by decide +kernel)).trans ((if_neg (by decide +kernel)).trans ((if_neg (by decide +kernel)).trans ((if_neg (by decide +kernel)).trans ((if_neg (by decide +kernel)).trans (if_pos rfl)))))), (exAll_of xa_InvalidPerson).ex, (exAll_of xa_InvalidPerson).kit _ (List.mem_of_getElem? (i := 11) rfl)⟩, fun _ hb => (by cases hb)⟩⟩⟩)⟩,
    ⟨_, PySem.W.mg_of X G ca_OtherSize, (List.forall_mem_cons.mpr ⟨⟨_, ((if_neg (by decide +kernel)).trans ((if_neg (by decide +kernel)).trans ((if_neg (by decide +kernel)).trans (if_pos rfl)))), (exAll_of xa_InvalidNumber).ex, (exAll_of xa_InvalidNumber).kit _ (List.mem_of_getElem? (i := 12) rfl)⟩, List.forall_mem_cons.mpr ⟨⟨_, ((if_neg (by decide +kernel)).trans ((if_neg (by decide +kernel)).trans ((if_neg (by decide +kernel)).trans ((if_neg (by decide +kernel)).trans (if_pos rfl))))), (exAll_of xa_TooMany).ex, (exAll_of xa_TooMany).kit _ (List.mem_of_getElem? (i := 12) rfl)⟩, List.forall_mem_cons.mpr ⟨⟨_, ((if_neg (by decide +kernel)).trans ((if_neg (by decide +kernel)).trans ((if_neg (by decide +kernel)).trans ((if_neg (by decide +kernel)).trans ((if_neg (by decide +kernel)).trans (if_pos rfl)))))), (exAll_of xa_InvalidPerson).ex, (exAll_of xa_InvalidPerson).kit _ (List.mem_of_getElem? (i := 12) rfl)⟩, fun _ hb => (by cases hb)⟩⟩⟩)⟩,
    ⟨_, PySem.W.mg_of X G ca_NotAGathering, (List.forall_mem_cons.mpr ⟨⟨_, ((if_neg (by decide +kernel)).trans ((if_neg (by decide +kernel)).trans ((if_neg (by decide +kernel)).trans (if_pos rfl)))), (exAll_of xa_InvalidNumber).ex, (exAll_of xa_InvalidNumber).kit _ (List.mem_of_getElem? (i := 13) rfl)⟩, List.forall_mem_cons.mpr ⟨⟨_, ((if_neg (by decide +kernel)).trans ((if_neg (by decide +kernel)).trans ((if_neg (by decide +kernel)).trans ((if_neg (by decide +kernel)).trans (if_pos rfl))))), (exAll_of xa_TooMany).ex, (exAll_of xa_TooMany).kit _ (List.mem_of_getElem? (i := 13) rfl)⟩, List.forall_mem_cons.mpr ⟨⟨_, ((if_neg (by decide +kernel)).trans ((if_neg (by decide +kernel)).trans ((if_neg (by decide +kernel)).trans ((if_neg (by decide +kernel)).trans ((if_neg (by decide +kernel)).trans (if_pos rfl)))))), (exAll_of xa_InvalidPerson).ex, (exAll_of xa_InvalidPerson).kit _ (List.mem_of_getElem? (i := 13) rfl)⟩, fun _ hb => (by cases hb)⟩⟩⟩)⟩,
    ⟨_, PySem.W.mg_of X G ca_NotAParty, (List.forall_mem_cons.mpr ⟨⟨_, ((if_neg (by decide +kernel)).trans ((if_neg (by decide +kernel)).trans ((if_neg (by decide +kernel)).trans (if_pos rfl)))), (exAll_of xa_InvalidNumber).ex, (exAll_of xa_InvalidNumber).kit _ (List.mem_of_getElem? (i := 14) rfl)⟩, List.forall_mem_cons.mpr ⟨⟨_, ((if_neg (by decide +kernel)).trans ((if_neg (by decide +kernel)).trans ((if_neg (by decide +kernel)).trans ((if_neg (by decide +kernel)).trans (if_pos rfl))))), (exAll_of xa_TooMany).ex, (exAll_of xa_TooMany).kit _ (List.mem_of_getElem? (i := 14) rfl)⟩, List.forall_mem_cons.mpr ⟨⟨_, ((if_neg (by decide +kernel)).trans ((if_neg (by decide +kernel)).trans ((if_neg (by decide +kernel)).trans ((if_neg (by decide +kernel)).trans ((if_neg (by decide +kernel)).trans (if_pos rfl)))))), (exAll_of xa_InvalidPerson).ex, (exAll_of xa_InvalidPerson).kit _ (List.mem_of_getElem? (i := 14) rfl)⟩, fun _ hb => (by cases hb)⟩⟩⟩)⟩,
    ⟨_, PySem.W.mg_of X G ca_NotAThing, (List.forall_mem_cons.mpr ⟨⟨_, ((if_neg (by decide +kernel)).trans ((if_neg (by decide +kernel)).trans ((if_neg (by decide +kernel)).trans (if_pos rfl)))), (exAll_of xa_InvalidNumber).ex, (exAll_of xa_InvalidNumber).kit _ (List.mem_of_getElem? (i := 15) rfl)⟩, List.forall_mem_cons.mpr ⟨⟨_, ((if_neg (by decide +kernel)).trans ((if_neg (by decide +kernel)).trans ((if_neg (by decide +kernel)).trans ((if_neg (by decide +kernel)).trans (if_pos rfl))))), (exAll_of xa_TooMany).ex, (exAll_of xa_TooMany).kit _ (List.mem_of_getElem? (i := 15) rfl)⟩, List.forall_mem_cons.mpr ⟨⟨_, ((if_neg (by decide +kernel)).trans ((if_neg (by decide +kernel)).trans ((if_neg (by decide +kernel)).trans ((if_neg (by decide +kernel)).trans ((if_neg (by decide +kernel)).trans (if_pos rfl)))))), (exAll_of xa_InvalidPerson).ex, (exAll_of xa_InvalidPerson).kit _ (List.mem_of_getElem? (i := 15) rfl)⟩, fun _ hb => (by cases hb)⟩⟩⟩)⟩,
    ⟨_, PySem.W.mg_of X G ca_InvalidName, (List.forall_mem_cons.mpr ⟨⟨_, ((if_neg (by decide +kernel)).trans ((if_neg (by decide +kernel)).trans ((if_neg (by decide +kernel)).trans (if_pos rfl)))), (exAll_of xa_InvalidNumber).ex, (exAll_of xa_InvalidNumber).kit _ (List.mem_of_getElem? (i := 16) rfl)⟩, List.forall_mem_cons.mpr ⟨⟨_, ((if_neg (by decide +kernel)).trans ((if_neg (by decide +kernel)).trans ((if_neg (by decide +kernel)).trans ((if_neg (by decide +kernel)).trans (if_pos rfl))))), (exAll_of xa_TooMany).ex, (exAll_of xa_TooMany).kit _ (List.mem_of_getElem? (i := 16) rfl)⟩, List.forall_mem_cons.mpr ⟨⟨_, ((if_neg (by decide +kernel)).trans ((if_neg (by decide +kernel)).trans ((if_neg (by decide +kernel)).trans ((if_neg (by decide +kernel)).trans ((if_neg (by decide +kernel)).trans (if_pos rfl)))))), (exAll_of xa_InvalidPerson).ex, (exAll_of xa_InvalidPerson).kit _ (List.mem_of_getElem? (i := 16) rfl)⟩, fun _ hb => (by cases hb)⟩⟩⟩)⟩,
    ⟨_, PySem.W.mg_of X G ca_InvalidIndex, (List.forall_mem_cons.mpr ⟨⟨_, ((if_neg (by decide +kernel)).trans ((if_neg (by decide +kernel)).trans ((if_neg (by decide +kernel)).trans (if_pos rfl)))), (exAll_of xa_InvalidNumber).ex, (exAll_of xa_InvalidNumber).kit _ (List.mem_of_getElem? (i := 17) rfl)⟩, List.forall_mem_cons.mpr ⟨⟨_, ((if_neg (by decide +kernel)).trans ((if_neg (by decide +kernel)).trans ((if_neg (by decide +kernel)).trans ((if_neg (by decide +kernel)).trans (if_pos rfl))))), (exAll_of xa_TooMany).ex, (exAll_of xa_TooMany).kit _ (List.mem_of_getElem? (i := 17) rfl)⟩, List.forall_mem_cons.mpr ⟨⟨_, ((if_neg (by decide +kernel)).trans ((if_neg (by decide +kernel)).trans ((if_neg (by decide +kernel)).trans ((if_neg (by decide +kernel)).trans ((if_neg (by decide +kernel)).trans (if_pos rfl)))))), (exAll_of xa_InvalidPerson).ex, (exAll_of xa_InvalidPerson).kit _ (List.mem_of_getElem? (i := 17) rfl)⟩, fun _ hb => (by cases hb)⟩⟩⟩)⟩,
    ⟨_, PySem.W.mg_of X G ca_InvalidPerson, (List.forall_mem_cons.mpr ⟨⟨_, ((if_neg (by decide +kernel)).trans ((if_neg (by decide +kernel)).trans ((if_neg (by decide +kernel)).trans (if_pos rfl)))), (exAll_of xa_InvalidNumber).ex, (exAll_of xa_InvalidNumber).kit _ (List.mem_of_getElem? (i := 18) rfl)⟩, List.forall_mem_cons.mpr ⟨⟨_, ((if_neg (by decide +kernel)).trans ((if_neg (by decide +kernel)).trans ((if_neg (by decide +kernel)).trans ((if_neg (by decide +kernel)).trans (if_pos rfl))))), (exAll_of xa_TooMany).ex, (exAll_of xa_TooMany).kit _ (List.mem_of_getElem? (i := 18) rfl)⟩, List.forall_mem_cons.mpr ⟨⟨_, ((if_neg (by decide +kernel)).trans ((if_neg (by decide +kernel)).trans ((if_neg (by decide +kernel)).trans ((if_neg (by decide +kernel)).trans ((if_neg (by decide +kernel)).trans (if_pos rfl)))))), (exAll_of xa_InvalidPerson).ex, (exAll_of xa_InvalidPerson).kit _ (List.mem_of_getElem? (i := 18) rfl)⟩, fun _ hb => (by cases hb)⟩⟩⟩)⟩,
    ⟨_, PySem.W.mg_of X G ca_InvalidKind, (List.forall_mem_cons.mpr ⟨⟨_, ((if_neg (by decide +kernel)).trans ((if_neg (by decide +kernel)).trans ((if_neg (by decide +kernel)).trans (if_pos rfl)))), (exAll_of xa_InvalidNumber).ex, (exAll_of xa_InvalidNumber).kit _ (List.mem_of_getElem? (i := 19) rfl)⟩, List.forall_mem_cons.mpr ⟨⟨_, ((if_neg (by decide +kernel)).trans ((if_neg (by decide +kernel)).trans ((if_neg (by decide +kernel)).trans ((if_neg (by decide +kernel)).trans (if_pos rfl))))), (exAll_of xa_TooMany).ex, (exAll_of xa_TooMany).kit _ (List.mem_of_getElem? (i := 19) rfl)⟩, List.forall_mem_cons.mpr ⟨⟨_, ((if_neg (by decide +kernel)).trans ((if_neg (by decide +kernel)).trans ((if_neg (by decide +kernel)).trans ((if_neg (by decide +kernel)).trans ((if_neg (by decide +kernel)).trans (if_pos rfl)))))), (exAll_of xa_InvalidPerson).ex, (exAll_of xa_InvalidPerson).kit _ (List.mem_of_getElem? (i := 19) rfl)⟩, fun _ hb => (by cases hb)⟩⟩⟩)⟩,
    ⟨_, PySem.W.mg_of X G ca_InvalidNumber, (List.forall_mem_cons.mpr ⟨⟨_, ((if_neg (by decide +kernel)).trans ((if_neg (by decide +kernel)).trans ((if_neg (by decide +kernel)).trans (if_pos rfl)))), (exAll_of xa_InvalidNumber).ex, (exAll_of xa_InvalidNumber).kit _ (List.mem_of_getElem? (i := 20) rfl)⟩, List.forall_mem_cons.mpr ⟨⟨_, ((if_neg (by decide +kernel)).trans ((if_neg (by decide +kernel)).trans ((if_neg (by decide +kernel)).trans ((if_neg (by decide +kernel)).trans (if_pos rfl))))), (exAll_of xa_TooMany).ex, (exAll_of xa_TooMany).kit _ (List.mem_of_getElem? (i := 20) rfl)⟩, List.forall_mem_cons.mpr ⟨⟨_, ((if_neg (by decide +kernel)).trans ((if_neg (by decide +kernel)).trans ((if_neg (by decide +kernel)).trans ((if_neg (by decide +kernel)).trans ((if_neg (by decide +kernel)).trans (if_pos rfl)))))), (exAll_of xa_InvalidPerson).ex, (exAll_of xa_InvalidPerson).kit _ (List.mem_of_getElem? (i := 20) rfl)⟩, fun _ hb => (by cases hb)⟩⟩⟩)⟩,
    ⟨_, PySem.W.mg_of X G ca_InvalidText, (List.forall_mem_cons.mpr ⟨⟨_, ((if_neg (by decide +kernel)).trans ((if_neg (by decide +kernel)).trans ((if_neg (by decide +kernel)).trans (if_pos rfl)))), (exAll_of xa_InvalidNumber).ex, (exAll_of xa_InvalidNumber).kit _ (List.mem_of_getElem? (i := 21) rfl)⟩, List.forall_mem_cons.mpr ⟨⟨_, ((if_neg (by decide +kernel)).trans ((if_neg (by decide +kernel)).trans ((if_neg (by decide +kernel)).trans ((if_neg (by decide +kernel)).trans (if_pos rfl))))), (exAll_of xa_TooMany).ex, (exAll_of xa_TooMany).kit _ (List.mem_of_getElem? (i := 21) rfl)⟩, List.forall_mem_cons.mpr ⟨⟨_, ((if_neg (by decide +kernel)).trans ((if_neg (by decide +kernel)).trans ((if_neg (by decide +kernel)).trans ((if_neg (by decide +kernel)).trans ((if_neg (by decide +kernel)).trans (if_pos rfl)))))), (exAll_of xa_InvalidPerson).ex, (exAll_of xa_InvalidPerson).kit _ (List.mem_of_getElem? (i := 21) rfl)⟩, fun _ hb => (by cases hb)⟩⟩⟩)⟩,
    (fun _ hb => (by cases hb)),
    (List.forall_mem_cons.mpr ⟨⟨_, ((if_neg (by decide +kernel)).trans ((if_neg (by decide +kernel)).trans ((if_neg (by decide +kernel)).trans (if_pos rfl)))), (exAll_of xa_InvalidNumber).xf, (exAll_of xa_InvalidNumber).no _ (List.mem_of_getElem? (i := 0) rfl)⟩, List.forall_mem_cons.mpr ⟨⟨_, ((if_neg (by decide +kernel)).trans ((if_neg (by decide +kernel)).trans ((if_neg (by decide +kernel)).trans ((if_neg (by decide +kernel)).trans ((if_neg (by decide +kernel)).trans (if_pos rfl)))))), (exAll_of xa_InvalidPerson).xf, (exAll_of xa_InvalidPerson).no _ (List.mem_of_getElem? (i := 0) rfl)⟩, fun _ hb => (by cases hb)⟩⟩),
    (fun _ hb => (by cases hb)),
    (List.forall_mem_cons.mpr ⟨⟨_, ((if_neg (by decide +kernel)).trans ((if_neg (by decide +kernel)).trans ((if_neg (by decide +kernel)).trans ((if_neg (by decide +kernel)).trans (if_pos rfl))))), (exAll_of xa_TooMany).xf, (exAll_of xa_TooMany).no _ (List.mem_of_getElem? (i := 0) rfl)⟩, fun _ hb => (by cases hb)⟩),
    (fun _ hb => (by cases hb)),
    (fun _ hb => (by cases hb)),
    ⟨_, _, PySem.W.mg_of X G ca_WrongValue, PySem.W.mg_of X G ca_NoAnswer, (List.forall_mem_cons.mpr ⟨⟨_, ((if_neg (by decide +kernel)).trans ((if_neg (by decide +kernel)).trans ((if_neg (by decide +kernel)).trans (if_pos rfl)))), (exAll_of xa_InvalidNumber).hit⟩, List.forall_mem_cons.mpr ⟨⟨_, ((if_neg (by decide +kernel)).trans ((if_neg (by decide +kernel)).trans ((if_neg (by decide +kernel)).trans ((if_neg (by decide +kernel)).trans (if_pos rfl))))), (exAll_of xa_TooMany).hit⟩, List.forall_mem_cons.mpr ⟨⟨_, ((if_neg (by decide +kernel)).trans ((if_neg (by decide +kernel)).trans ((if_neg (by decide +kernel)).trans ((if_neg (by decide +kernel)).trans ((if_neg (by decide +kernel)).trans (if_pos rfl)))))), (exAll_of xa_InvalidPerson).hit⟩, fun _ hb => (by cases hb)⟩⟩⟩)⟩,
    (if_pos rfl),
    ⟨_, _, fun_mk (st := s_is_integer) l_is_integer c_is_integer k_is_integer, PySem.W.mg_of X G a_is_integer, (fun_mk (st := s_is_integer) l_is_integer c_is_integer k_is_integer).binds (ps := ["value"]) (fun _ _ _ _ _ _ us hl => match us, hl with | [_], _ => rfl), (fun b hb => by cases hb)⟩,
    ⟨_, _, fun_mk (st := s_is_between) l_is_between c_is_between k_is_between, PySem.W.mg_of X G a_is_between, (fun_mk (st := s_is_between) l_is_between c_is_between k_is_between).binds (ps := ["value", "least", "most"]) (fun _ _ _ _ _ _ us hl => match us, hl with | [_, _, _], _ => rfl), (fun b hb => by cases hb)⟩,
    ⟨_, _, fun_mk (st := s_check_people) l_check_people c_check_people k_check_people, PySem.W.mg_of X G a_check_people, (fun_mk (st := s_check_people) l_check_people c_check_people k_check_people).binds (ps := ["people", "most"]) (fun _ _ _ _ _ _ us hl => match us, hl with | [_, _], _ => rfl), (fun b hb => by cases hb)⟩,
    ⟨_, _, fun_mk (st := s_check_two) l_check_two c_check_two k_check_two, PySem.W.mg_of X G a_check_two, (fun_mk (st := s_check_two) l_check_two c_check_two k_check_two).binds (ps := ["one", "other", "people"]) (fun _ _ _ _ _ _ us hl => match us, hl with | [_, _, _], _ => rfl), (fun b hb => by cases hb)⟩,
    ⟨_, _, fun_mk (st := s_pairs_of) l_pairs_of c_pairs_of k_pairs_of, PySem.W.mg_of X G a_pairs_of, (fun_mk (st := s_pairs_of) l_pairs_of c_pairs_of k_pairs_of).binds (ps := ["many"]) (fun _ _ _ _ _ _ us hl => match us, hl with | [_], _ => rfl), (fun b hb => by cases hb)⟩,
    ⟨_, _, fun_mk (st := s_most_rings) l_most_rings c_most_rings k_most_rings, PySem.W.mg_of X G a_most_rings, (fun_mk (st := s_most_rings) l_most_rings c_most_rings k_most_rings).binds (ps := ["kind", "number", "people"]) (fun _ _ _ _ _ _ us hl => match us, hl with | [_, _, _], _ => rfl), (fun b hb => by cases hb)⟩,
    ⟨_, _, fun_mk (st := s_most_groups) l_most_groups c_most_groups k_most_groups, PySem.W.mg_of X G a_most_groups, (fun_mk (st := s_most_groups) l_most_groups c_most_groups k_most_groups).binds (ps := ["kind", "number", "people"]) (fun _ _ _ _ _ _ us hl => match us, hl with | [_, _, _], _ => rfl), (fun b hb => by cases hb)⟩,
    ⟨_, _, fun_mk (st := s_most_pairs) l_most_pairs c_most_pairs k_most_pairs, PySem.W.mg_of X G a_most_pairs, (fun_mk (st := s_most_pairs) l_most_pairs c_most_pairs k_most_pairs).binds (ps := ["number", "people"]) (fun _ _ _ _ _ _ us hl => match us, hl with | [_, _], _ => rfl), (fun b hb => by cases hb)⟩,
    ⟨_, _, fun_mk (st := s_is_all_tied) l_is_all_tied c_is_all_tied k_is_all_tied, PySem.W.mg_of X G a_is_all_tied, (fun_mk (st := s_is_all_tied) l_is_all_tied c_is_all_tied k_is_all_tied).binds (ps := ["kind", "number", "people"]) (fun _ _ _ _ _ _ us hl => match us, hl with | [_, _, _], _ => rfl), (fun b hb => by cases hb)⟩,
    ⟨_, _, fun_mk (st := s_most_of) l_most_of c_most_of k_most_of, PySem.W.mg_of X G a_most_of, (fun_mk (st := s_most_of) l_most_of c_most_of k_most_of).binds (ps := ["kind", "number", "people"]) (fun _ _ _ _ _ _ us hl => match us, hl with | [_, _, _], _ => rfl), (fun b hb => by cases hb)⟩,
    ⟨_, _, (FunD.mk ⟨_, _, _, _, _, _, _, _, _, _, rfl, l_Thing___init__, c_Thing___init__, .inr ⟨by simp, _, _, _, dn_Thing___init__, rfl, dl_Thing___init__, by simp, dv_Thing___init__⟩, .inl rfl⟩ k_Thing___init__), ⟨cmk_Thing, a_Thing___init__, i_Thing___init__, ckp_Thing⟩, fun j hj => (match j, hj with | 0, _ => FunD.binds1 (ps := ["self", "kind", "size"]) (FunD.mk ⟨_, _, _, _, _, _, _, _, _, _, rfl, l_Thing___init__, c_Thing___init__, .inr ⟨by simp, _, _, _, dn_Thing___init__, rfl, dl_Thing___init__, by simp, dv_Thing___init__⟩, .inl rfl⟩ k_Thing___init__) 2 0 (by simp) (by simp) fun _ _ _ _ _ _ _ us its h1 h2 => (match us, h1, its, h2 with | [_, _], _, [_], _ => ⟨_, rfl, rfl⟩) | 1, _ => FunD.binds1 (ps := ["self", "kind", "size"]) (FunD.mk ⟨_, _, _, _, _, _, _, _, _, _, rfl, l_Thing___init__, c_Thing___init__, .inr ⟨by simp, _, _, _, dn_Thing___init__, rfl, dl_Thing___init__, by simp, dv_Thing___init__⟩, .inl rfl⟩ k_Thing___init__) 3 1 (by simp) (by simp) fun _ _ _ _ _ _ _ us its h1 h2 => (match us, h1, its, h2 with | [_, _, _], _, [_], _ => ⟨_, rfl, rfl⟩) | j + 2, h => absurd h (by simp)), fun b hb => by cases hb⟩,
    ⟨_, _, fun_mk (st := s_wrong_tie) l_wrong_tie c_wrong_tie k_wrong_tie, PySem.W.mg_of X G a_wrong_tie, (fun_mk (st := s_wrong_tie) l_wrong_tie c_wrong_tie k_wrong_tie).binds (ps := ["ties", "people"]) (fun _ _ _ _ _ _ us hl => match us, hl with | [_, _], _ => rfl), (fun b hb => by cases hb)⟩,
    ⟨_, _, fun_mk (st := s_all_ties) l_all_ties c_all_ties k_all_ties, PySem.W.mg_of X G a_all_ties, (fun_mk (st := s_all_ties) l_all_ties c_all_ties k_all_ties).binds (ps := ["people"]) (fun _ _ _ _ _ _ us hl => match us, hl with | [_], _ => rfl), (fun b hb => by cases hb)⟩,
    ⟨_, _, (FunD.mk ⟨_, _, _, _, _, _, _, _, _, _, rfl, l_Party___init__, c_Party___init__, .inr ⟨by simp, _, _, _, dn_Party___init__, rfl, dl_Party___init__, by simp, dv_Party___init__⟩, .inl rfl⟩ k_Party___init__), ⟨cmk_Party, a_Party___init__, i_Party___init__, ckp_Party⟩, fun j hj => (match j, hj with | 0, _ => FunD.binds1 (ps := ["self", "people", "ties"]) (FunD.mk ⟨_, _, _, _, _, _, _, _, _, _, rfl, l_Party___init__, c_Party___init__, .inr ⟨by simp, _, _, _, dn_Party___init__, rfl, dl_Party___init__, by simp, dv_Party___init__⟩, .inl rfl⟩ k_Party___init__) 2 0 (by simp) (by simp) fun _ _ _ _ _ _ _ us its h1 h2 => (match us, h1, its, h2 with | [_, _], _, [_], _ => ⟨_, rfl, rfl⟩) | 1, _ => FunD.binds1 (ps := ["self", "people", "ties"]) (FunD.mk ⟨_, _, _, _, _, _, _, _, _, _, rfl, l_Party___init__, c_Party___init__, .inr ⟨by simp, _, _, _, dn_Party___init__, rfl, dl_Party___init__, by simp, dv_Party___init__⟩, .inl rfl⟩ k_Party___init__) 3 1 (by simp) (by simp) fun _ _ _ _ _ _ _ us its h1 h2 => (match us, h1, its, h2 with | [_, _, _], _, [_], _ => ⟨_, rfl, rfl⟩) | j + 2, h => absurd h (by simp)), fun b hb => by cases hb⟩,
    fun F => .inr ⟨_, _, _, te_Party, rfl, rfl, by rw [tt_Party]; exact Nat.zero_le _, by rw [tt_Party]; exact .nil⟩,
    ⟨_, _, _, fun_mk (st := s_Party_people) l_Party_people c_Party_people k_Party_people, ⟨pa_Party_people, pg_Party_people, pt_Party_people, ⟨_, px_Party_people⟩⟩, (fun_mk (st := s_Party_people) l_Party_people c_Party_people k_Party_people).binds (ps := ["self"]) (fun _ _ _ _ _ _ us hl => match us, hl with | [_], _ => rfl)⟩,
    ⟨_, _, fun_mk (st := s_Thing_most) l_Thing_most c_Thing_most k_Thing_most, ⟨a_Thing_most, i_Thing_most, k_Thing_most⟩, (fun_mk (st := s_Thing_most) l_Thing_most c_Thing_most k_Thing_most).binds (ps := ["self", "people"]) (fun _ _ _ _ _ _ us hl => match us, hl with | [_, _], _ => rfl), (List.forall_mem_cons.mpr ⟨⟨fun s us ws _ h1 h2 => (match us, h1, ws, h2 with | [_], _, [_], _ => .of_eq rfl), kwG_vals⟩, fun b hb => by cases hb⟩)⟩,
    ⟨_, _, fun_mk (st := s_Thing_forced) l_Thing_forced c_Thing_forced k_Thing_forced, ⟨a_Thing_forced, i_Thing_forced, k_Thing_forced⟩, (fun_mk (st := s_Thing_forced) l_Thing_forced c_Thing_forced k_Thing_forced).binds (ps := ["self", "people"]) (fun _ _ _ _ _ _ us hl => match us, hl with | [_, _], _ => rfl), (List.forall_mem_cons.mpr ⟨⟨fun s us ws _ h1 h2 => (match us, h1, ws, h2 with | [_], _, [_], _ => .of_eq rfl), kwG_vals⟩, fun b hb => by cases hb⟩)⟩,
    ⟨_, _, fun_mk (st := s_Thing_tied) l_Thing_tied c_Thing_tied k_Thing_tied, ⟨a_Thing_tied, i_Thing_tied, k_Thing_tied⟩, (fun_mk (st := s_Thing_tied) l_Thing_tied c_Thing_tied k_Thing_tied).binds (ps := ["self", "people", "one", "other"]) (fun _ _ _ _ _ _ us hl => match us, hl with | [_, _, _, _], _ => rfl), (List.forall_mem_cons.mpr ⟨⟨fun s us ws _ h1 h2 => (match us, h1, ws, h2 with | [_], _, [_, _, _], _ => .of_eq rfl), kwG_vals⟩, fun b hb => by cases hb⟩)⟩,
    ⟨_, _, fun_mk (st := s_Thing_fullest) l_Thing_fullest c_Thing_fullest k_Thing_fullest, ⟨a_Thing_fullest, i_Thing_fullest, k_Thing_fullest⟩, (fun_mk (st := s_Thing_fullest) l_Thing_fullest c_Thing_fullest k_Thing_fullest).binds (ps := ["self", "people"]) (fun _ _ _ _ _ _ us hl => match us, hl with | [_, _], _ => rfl), (List.forall_mem_cons.mpr ⟨⟨fun s us ws _ h1 h2 => (match us, h1, ws, h2 with | [_], _, [_], _ => .of_eq rfl), kwG_vals⟩, fun b hb => by cases hb⟩)⟩,
    ⟨_, _, fun_mk (st := s__law_purse) l__law_purse c__law_purse k__law_purse, PySem.W.mg_of X G a__law_purse, (fun_mk (st := s__law_purse) l__law_purse c__law_purse k__law_purse).binds (ps := ["_law_script", "_law_spot"]) (fun _ _ _ _ _ _ us hl => match us, hl with | [_, _], _ => rfl), (fun b hb => by cases hb)⟩,
    ⟨_, _, fun_mk (st := s__law_draw) l__law_draw c__law_draw k__law_draw, PySem.W.mg_of X G a__law_draw, (fun_mk (st := s__law_draw) l__law_draw c__law_draw k__law_draw).binds (ps := ["_law_purse_here", "_law_many"]) (fun _ _ _ _ _ _ us hl => match us, hl with | [_, _], _ => rfl), (fun b hb => by cases hb)⟩,
    ⟨_, _, fun_mk (st := s__law_things) l__law_things c__law_things k__law_things, PySem.W.mg_of X G a__law_things, (fun_mk (st := s__law_things) l__law_things c__law_things k__law_things).binds (ps := ["_law_most"]) (fun _ _ _ _ _ _ us hl => match us, hl with | [_], _ => rfl), (fun b hb => by cases hb)⟩,
    ⟨_, _, fun_mk (st := s__law_sort) l__law_sort c__law_sort k__law_sort, PySem.W.mg_of X G a__law_sort, (fun_mk (st := s__law_sort) l__law_sort c__law_sort k__law_sort).binds (ps := ["_law_e"]) (fun _ _ _ _ _ _ us hl => match us, hl with | [_], _ => rfl), (fun b hb => by cases hb)⟩,
    ⟨_, _, fun_mk (st := s__law_attribute) l__law_attribute c__law_attribute k__law_attribute, PySem.W.mg_of X G a__law_attribute, (fun_mk (st := s__law_attribute) l__law_attribute c__law_attribute k__law_attribute).binds (ps := ["_law_e", "_law_word"]) (fun _ _ _ _ _ _ us hl => match us, hl with | [_, _], _ => rfl), (fun b hb => by cases hb)⟩,
    ⟨_, _, fun_mk (st := s__law_told) l__law_told c__law_told k__law_told, PySem.W.mg_of X G a__law_told, (fun_mk (st := s__law_told) l__law_told c__law_told k__law_told).binds (ps := ["_law_act"]) (fun _ _ _ _ _ _ us hl => match us, hl with | [_], _ => rfl), (fun b hb => by cases hb)⟩,
    ⟨_, _, fun_mk (st := s__law_right) l__law_right c__law_right k__law_right, PySem.W.mg_of X G a__law_right, (fun_mk (st := s__law_right) l__law_right c__law_right k__law_right).binds (ps := ["_law_purse_here"]) (fun _ _ _ _ _ _ us hl => match us, hl with | [_], _ => rfl), (fun b hb => by cases hb), cdr__law_right⟩,
    ⟨_, _, fun_mk (st := s_law) l_law c_law k_law, PySem.W.mg_of X G a_law, (fun_mk (st := s_law) l_law c_law k_law).binds (ps := ["_law_script"]) (fun _ _ _ _ _ _ us hl => match us, hl with | [_], _ => rfl), (fun b hb => by cases hb)⟩⟩
  exact ⟨_, [(cq__law_right, cp__law_right)], (List.forall_mem_cons.mpr ⟨PySem.W.codeHd_of_K X lh__law_right, fun _ hb => (by cases hb)⟩), (List.forall_mem_cons.mpr ⟨lt__law_right, fun _ hb => (by cases hb)⟩), (List.forall_mem_cons.mpr ⟨ln__law_right, fun _ hb => (by cases hb)⟩), fun s v => .of_eq rfl, fun base _ _ TBs => law_scrT (ct := (fun c : Str => if c = lamQ "_law_right" then some cp__law_right else if c = "Thing" then some C_Thing else if c = "Party" then some C_Party else if c = "InvalidNumber" then some C_InvalidNumber else if c = "TooMany" then some C_TooMany else if c = "InvalidPerson" then some C_InvalidPerson else none)) (qs := [(lamQ "_law_right", cp__law_right)]) (List.forall_mem_cons.mpr ⟨(if_pos rfl), fun _ hb => (by cases hb)⟩) (by simp) (law_fn (fun_mk (st := s_law) l_law c_law k_law) T (TBs _ (List.mem_of_getElem? (i := 0) rfl))) plain⟩

def hFacts0 : List (Fr → Bool) := [fun K => freeB K "abs",
  fun K => freeB K "all",
  fun K => freeB K "bool",
  fun K => freeB K "divmod",
  fun K => freeB K "enumerate",
  fun K => freeB K "int",
  fun K => freeB K "isinstance",
  fun K => freeB K "len",
  fun K => freeB K "max",
  fun K => freeB K "min",
  fun K => freeB K "range",
  fun K => freeB K "repr",
  fun K => freeB K "str",
  fun K => freeB K "tuple",
  fun K => litB K "MOST_ASKED" (.int (10000000000000000000000000000000000000000)),
  fun K => litB K "MOST_PEOPLE" (.int (10)),
  fun K => gloB K "LEAST",
  fun K => !(He.ga K "LEAST" == sysModules),
  fun K => tupB K (He.ga K "PLAIN") [.str "odd ring", .str "even ring"],
  fun K => gloB K "PLAIN",
  fun K => gloB K "Thing",
  fun K => PySem.W.plainGet K (He.ga K "Thing") Str.empty,
  fun K => PySem.W.hasDictIn K (He.ga K "Thing"),
  fun K => PySem.W.plainOver K (He.ga K "Thing"),
  fun K => He.eqO (PySem.W.findIn K (.ref (He.ga K "Thing")) "__setattr__") (some (some (.builtin "object.__setattr__"))),
  fun K => PySem.W.makesIn K (He.ga K "Thing"),
  fun K => PySem.W.keepIn K (.ref (He.ga K "Thing")),
  fun K => gloB K "Party",
  fun K => PySem.W.plainGet K (He.ga K "Party") Str.empty,
  fun K => PySem.W.hasDictIn K (He.ga K "Party")]
def hFacts1 : List (Fr → Bool) := [fun K => PySem.W.plainOver K (He.ga K "Party"),
  fun K => He.eqO (PySem.W.findIn K (.ref (He.ga K "Party")) "__setattr__") (some (some (.builtin "object.__setattr__"))),
  fun K => PySem.W.makesIn K (He.ga K "Party"),
  fun K => PySem.W.keepIn K (.ref (He.ga K "Party")),
  fun K => He.eqO (PySem.W.findIn K (.ref (He.ga K "Party")) "held") (some none),
  fun K => He.eqO (PySem.W.findIn K (.ref (He.ga K "Party")) "many") (some none),
  fun K => He.eqO (PySem.W.findIn K (.ref (He.ga K "Thing")) "many") (some none),
  fun K => He.eqO (PySem.W.findIn K (.ref (He.ga K "Thing")) "word") (some none),
  fun K => gloB K "NoAnswer",
  fun K => gloB K "WrongValue",
  fun K => gloB K "NothingToUndo",
  fun K => gloB K "UnknownName",
  fun K => gloB K "Holding",
  fun K => gloB K "Unruly",
  fun K => gloB K "Broken",
  fun K => gloB K "NotTied",
  fun K => gloB K "AlreadyTied",
  fun K => gloB K "TooMany",
  fun K => gloB K "InvalidPeople",
  fun K => gloB K "InvalidTies",
  fun K => gloB K "OtherSize",
  fun K => gloB K "NotAGathering",
  fun K => gloB K "NotAParty",
  fun K => gloB K "NotAThing",
  fun K => gloB K "InvalidName",
  fun K => gloB K "InvalidIndex",
  fun K => gloB K "InvalidPerson",
  fun K => gloB K "InvalidKind",
  fun K => gloB K "InvalidNumber",
  fun K => gloB K "InvalidText"]
def hFacts2 : List (Fr → Bool) := [fun K => He.eqO (PySem.W.findIn K (.ref (He.ga K "InvalidNumber")) "__init__") (some (some (.ref (He.ma K (He.ga K "InvalidNumber") "__init__")))),
  fun K => decide (PySem.W.typeIn K (.ref (He.ma K (He.ga K "InvalidNumber") "__init__")) = some (.type "function")),
  fun K => exAllB K (He.ga K "InvalidNumber") true ["given"] (He.ga K "WrongValue") (He.ga K "NoAnswer") [(He.ga K "NoAnswer", false), (He.ga K "WrongValue", true), (He.ga K "NothingToUndo", false), (He.ga K "UnknownName", false), (He.ga K "Holding", false), (He.ga K "Unruly", false), (He.ga K "Broken", false), (He.ga K "NotTied", false), (He.ga K "AlreadyTied", false), (He.ga K "TooMany", false), (He.ga K "InvalidPeople", false), (He.ga K "InvalidTies", false), (He.ga K "OtherSize", false), (He.ga K "NotAGathering", false), (He.ga K "NotAParty", false), (He.ga K "NotAThing", false), (He.ga K "InvalidName", false), (He.ga K "InvalidIndex", false), (He.ga K "InvalidPerson", false), (He.ga K "InvalidKind", false), (He.ga K "InvalidNumber", true), (He.ga K "InvalidText", false)],
  fun K => He.eqO (PySem.W.findIn K (.ref (He.ga K "TooMany")) "__init__") (some (some (.ref (He.ma K (He.ga K "TooMany") "__init__")))),
  fun K => decide (PySem.W.typeIn K (.ref (He.ma K (He.ga K "TooMany") "__init__")) = some (.type "function")),
  fun K => exAllB K (He.ga K "TooMany") false ["number"] (He.ga K "WrongValue") (He.ga K "NoAnswer") [(He.ga K "NoAnswer", true), (He.ga K "WrongValue", false), (He.ga K "NothingToUndo", false), (He.ga K "UnknownName", false), (He.ga K "Holding", false), (He.ga K "Unruly", false), (He.ga K "Broken", false), (He.ga K "NotTied", false), (He.ga K "AlreadyTied", false), (He.ga K "TooMany", true), (He.ga K "InvalidPeople", false), (He.ga K "InvalidTies", false), (He.ga K "OtherSize", false), (He.ga K "NotAGathering", false), (He.ga K "NotAParty", false), (He.ga K "NotAThing", false), (He.ga K "InvalidName", false), (He.ga K "InvalidIndex", false), (He.ga K "InvalidPerson", false), (He.ga K "InvalidKind", false), (He.ga K "InvalidNumber", false), (He.ga K "InvalidText", false)],
  fun K => He.eqO (PySem.W.findIn K (.ref (He.ga K "InvalidPerson")) "__init__") (some (some (.ref (He.ma K (He.ga K "InvalidPerson") "__init__")))),
  fun K => decide (PySem.W.typeIn K (.ref (He.ma K (He.ga K "InvalidPerson") "__init__")) = some (.type "function")),
  fun K => exAllB K (He.ga K "InvalidPerson") true ["given"] (He.ga K "WrongValue") (He.ga K "NoAnswer") [(He.ga K "NoAnswer", false), (He.ga K "WrongValue", true), (He.ga K "NothingToUndo", false), (He.ga K "UnknownName", false), (He.ga K "Holding", false), (He.ga K "Unruly", false), (He.ga K "Broken", false), (He.ga K "NotTied", false), (He.ga K "AlreadyTied", false), (He.ga K "TooMany", false), (He.ga K "InvalidPeople", false), (He.ga K "InvalidTies", false), (He.ga K "OtherSize", false), (He.ga K "NotAGathering", false), (He.ga K "NotAParty", false), (He.ga K "NotAThing", false), (He.ga K "InvalidName", false), (He.ga K "InvalidIndex", false), (He.ga K "InvalidPerson", true), (He.ga K "InvalidKind", false), (He.ga K "InvalidNumber", false), (He.ga K "InvalidText", false)],
  fun K => gloB K "is_integer",
  fun K => gloB K "is_between",
  fun K => gloB K "check_people",
  fun K => gloB K "check_two",
  fun K => gloB K "pairs_of",
  fun K => gloB K "most_rings",
  fun K => gloB K "most_groups",
  fun K => gloB K "most_pairs",
  fun K => gloB K "is_all_tied",
  fun K => gloB K "most_of",
  fun K => He.eqO (PySem.W.findIn K (.ref (He.ga K "Thing")) "__init__") (some (some (.ref (He.ma K (He.ga K "Thing") "__init__")))),
  fun K => PySem.W.isFn K (.ref (He.ma K (He.ga K "Thing") "__init__")),
  fun K => seqB K (dtK K (He.ma K (He.ga K "Thing") "__init__")) [.non],
  fun K => gloB K "wrong_tie",
  fun K => gloB K "all_ties",
  fun K => He.eqO (PySem.W.findIn K (.ref (He.ga K "Party")) "__init__") (some (some (.ref (He.ma K (He.ga K "Party") "__init__")))),
  fun K => PySem.W.isFn K (.ref (He.ma K (He.ga K "Party") "__init__")),
  fun K => seqB K (dtK K (He.ma K (He.ga K "Party") "__init__")) [.ref (etK K (He.ma K (He.ga K "Party") "__init__"))],
  fun K => tupB K (etK K (He.ma K (He.ga K "Party") "__init__")) [],
  fun K => He.eqO (PySem.W.findIn K (.ref (He.ga K "Party")) "people") (some (some (.ref (He.ma K (He.ga K "Party") "people")))),
  fun K => He.eqO (PySem.W.specialIn K (.ref (He.ma K (He.ga K "Party") "people")) "__get__") (some (some (.builtin "property.__get__")))]
def hFacts3 : List (Fr → Bool) := [fun K => decide (PySem.W.takesIn K (.ref (He.ma K (He.ga K "Party") "people")) = some true),
  fun K => prB K (He.ga K "Party") "people",
  fun K => He.eqO (PySem.W.findIn K (.ref (He.ga K "Thing")) "most") (some (some (.ref (He.ma K (He.ga K "Thing") "most")))),
  fun K => PySem.W.isFn K (.ref (He.ma K (He.ga K "Thing") "most")),
  fun K => He.eqO (PySem.W.findIn K (.ref (He.ga K "Thing")) "forced") (some (some (.ref (He.ma K (He.ga K "Thing") "forced")))),
  fun K => PySem.W.isFn K (.ref (He.ma K (He.ga K "Thing") "forced")),
  fun K => He.eqO (PySem.W.findIn K (.ref (He.ga K "Thing")) "tied") (some (some (.ref (He.ma K (He.ga K "Thing") "tied")))),
  fun K => PySem.W.isFn K (.ref (He.ma K (He.ga K "Thing") "tied")),
  fun K => He.eqO (PySem.W.findIn K (.ref (He.ga K "Thing")) "fullest") (some (some (.ref (He.ma K (He.ga K "Thing") "fullest")))),
  fun K => PySem.W.isFn K (.ref (He.ma K (He.ga K "Thing") "fullest")),
  fun K => gloB K "_law_purse",
  fun K => gloB K "_law_draw",
  fun K => gloB K "_law_things",
  fun K => gloB K "_law_sort",
  fun K => gloB K "_law_attribute",
  fun K => gloB K "_law_told",
  fun K => gloB K "_law_right",
  fun K => gloB K "law"]
def hFacts : List (Fr → Bool) := hFacts0 ++ hFacts1 ++ hFacts2 ++ hFacts3
def hDefs0 : List DefK := [⟨fun K => He.ma K (He.ga K "InvalidNumber") "__init__", "__init__", "InvalidNumber.__init__", s_InvalidNumber, false⟩,
  ⟨fun K => He.ma K (He.ga K "TooMany") "__init__", "__init__", "TooMany.__init__", s_TooMany, false⟩,
  ⟨fun K => He.ma K (He.ga K "InvalidPerson") "__init__", "__init__", "InvalidPerson.__init__", s_InvalidPerson, false⟩,
  ⟨fun K => He.ga K "is_integer", "is_integer", "is_integer", s_is_integer, false⟩,
  ⟨fun K => He.ga K "is_between", "is_between", "is_between", s_is_between, false⟩,
  ⟨fun K => He.ga K "check_people", "check_people", "check_people", s_check_people, false⟩,
  ⟨fun K => He.ga K "check_two", "check_two", "check_two", s_check_two, false⟩,
  ⟨fun K => He.ga K "pairs_of", "pairs_of", "pairs_of", s_pairs_of, false⟩,
  ⟨fun K => He.ga K "most_rings", "most_rings", "most_rings", s_most_rings, false⟩,
  ⟨fun K => He.ga K "most_groups", "most_groups", "most_groups", s_most_groups, false⟩,
  ⟨fun K => He.ga K "most_pairs", "most_pairs", "most_pairs", s_most_pairs, false⟩,
  ⟨fun K => He.ga K "is_all_tied", "is_all_tied", "is_all_tied", s_is_all_tied, false⟩,
  ⟨fun K => He.ga K "most_of", "most_of", "most_of", s_most_of, false⟩,
  ⟨fun K => He.ma K (He.ga K "Thing") "__init__", "__init__", "Thing.__init__", s_Thing___init__, true⟩,
  ⟨fun K => He.ga K "wrong_tie", "wrong_tie", "wrong_tie", s_wrong_tie, false⟩,
  ⟨fun K => He.ga K "all_ties", "all_ties", "all_ties", s_all_ties, false⟩,
  ⟨fun K => He.ma K (He.ga K "Party") "__init__", "__init__", "Party.__init__", s_Party___init__, true⟩,
  ⟨fun K => prK K (He.ga K "Party") "people", "people", "Party.people", s_Party_people, false⟩,
  ⟨fun K => He.ma K (He.ga K "Thing") "most", "most", "Thing.most", s_Thing_most, false⟩,
  ⟨fun K => He.ma K (He.ga K "Thing") "forced", "forced", "Thing.forced", s_Thing_forced, false⟩,
  ⟨fun K => He.ma K (He.ga K "Thing") "tied", "tied", "Thing.tied", s_Thing_tied, false⟩,
  ⟨fun K => He.ma K (He.ga K "Thing") "fullest", "fullest", "Thing.fullest", s_Thing_fullest, false⟩,
  ⟨fun K => He.ga K "_law_purse", "_law_purse", "_law_purse", s__law_purse, false⟩,
  ⟨fun K => He.ga K "_law_draw", "_law_draw", "_law_draw", s__law_draw, false⟩,
  ⟨fun K => He.ga K "_law_things", "_law_things", "_law_things", s__law_things, false⟩,
  ⟨fun K => He.ga K "_law_sort", "_law_sort", "_law_sort", s__law_sort, false⟩,
  ⟨fun K => He.ga K "_law_attribute", "_law_attribute", "_law_attribute", s__law_attribute, false⟩,
  ⟨fun K => He.ga K "_law_told", "_law_told", "_law_told", s__law_told, false⟩,
  ⟨fun K => He.ga K "_law_right", "_law_right", "_law_right", s__law_right, false⟩,
  ⟨fun K => He.ga K "law", "law", "law", s_law, false⟩]
def hDefs : List DefK := hDefs0
def hNames0 : List Str := ["LEAST",
  "PLAIN",
  "Thing",
  "Party",
  "NoAnswer",
  "WrongValue",
  "NothingToUndo",
  "UnknownName",
  "Holding",
  "Unruly",
  "Broken",
  "NotTied",
  "AlreadyTied",
  "TooMany",
  "InvalidPeople",
  "InvalidTies",
  "OtherSize",
  "NotAGathering",
  "NotAParty",
  "NotAThing",
  "InvalidName",
  "InvalidIndex",
  "InvalidPerson",
  "InvalidKind",
  "InvalidNumber",
  "InvalidText",
  "is_integer",
  "is_between",
  "check_people",
  "check_two"]
def hNames1 : List Str := ["pairs_of",
  "most_rings",
  "most_groups",
  "most_pairs",
  "is_all_tied",
  "most_of",
  "wrong_tie",
  "all_ties",
  "_law_purse",
  "_law_draw",
  "_law_things",
  "_law_sort",
  "_law_attribute",
  "_law_told",
  "_law_right",
  "law"]
def hNames : List Str := hNames0 ++ hNames1
def hLoose0 : List Str := ["_wall",
  "__name__",
  "WrongValue",
  "NoAnswer",
  "InvalidText",
  "InvalidNumber",
  "InvalidKind",
  "InvalidPerson",
  "InvalidIndex",
  "InvalidName",
  "NotAThing",
  "NotAParty",
  "NotAGathering",
  "OtherSize",
  "InvalidTies",
  "InvalidPeople",
  "TooMany",
  "AlreadyTied",
  "NotTied",
  "Broken",
  "Unruly",
  "Holding",
  "UnknownName",
  "NothingToUndo",
  "MOST_PEOPLE",
  "MOST_ASKED",
  "DIGITS",
  "is_integer",
  "is_between",
  "check_people"]
def hLoose1 : List Str := ["check_two",
  "number_of",
  "pairs_of",
  "tie_of",
  "is_tie",
  "wrong_tie",
  "all_ties",
  "Party",
  "beside",
  "check_party",
  "check_same",
  "tie_in",
  "party_with",
  "LEAST",
  "PLAIN",
  "most_pairs",
  "most_rings",
  "most_groups",
  "most_of",
  "is_all_tied",
  "is_star_tie",
  "is_ring_tie",
  "is_rule_tie",
  "ring_size",
  "fewest_people",
  "least_of",
  "Thing",
  "thing_with",
  "_law_purse",
  "_law_draw"]
def hLoose2 : List Str := ["_law_things",
  "_law_sort",
  "_law_attribute",
  "_law_told",
  "_law_right"]
def hLoose : List Str := hLoose0 ++ hLoose1 ++ hLoose2
def hTabs : List (Str × List (Str × Int)) := [("LEAST", tab_LEAST)]
def hd : HeadK := ⟨hNames, 4, ["_law_right"], hFacts, hDefs, hTabs⟩
abbrev Rw : PySem.W.OpenRow := PySem.W.OpenLaw.row PySem.Challenge.rw_forcedties_k13_thing_calls_refused
abbrev qv : Program := PySem.W.view Rw.prog [69]
set_option maxHeartbeats 0 in
theorem run_false (w : World) : HandSHeadRun.RunEq Rw qv hd.hook hd.ob 60000 hLoose (w.withFollow "special-get-raises" false) := by
  intro os
  kernel_rfl
set_option maxHeartbeats 0 in
theorem run_true (w : World) : HandSHeadRun.RunEq Rw qv hd.hook hd.ob 60000 hLoose (w.withFollow "special-get-raises" true) := by
  intro os
  kernel_rfl
theorem run (w : World) : HandSHeadRun.RunEq Rw qv hd.hook hd.ob 60000 hLoose w := PySem.W.byRow2 "special-get-raises" (P := fun w => HandSHeadRun.RunEq Rw qv hd.hook hd.ob 60000 hLoose w) run_false run_true w
theorem facts {l : PySem.W.OpenLaw} {w : World} {K : Fr} {h : Heap} {mg : Str → Option Value} {fa : Addr} (G : h.Ns mainGlobals mg) (hfa : mg "law" = some (.ref fa)) (c : hd.Says w h K) :
    ∃ (fd : FuncData) (cs : List (Addr × Addr)), (∀ p ∈ cs, PySem.W.CodeHd h p.1 p.2) ∧ (∀ p ∈ cs, h.get? p.2 = some { cls := .none, data := .fields #[] }) ∧ (∀ p ∈ cs, K.lookup p.2 = none) ∧ (∀ (s : Shared) (v : Value), BindsTo s fd ⟨[v], []⟩ [("_law_script", v)]) ∧
      ∀ base : Heap, K.In base → base.Ns mainGlobals mg → (∀ p ∈ cs, LamX.TabB base mg p.1 p.2) → FnG l.prog w K mg base 16 fa fd ["_law_script"] (spScrT K (cs.map (·.2))) := by
  obtain ⟨t_MOST_ASKED, c_MOST_ASKED⟩ := int_at (c.fact 14 _ rfl)
  obtain ⟨t_MOST_PEOPLE, c_MOST_PEOPLE⟩ := int_at (c.fact 15 _ rfl)
  obtain ⟨es_LEAST, cn_LEAST, l_LEAST, o_LEAST⟩ := tb_at (c.tab 0 _ rfl)
  obtain ⟨gd_PLAIN, gi_PLAIN, gn_PLAIN, gs_PLAIN, tl_PLAIN, tz_PLAIN, tv_PLAIN⟩ := tup_at (c.fact 18 _ rfl)
  obtain ⟨oc_InvalidNumber, od_InvalidNumber, sl_InvalidNumber, kV_InvalidNumber, dc_InvalidNumber, pm_InvalidNumber, an_InvalidNumber, cd_InvalidNumber, ct_InvalidNumber, l_InvalidNumber, c_InvalidNumber, k_InvalidNumber⟩ := def_at (c.def_ 0 _ rfl).1 (c.def_ 0 _ rfl).2
  obtain ⟨oc_TooMany, od_TooMany, sl_TooMany, kV_TooMany, dc_TooMany, pm_TooMany, an_TooMany, cd_TooMany, ct_TooMany, l_TooMany, c_TooMany, k_TooMany⟩ := def_at (c.def_ 1 _ rfl).1 (c.def_ 1 _ rfl).2
  obtain ⟨oc_InvalidPerson, od_InvalidPerson, sl_InvalidPerson, kV_InvalidPerson, dc_InvalidPerson, pm_InvalidPerson, an_InvalidPerson, cd_InvalidPerson, ct_InvalidPerson, l_InvalidPerson, c_InvalidPerson, k_InvalidPerson⟩ := def_at (c.def_ 2 _ rfl).1 (c.def_ 2 _ rfl).2
  obtain ⟨oc_is_integer, od_is_integer, sl_is_integer, kV_is_integer, dc_is_integer, pm_is_integer, an_is_integer, cd_is_integer, ct_is_integer, l_is_integer, c_is_integer, k_is_integer⟩ := def_at (c.def_ 3 _ rfl).1 (c.def_ 3 _ rfl).2
  obtain ⟨oc_is_between, od_is_between, sl_is_between, kV_is_between, dc_is_between, pm_is_between, an_is_between, cd_is_between, ct_is_between, l_is_between, c_is_between, k_is_between⟩ := def_at (c.def_ 4 _ rfl).1 (c.def_ 4 _ rfl).2
  obtain ⟨oc_check_people, od_check_people, sl_check_people, kV_check_people, dc_check_people, pm_check_people, an_check_people, cd_check_people, ct_check_people, l_check_people, c_check_people, k_check_people⟩ := def_at (c.def_ 5 _ rfl).1 (c.def_ 5 _ rfl).2
  obtain ⟨oc_check_two, od_check_two, sl_check_two, kV_check_two, dc_check_two, pm_check_two, an_check_two, cd_check_two, ct_check_two, l_check_two, c_check_two, k_check_two⟩ := def_at (c.def_ 6 _ rfl).1 (c.def_ 6 _ rfl).2
  obtain ⟨oc_pairs_of, od_pairs_of, sl_pairs_of, kV_pairs_of, dc_pairs_of, pm_pairs_of, an_pairs_of, cd_pairs_of, ct_pairs_of, l_pairs_of, c_pairs_of, k_pairs_of⟩ := def_at (c.def_ 7 _ rfl).1 (c.def_ 7 _ rfl).2
  obtain ⟨oc_most_rings, od_most_rings, sl_most_rings, kV_most_rings, dc_most_rings, pm_most_rings, an_most_rings, cd_most_rings, ct_most_rings, l_most_rings, c_most_rings, k_most_rings⟩ := def_at (c.def_ 8 _ rfl).1 (c.def_ 8 _ rfl).2
  obtain ⟨oc_most_groups, od_most_groups, sl_most_groups, kV_most_groups, dc_most_groups, pm_most_groups, an_most_groups, cd_most_groups, ct_most_groups, l_most_groups, c_most_groups, k_most_groups⟩ := def_at (c.def_ 9 _ rfl).1 (c.def_ 9 _ rfl).2
  obtain ⟨oc_most_pairs, od_most_pairs, sl_most_pairs, kV_most_pairs, dc_most_pairs, pm_most_pairs, an_most_pairs, cd_most_pairs, ct_most_pairs, l_most_pairs, c_most_pairs, k_most_pairs⟩ := def_at (c.def_ 10 _ rfl).1 (c.def_ 10 _ rfl).2
  obtain ⟨oc_is_all_tied, od_is_all_tied, sl_is_all_tied, kV_is_all_tied, dc_is_all_tied, pm_is_all_tied, an_is_all_tied, cd_is_all_tied, ct_is_all_tied, l_is_all_tied, c_is_all_tied, k_is_all_tied⟩ := def_at (c.def_ 11 _ rfl).1 (c.def_ 11 _ rfl).2
  obtain ⟨oc_most_of, od_most_of, sl_most_of, kV_most_of, dc_most_of, pm_most_of, an_most_of, cd_most_of, ct_most_of, l_most_of, c_most_of, k_most_of⟩ := def_at (c.def_ 12 _ rfl).1 (c.def_ 12 _ rfl).2
  obtain ⟨oc_Thing___init__, od_Thing___init__, sl_Thing___init__, kV_Thing___init__, dc_Thing___init__, pm_Thing___init__, an_Thing___init__, cd_Thing___init__, ct_Thing___init__, l_Thing___init__, c_Thing___init__, k_Thing___init__⟩ := def_at (c.def_ 13 _ rfl).1 (c.def_ 13 _ rfl).2
  obtain ⟨do_Thing___init__, dd_Thing___init__, di_Thing___init__, dn_Thing___init__, ds_Thing___init__, dl_Thing___init__, dv_Thing___init__⟩ := seq_at (c.fact 81 _ rfl)
  obtain ⟨oc_wrong_tie, od_wrong_tie, sl_wrong_tie, kV_wrong_tie, dc_wrong_tie, pm_wrong_tie, an_wrong_tie, cd_wrong_tie, ct_wrong_tie, l_wrong_tie, c_wrong_tie, k_wrong_tie⟩ := def_at (c.def_ 14 _ rfl).1 (c.def_ 14 _ rfl).2
  obtain ⟨oc_all_ties, od_all_ties, sl_all_ties, kV_all_ties, dc_all_ties, pm_all_ties, an_all_ties, cd_all_ties, ct_all_ties, l_all_ties, c_all_ties, k_all_ties⟩ := def_at (c.def_ 15 _ rfl).1 (c.def_ 15 _ rfl).2
  obtain ⟨oc_Party___init__, od_Party___init__, sl_Party___init__, kV_Party___init__, dc_Party___init__, pm_Party___init__, an_Party___init__, cd_Party___init__, ct_Party___init__, l_Party___init__, c_Party___init__, k_Party___init__⟩ := def_at (c.def_ 16 _ rfl).1 (c.def_ 16 _ rfl).2
  obtain ⟨do_Party___init__, dd_Party___init__, di_Party___init__, dn_Party___init__, ds_Party___init__, dl_Party___init__, dv_Party___init__⟩ := seq_at (c.fact 86 _ rfl)
  obtain ⟨eo_Party, ei_Party, en_Party, es_Party, te_Party, tt_Party⟩ := tup0_at (c.fact 87 _ rfl)
  obtain ⟨pr_Party_people, px_Party_people⟩ := pr_at (c.fact 91 _ rfl)
  obtain ⟨oc_Party_people, od_Party_people, sl_Party_people, kV_Party_people, dc_Party_people, pm_Party_people, an_Party_people, cd_Party_people, ct_Party_people, l_Party_people, c_Party_people, k_Party_people⟩ := def_at (c.def_ 17 _ rfl).1 (c.def_ 17 _ rfl).2
  obtain ⟨oc_Thing_most, od_Thing_most, sl_Thing_most, kV_Thing_most, dc_Thing_most, pm_Thing_most, an_Thing_most, cd_Thing_most, ct_Thing_most, l_Thing_most, c_Thing_most, k_Thing_most⟩ := def_at (c.def_ 18 _ rfl).1 (c.def_ 18 _ rfl).2
  obtain ⟨oc_Thing_forced, od_Thing_forced, sl_Thing_forced, kV_Thing_forced, dc_Thing_forced, pm_Thing_forced, an_Thing_forced, cd_Thing_forced, ct_Thing_forced, l_Thing_forced, c_Thing_forced, k_Thing_forced⟩ := def_at (c.def_ 19 _ rfl).1 (c.def_ 19 _ rfl).2
  obtain ⟨oc_Thing_tied, od_Thing_tied, sl_Thing_tied, kV_Thing_tied, dc_Thing_tied, pm_Thing_tied, an_Thing_tied, cd_Thing_tied, ct_Thing_tied, l_Thing_tied, c_Thing_tied, k_Thing_tied⟩ := def_at (c.def_ 20 _ rfl).1 (c.def_ 20 _ rfl).2
  obtain ⟨oc_Thing_fullest, od_Thing_fullest, sl_Thing_fullest, kV_Thing_fullest, dc_Thing_fullest, pm_Thing_fullest, an_Thing_fullest, cd_Thing_fullest, ct_Thing_fullest, l_Thing_fullest, c_Thing_fullest, k_Thing_fullest⟩ := def_at (c.def_ 21 _ rfl).1 (c.def_ 21 _ rfl).2
  obtain ⟨oc__law_purse, od__law_purse, sl__law_purse, kV__law_purse, dc__law_purse, pm__law_purse, an__law_purse, cd__law_purse, ct__law_purse, l__law_purse, c__law_purse, k__law_purse⟩ := def_at (c.def_ 22 _ rfl).1 (c.def_ 22 _ rfl).2
  obtain ⟨oc__law_draw, od__law_draw, sl__law_draw, kV__law_draw, dc__law_draw, pm__law_draw, an__law_draw, cd__law_draw, ct__law_draw, l__law_draw, c__law_draw, k__law_draw⟩ := def_at (c.def_ 23 _ rfl).1 (c.def_ 23 _ rfl).2
  obtain ⟨oc__law_things, od__law_things, sl__law_things, kV__law_things, dc__law_things, pm__law_things, an__law_things, cd__law_things, ct__law_things, l__law_things, c__law_things, k__law_things⟩ := def_at (c.def_ 24 _ rfl).1 (c.def_ 24 _ rfl).2
  obtain ⟨oc__law_sort, od__law_sort, sl__law_sort, kV__law_sort, dc__law_sort, pm__law_sort, an__law_sort, cd__law_sort, ct__law_sort, l__law_sort, c__law_sort, k__law_sort⟩ := def_at (c.def_ 25 _ rfl).1 (c.def_ 25 _ rfl).2
  obtain ⟨oc__law_attribute, od__law_attribute, sl__law_attribute, kV__law_attribute, dc__law_attribute, pm__law_attribute, an__law_attribute, cd__law_attribute, ct__law_attribute, l__law_attribute, c__law_attribute, k__law_attribute⟩ := def_at (c.def_ 26 _ rfl).1 (c.def_ 26 _ rfl).2
  obtain ⟨oc__law_told, od__law_told, sl__law_told, kV__law_told, dc__law_told, pm__law_told, an__law_told, cd__law_told, ct__law_told, l__law_told, c__law_told, k__law_told⟩ := def_at (c.def_ 27 _ rfl).1 (c.def_ 27 _ rfl).2
  obtain ⟨oc__law_right, od__law_right, sl__law_right, kV__law_right, dc__law_right, pm__law_right, an__law_right, cd__law_right, ct__law_right, l__law_right, c__law_right, k__law_right⟩ := def_at (c.def_ 28 _ rfl).1 (c.def_ 28 _ rfl).2
  obtain ⟨⟨lv__law_right, ld__law_right, la__law_right, ls__law_right, lk__law_right, lp__law_right⟩, lh__law_right, ln__law_right, cdr__law_right⟩ := lam_at (c.lam 0 _ rfl).1
  obtain ⟨oc_law, od_law, sl_law, kV_law, dc_law, pm_law, an_law, cd_law, ct_law, l_law, c_law, k_law⟩ := def_at (c.def_ 29 _ rfl).1 (c.def_ 29 _ rfl).2
  exact all_mk c.in_ G hfa (He.eqO_ok (c.fact 0 _ rfl))
    (He.eqO_ok (c.fact 1 _ rfl))
    (He.eqO_ok (c.fact 2 _ rfl))
    (He.eqO_ok (c.fact 3 _ rfl))
    (He.eqO_ok (c.fact 4 _ rfl))
    (He.eqO_ok (c.fact 5 _ rfl))
    (He.eqO_ok (c.fact 6 _ rfl))
    (He.eqO_ok (c.fact 7 _ rfl))
    (He.eqO_ok (c.fact 8 _ rfl))
    (He.eqO_ok (c.fact 9 _ rfl))
    (He.eqO_ok (c.fact 10 _ rfl))
    (He.eqO_ok (c.fact 11 _ rfl))
    (He.eqO_ok (c.fact 12 _ rfl))
    (He.eqO_ok (c.fact 13 _ rfl))
    c_MOST_ASKED
    c_MOST_PEOPLE
    (He.eqO_ok (c.fact 16 _ rfl))
    l_LEAST
    o_LEAST
    (notB (c.fact 17 _ rfl))
    (He.eqO_ok (c.fact 19 _ rfl))
    tl_PLAIN
    tz_PLAIN
    tv_PLAIN
    (He.eqO_ok (c.fact 20 _ rfl))
    (c.fact 21 _ rfl)
    (c.fact 22 _ rfl)
    (c.fact 23 _ rfl)
    (He.eqO_ok (c.fact 24 _ rfl))
    (c.fact 25 _ rfl)
    (c.fact 26 _ rfl)
    (He.eqO_ok (c.fact 27 _ rfl))
    (c.fact 28 _ rfl)
    (c.fact 29 _ rfl)
    (c.fact 30 _ rfl)
    (He.eqO_ok (c.fact 31 _ rfl))
    (c.fact 32 _ rfl)
    (c.fact 33 _ rfl)
    (He.eqO_ok (c.fact 34 _ rfl))
    (He.eqO_ok (c.fact 35 _ rfl))
    (He.eqO_ok (c.fact 36 _ rfl))
    (He.eqO_ok (c.fact 37 _ rfl))
    (He.eqO_ok (c.fact 38 _ rfl))
    (He.eqO_ok (c.fact 39 _ rfl))
    (He.eqO_ok (c.fact 40 _ rfl))
    (He.eqO_ok (c.fact 41 _ rfl))
    (He.eqO_ok (c.fact 42 _ rfl))
    (He.eqO_ok (c.fact 43 _ rfl))
    (He.eqO_ok (c.fact 44 _ rfl))
    (He.eqO_ok (c.fact 45 _ rfl))
    (He.eqO_ok (c.fact 46 _ rfl))
    (He.eqO_ok (c.fact 47 _ rfl))
    (He.eqO_ok (c.fact 48 _ rfl))
    (He.eqO_ok (c.fact 49 _ rfl))
    (He.eqO_ok (c.fact 50 _ rfl))
    (He.eqO_ok (c.fact 51 _ rfl))
    (He.eqO_ok (c.fact 52 _ rfl))
    (He.eqO_ok (c.fact 53 _ rfl))
    (He.eqO_ok (c.fact 54 _ rfl))
    (He.eqO_ok (c.fact 55 _ rfl))
    (He.eqO_ok (c.fact 56 _ rfl))
    (He.eqO_ok (c.fact 57 _ rfl))
    (He.eqO_ok (c.fact 58 _ rfl))
    (He.eqO_ok (c.fact 59 _ rfl))
    (He.eqO_ok (c.fact 60 _ rfl))
    (of_decide_eq_true (c.fact 61 _ rfl))
    l_InvalidNumber
    c_InvalidNumber
    k_InvalidNumber
    (c.fact 62 _ rfl)
    (He.eqO_ok (c.fact 63 _ rfl))
    (of_decide_eq_true (c.fact 64 _ rfl))
    l_TooMany
    c_TooMany
    k_TooMany
    (c.fact 65 _ rfl)
    (He.eqO_ok (c.fact 66 _ rfl))
    (of_decide_eq_true (c.fact 67 _ rfl))
    l_InvalidPerson
    c_InvalidPerson
    k_InvalidPerson
    (c.fact 68 _ rfl)
    (He.eqO_ok (c.fact 69 _ rfl))
    l_is_integer
    c_is_integer
    k_is_integer
    (He.eqO_ok (c.fact 70 _ rfl))
    l_is_between
    c_is_between
    k_is_between
    (He.eqO_ok (c.fact 71 _ rfl))
    l_check_people
    c_check_people
    k_check_people
    (He.eqO_ok (c.fact 72 _ rfl))
    l_check_two
    c_check_two
    k_check_two
    (He.eqO_ok (c.fact 73 _ rfl))
    l_pairs_of
    c_pairs_of
    k_pairs_of
    (He.eqO_ok (c.fact 74 _ rfl))
    l_most_rings
    c_most_rings
    k_most_rings
    (He.eqO_ok (c.fact 75 _ rfl))
    l_most_groups
    c_most_groups
    k_most_groups
    (He.eqO_ok (c.fact 76 _ rfl))
    l_most_pairs
    c_most_pairs
    k_most_pairs
    (He.eqO_ok (c.fact 77 _ rfl))
    l_is_all_tied
    c_is_all_tied
    k_is_all_tied
    (He.eqO_ok (c.fact 78 _ rfl))
    l_most_of
    c_most_of
    k_most_of
    (He.eqO_ok (c.fact 79 _ rfl))
    (c.fact 80 _ rfl)
    l_Thing___init__
    c_Thing___init__
    k_Thing___init__
    dl_Thing___init__
    dv_Thing___init__
    (He.eqO_ok (c.fact 82 _ rfl))
    l_wrong_tie
    c_wrong_tie
    k_wrong_tie
    (He.eqO_ok (c.fact 83 _ rfl))
    l_all_ties
    c_all_ties
    k_all_ties
    (He.eqO_ok (c.fact 84 _ rfl))
    (c.fact 85 _ rfl)
    l_Party___init__
    c_Party___init__
    k_Party___init__
    dl_Party___init__
    dv_Party___init__
    te_Party
    tt_Party
    (He.eqO_ok (c.fact 88 _ rfl))
    (He.eqO_ok (c.fact 89 _ rfl))
    (of_decide_eq_true (c.fact 90 _ rfl))
    px_Party_people
    l_Party_people
    c_Party_people
    k_Party_people
    (He.eqO_ok (c.fact 92 _ rfl))
    (c.fact 93 _ rfl)
    l_Thing_most
    c_Thing_most
    k_Thing_most
    (He.eqO_ok (c.fact 94 _ rfl))
    (c.fact 95 _ rfl)
    l_Thing_forced
    c_Thing_forced
    k_Thing_forced
    (He.eqO_ok (c.fact 96 _ rfl))
    (c.fact 97 _ rfl)
    l_Thing_tied
    c_Thing_tied
    k_Thing_tied
    (He.eqO_ok (c.fact 98 _ rfl))
    (c.fact 99 _ rfl)
    l_Thing_fullest
    c_Thing_fullest
    k_Thing_fullest
    (He.eqO_ok (c.fact 100 _ rfl))
    l__law_purse
    c__law_purse
    k__law_purse
    (He.eqO_ok (c.fact 101 _ rfl))
    l__law_draw
    c__law_draw
    k__law_draw
    (He.eqO_ok (c.fact 102 _ rfl))
    l__law_things
    c__law_things
    k__law_things
    (He.eqO_ok (c.fact 103 _ rfl))
    l__law_sort
    c__law_sort
    k__law_sort
    (He.eqO_ok (c.fact 104 _ rfl))
    l__law_attribute
    c__law_attribute
    k__law_attribute
    (He.eqO_ok (c.fact 105 _ rfl))
    l__law_told
    c__law_told
    k__law_told
    (He.eqO_ok (c.fact 106 _ rfl))
    l__law_right
    c__law_right
    k__law_right
    (cdr__law_right _ _ _ _ l__law_right)
    lk__law_right
    lp__law_right
    lh__law_right
    ln__law_right
    (c.lam 0 _ rfl).2
    (He.eqO_ok (c.fact 107 _ rfl))
    l_law
    c_law
    k_law
end LW
open PySem PySem.W PySem.Calls PyProof.Rows in
set_option maxRecDepth 100000 in
set_option maxHeartbeats 0 in
theorem PySem.Challenge.cw_forcedties_k13_thing_calls_refused_holds : PySem.Challenge.rw_forcedties_k13_thing_calls_refused.Holds := by
  w_on; o_law
  refine HandSHeadRun.head_any (r := OpenLaw.row PySem.Challenge.rw_forcedties_k13_thing_calls_refused) (q := LW.qv) (H := LW.hd.hook) (ob := LW.hd.ob) (M := 60000) (loose := LW.hLoose) (d := HandSHeadRun.topDef (OpenLaw.row PySem.Challenge.rw_forcedties_k13_thing_calls_refused).prog 69) (kwd := []) LW.hd.ob_eq
    (by kernel_rfl) (fun s => by kernel_rfl) LW.run (by kernel_rfl) (by kernel_rfl) (by kernel_rfl) (by rfl) (by first | assumption | decide +kernel) (by decide +kernel) ⟨rfl, rfl, rfl, rfl, rfl, by decide +kernel⟩ ?hw ?hc
  case hw => w_witness2
  case hc =>
    refine DL.walkET (l := PySem.Challenge.rw_forcedties_k13_thing_calls_refused) (k := 16) (x := "_law_script") rfl (by kernel_rfl) ⟨rfl, by decide, by decide⟩ ?F
    intro w mg fa h Y G hmg0
    obtain ⟨K, c⟩ := Y
    have hmg : mg ("law" : PySem.Str) = some (.ref fa) := by
      have e : (HandSHeadRun.topDef (OpenLaw.row PySem.Challenge.rw_forcedties_k13_thing_calls_refused).prog 69).name = ("law" : PySem.Str) := by kernel_rfl
      rw [← e]
      exact hmg0
    obtain ⟨fd, cs, h1, h2, h3, hb, hF⟩ := LW.facts (l := PySem.Challenge.rw_forcedties_k13_thing_calls_refused) G hmg c
    exact ⟨K, fd, cs, c.in_, h1, h2, h3, hb, hF⟩
